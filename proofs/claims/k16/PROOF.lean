import PyProof.Rows.All
import Wide.All
import OpenK.AllK
import Wide.FinOn
import HandS.ForMost
import HandS.ForExc
import KE.KDictKeyed
import KE.KSortTupG
import KE.Datum
import KE.DatumOrd
import KE.DatumMore
import KE.DatumMoreOrd
import HandS.TupAny
import HandS.RevTup
import HandS.TupLen
import KE.DataCmp
import KE.DataEq
import KE.DataMinMax
import HandS.IsInst
import HandS.Style
import HandS.Zip
import HandS.Rev
import KE.SortData
import HandS.SetKeys
import KE.KDictWalk
import KE.KDictSum
import HandS.TupSets
import KE.KDictExact
import HandS.ExcValue
import HandS.EndBits
import PySem.Challenge.RW_bothfaces_k16_one_less_another
set_option Elab.async false
set_option linter.all false
set_option maxRecDepth 100000
set_option maxHeartbeats 4000000
namespace Mi
open PySem

inductive P where
  | non | bl (b : Bool) | int (i : Int) | str (x : Str) | tup (xs : List P)
inductive W where
  | p (x : P) | ref (n : Nat) | tup (xs : List W) | fl (xs : List P)

mutual
def P.eqb : P → P → Bool
  | .non, .non => true
  | .bl a, .bl b => a == b
  | .int a, .int b => decide (a = b)
  | .str a, .str b => decide (a = b)
  | .tup a, .tup b => P.eqbs a b
  | _, _ => false
def P.eqbs : List P → List P → Bool
  | [], [] => true
  | a :: s, b :: t => P.eqb a b && P.eqbs s t
  | _, _ => false
end
mutual
theorem P.eqb_self : ∀ a : P, P.eqb a a = true
  | .non => rfl
  | .bl a => by simp [P.eqb]
  | .int a => by simp [P.eqb]
  | .str a => by simp [P.eqb]
  | .tup a => by rw [P.eqb]; exact P.eqbs_self a
theorem P.eqbs_self : ∀ a : List P, P.eqbs a a = true
  | [] => rfl
  | a :: s => by rw [P.eqbs, P.eqb_self a, P.eqbs_self s]; rfl
end
mutual
theorem P.of_eqb : ∀ a b : P, P.eqb a b = true → a = b
  | .non, b, h => by cases b <;> simp_all [P.eqb]
  | .bl a, b, h => by cases b <;> simp_all [P.eqb]
  | .int a, b, h => by cases b <;> simp_all [P.eqb]
  | .str a, b, h => by cases b <;> simp_all [P.eqb]
  | .tup a, b, h => by
    cases b with
    | tup b => rw [P.eqb] at h; rw [P.of_eqbs a b h]
    | _ => simp [P.eqb] at h
theorem P.of_eqbs : ∀ a b : List P, P.eqbs a b = true → a = b
  | [], [], _ => rfl
  | [], _ :: _, h => by simp [P.eqbs] at h
  | _ :: _, [], h => by simp [P.eqbs] at h
  | a :: s, b :: t, h => by
    rw [P.eqbs, Bool.and_eq_true] at h
    rw [P.of_eqb a b h.1, P.of_eqbs s t h.2]
end
instance : DecidableEq P := fun a b => if h : P.eqb a b = true then isTrue (P.of_eqb a b h) else isFalse fun e => h (e ▸ P.eqb_self a)
mutual
def W.eqb : W → W → Bool
  | .p a, .p b => decide (a = b)
  | .ref a, .ref b => decide (a = b)
  | .tup a, .tup b => W.eqbs a b
  | .fl a, .fl b => decide (a = b)
  | _, _ => false
def W.eqbs : List W → List W → Bool
  | [], [] => true
  | a :: s, b :: t => W.eqb a b && W.eqbs s t
  | _, _ => false
end
mutual
theorem W.eqb_self : ∀ a : W, W.eqb a a = true
  | .p a => by simp [W.eqb]
  | .ref a => by simp [W.eqb]
  | .tup a => by rw [W.eqb]; exact W.eqbs_self a
  | .fl a => by simp [W.eqb]
theorem W.eqbs_self : ∀ a : List W, W.eqbs a a = true
  | [] => rfl
  | a :: s => by rw [W.eqbs, W.eqb_self a, W.eqbs_self s]; rfl
end
mutual
theorem W.of_eqb : ∀ a b : W, W.eqb a b = true → a = b
  | .p a, b, h => by cases b <;> simp_all [W.eqb]
  | .ref a, b, h => by cases b <;> simp_all [W.eqb]
  | .tup a, b, h => by
    cases b with
    | tup b => rw [W.eqb] at h; rw [W.of_eqbs a b h]
    | _ => simp [W.eqb] at h
  | .fl a, b, h => by cases b <;> simp_all [W.eqb]
theorem W.of_eqbs : ∀ a b : List W, W.eqbs a b = true → a = b
  | [], [], _ => rfl
  | [], _ :: _, h => by simp [W.eqbs] at h
  | _ :: _, [], h => by simp [W.eqbs] at h
  | a :: s, b :: t, h => by
    rw [W.eqbs, Bool.and_eq_true] at h
    rw [W.of_eqb a b h.1, W.of_eqbs s t h.2]
end
instance : DecidableEq W := fun a b => if h : W.eqb a b = true then isTrue (W.of_eqb a b h) else isFalse fun e => h (e ▸ W.eqb_self a)

inductive MO where
  | lst (xs : List W) | dic (kvs : List (P × W)) | set (xs : List P) | ins (c : Nat) (fs : List (Str × W)) | exc (c : Nat) (fs : List P)
  deriving DecidableEq
abbrev Hm := List MO
abbrev En := List (Option W)

inductive R (α : Type) where
  | ok (a : α) (M : Hm) | err (c : Nat) (fs : List P) (M : Hm) | bad
def R.bnd {α β : Type} (r : R α) (k : α → Hm → R β) : R β := match r with
  | .ok a M => k a M
  | .err c fs M => .err c fs M
  | .bad => .bad
@[simp] theorem R.bnd_ok {α β : Type} (a : α) (M : Hm) (k : α → Hm → R β) : (R.ok a M).bnd k = k a M := rfl
@[simp] theorem R.bnd_err {α β : Type} (c : Nat) (fs : List P) (M : Hm) (k : α → Hm → R β) : (R.err c fs M : R α).bnd k = .err c fs M := rfl
@[simp] theorem R.bnd_bad {α β : Type} (k : α → Hm → R β) : (R.bad : R α).bnd k = .bad := rfl

def W.pure? : W → Option P
  | .p x => some x
  | _ => none
def pures : List W → Option (List P)
  | [] => some []
  | .p x :: ws => (pures ws).map (x :: ·)
  | _ :: _ => none
def mkTup (ws : List W) : W := match pures ws with
  | some xs => .p (.tup xs)
  | none => .tup ws
def tidy (M0 : Hm) (r : R W) : R W := match r with
  | .ok w M => if M.take M0.length = M0 then
      match w with
      | .p x => .ok (.p x) M0
      | .ref k => if k < M0.length then .ok (.ref k) M0 else
          match M[k]? with
          | some (.lst xs) => if (pures xs).isSome then .ok (.ref M0.length) (M0 ++ [.lst xs]) else .ok (.ref k) M
          | _ => .ok (.ref k) M
      | .tup ws => .ok (.tup ws) M
      | .fl xs => .ok (.fl xs) M0
    else .ok w M
  | .err c fs M => if M.take M0.length = M0 then .err c fs M0 else .err c fs M
  | .bad => .bad

mutual
def P.toD : P → PyData
  | .non => .none
  | .bl b => .bool b
  | .int i => .int i
  | .str x => .str x
  | .tup xs => .tuple (P.toDs xs)
def P.toDs : List P → List PyData
  | [] => []
  | x :: xs => P.toD x :: P.toDs xs
end
def mapO {α β : Type} (f : α → Option β) : List α → Option (List β)
  | [] => some []
  | x :: xs => match f x with
    | some y => (mapO f xs).map (y :: ·)
    | none => none
def toD (M : Hm) : Nat → W → Option PyData
  | _, .p x => some x.toD
  | _, .fl xs => some (.list (P.toDs xs))
  | 0, _ => none
  | n + 1, .ref k => match M[k]? with
    | some (.lst xs) => (mapO (toD M n) xs).map .list
    | _ => none
  | n + 1, .tup ws => (mapO (toD M n) ws).map .tuple
def deepest : Nat := 8
def dataOf (M : Hm) (w : W) : Option PyData := match toD M deepest w with
  | some d => if d.depth ≤ 100 then some d else none
  | none => none
def seqOf (M : Hm) : W → Option (List W)
  | .p (.tup xs) => some (xs.map .p)
  | .tup ws => some ws
  | .ref k => match M[k]? with
    | some (.lst xs) => some xs
    | _ => none
  | .fl xs => some (xs.map .p)
  | _ => none
def signsOf (x : Str) : List W := x.cps.toList.map fun c => .p (.str ⟨#[c]⟩)

abbrev okV (x : P) (M : Hm) : R W := .ok (.p x) M
def newO (o : MO) (M : Hm) : R W := .ok (.ref M.length) (M ++ [o])
def ofO (o : Option P) (M : Hm) : R W := match o with
  | some x => .ok (.p x) M
  | none => .bad
def ofB (o : Option Bool) (M : Hm) : R W := match o with
  | some x => .ok (.p (.bl x)) M
  | none => .bad

def tupItems : W → Option (List W)
  | .p (.tup xs) => some (xs.map .p)
  | .tup ws => some ws
  | _ => none
inductive Op where
  | add | sub | mul | fdiv | mod | pow | bor
  deriving DecidableEq
def mulOk (i j : Int) : Bool := (decide (-(2 ^ 64) < i) && decide (i < 2 ^ 64)) || (decide (-(2 ^ 64) < j) && decide (j < 2 ^ 64))
def big : Nat := 16777216
def addV : W → W → Hm → R W
  | .p (.int i), .p (.int j), M => okV (.int (i + j)) M
  | .p (.str x), .p (.str y), M => if x.length + y.length ≤ big then okV (.str (x ++ y)) M else .bad
  | .ref a, .ref b, M => match M[a]?, M[b]? with
    | some (.lst xs), some (.lst ys) => if xs.length + ys.length ≤ big then newO (.lst (xs ++ ys)) M else .bad
    | _, _ => .bad
  | x, y, M => match tupItems x, tupItems y with
    | some xs, some ys => if xs.length + ys.length ≤ big then .ok (mkTup (xs ++ ys)) M else .bad
    | _, _ => .bad
def subV : W → W → Hm → R W
  | .p (.int i), .p (.int j), M => okV (.int (i - j)) M
  | _, _, _ => .bad
def mulV : W → W → Hm → R W
  | .p (.int i), .p (.int j), M => if mulOk i j then okV (.int (i * j)) M else .bad
  | .ref a, .p (.int j), M => match M[a]? with
    | some (.lst xs) => if j < 1000000 ∧ -1000000 < j ∧ xs.length * j.toNat ≤ big then newO (.lst (List.replicate j.toNat xs).flatten) M else .bad
    | _ => .bad
  | _, _, _ => .bad
def fdivV : W → W → Hm → R W
  | .p (.int i), .p (.int j), M => if 0 < j ∧ j < 1073741824 then okV (.int (i / j)) M else .bad
  | _, _, _ => .bad
def modV : W → W → Hm → R W
  | .p (.int i), .p (.int j), M => if 0 < j then okV (.int (i % j)) M else .bad
  | _, _, _ => .bad
def powV : W → W → Hm → R W
  | .p (.int i), .p (.int j), M => if 0 ≤ j ∧ j ≤ 1000000 ∧ i.natAbs < 2 ^ 64 then okV (.int (i ^ j.toNat)) M else .bad
  | _, _, _ => .bad
def borV : W → W → Hm → R W
  | .ref a, .ref b, M => match M[a]?, M[b]? with
    | some (.set xs), some (.set ys) => newO (.set (xs ++ ys.filter fun y => !xs.contains y)) M
    | _, _ => .bad
  | _, _, _ => .bad
def opV : Op → W → W → Hm → R W
  | .add => addV
  | .sub => subV
  | .mul => mulV
  | .fdiv => fdivV
  | .mod => modV
  | .pow => powV
  | .bor => borV

mutual
def P.key : P → NestedKey
  | .non => .none
  | .bl b => .num (if b = true then 1 else 0)
  | .int i => .num i
  | .str x => .text x
  | .tup xs => .tup (P.keys xs)
def P.keys : List P → List NestedKey
  | [] => []
  | x :: xs => P.key x :: P.keys xs
end
mutual
def P.noB : P → Bool
  | .bl _ => false
  | .tup xs => P.noBs xs
  | _ => true
def P.noBs : List P → Bool
  | [] => true
  | x :: xs => P.noB x && P.noBs xs
end
def keyT : P → Option NestedKey
  | .tup xs => if P.noBs xs = true ∧ (P.key (.tup xs)).depth ≤ 8 then some (P.key (.tup xs)) else none
  | _ => none
def P.scal : P → Bool
  | .int _ => true
  | .str _ => true
  | _ => false
def dictOk (kvs : List (P × W)) (y : P) : Bool := match kvs with
  | [] => y.scal || (keyT y).isSome
  | q :: _ => (q.1.scal && y.scal) || ((keyT q.1).isSome && (keyT y).isSome)
def keyOf : W → Option P
  | .p x => some x
  | _ => none
def dget (kvs : List (P × W)) (k : P) : Option W := kvs.lookup k
def dput (kvs : List (P × W)) (k : P) (v : W) : List (P × W) := if kvs.any (·.1 = k) then kvs.map fun q => if q.1 = k then (k, v) else q else kvs ++ [(k, v)]
def ddel (kvs : List (P × W)) (k : P) : List (P × W) := kvs.filter fun q => q.1 ≠ k
def pairUp : List W → Option (List (P × W))
  | [] => some []
  | .p k :: v :: r => if k.scal then (pairUp r).map ((k, v) :: ·) else none
  | _ => none
def inV (M : Hm) (x c : W) : Option Bool := match c with
  | .p (.str y) => match x with
    | .p (.str z) => some (!(Builtin.Str.occurrences y z 0 y.length 1).isEmpty)
    | _ => none
  | _ => match dataOf M c, dataOf M x with
    | some (.list ds), some d => some (ds.any fun e => PyData.eqv e d)
    | some (.tuple ds), some d => some (ds.any fun e => PyData.eqv e d)
    | _, _ => match c, x with
      | .ref k, .p q => match M[k]? with
        | some (.dic kvs) => if dictOk kvs q then some (dget kvs q).isSome else none
        | _ => none
      | _, _ => none
def W.flat : W → Bool
  | .p .non => true
  | .p (.bl _) => true
  | _ => false
def isV (M : Hm) (x y : W) : Option Bool := if x.flat || y.flat then some (decide (x = y)) else match x, y with
  | .ref a, .ref b => match M[a]?, M[b]? with
    | some (.lst _), some (.lst _) => some (decide (a = b))
    | _, _ => none
  | _, _ => none
def eqW (M : Hm) (a b : W) : Option Bool := match dataOf M a, dataOf M b with
  | some d, some e => some (PyData.eqv d e)
  | _, _ => none
def ltW (M : Hm) (a b : W) : Option Bool := match dataOf M a, dataOf M b with
  | some d, some e => match d with
    | .none => none
    | _ => if PySem.W.alike d e then some (PySem.W.dataLt d e) else none
  | _, _ => none
def cmpV : CmpOp → W → W → Hm → Option Bool
  | .Eq, a, b, M => eqW M a b
  | .NotEq, a, b, M => (eqW M a b).map (!·)
  | .Lt, a, b, M => ltW M a b
  | .Gt, a, b, M => ltW M b a
  | .LtE, a, b, M => (ltW M b a).map (!·)
  | .GtE, a, b, M => (ltW M a b).map (!·)
  | .Is, a, b, M => isV M a b
  | .IsNot, a, b, M => (isV M a b).map (!·)
  | .In, a, b, M => inV M a b
  | .NotIn, a, b, M => (inV M a b).map (!·)

def placeOf (n : Nat) (i : Int) : Option Nat := if 0 ≤ i then (if i < n then some i.toNat else none) else if -(n : Int) ≤ i then some (i + n).toNat else none
def atW {α : Type} (xs : List α) (i : Int) : Option α := (placeOf xs.length i).bind fun j => xs[j]?
def sliceIx (n d : Nat) : Option Int → Nat
  | none => d
  | some v => if v < 0 then (v + (n : Int)).toNat else min v.toNat n
def cutL {α : Type} (xs : List α) (lo hi : Option Int) : List α := (xs.drop (sliceIx xs.length 0 lo)).take (sliceIx xs.length xs.length hi - sliceIx xs.length 0 lo)
def idxV : W → W → Hm → R W
  | .p (.str x), .p (.int i), M => if x.length ≤ big then ofO ((atW x.cps.toList i).map fun c => .str ⟨#[c]⟩) M else .bad
  | .ref k, .p y, M => match M[k]? with
    | some (.lst xs) => match y with
      | .int i => match atW xs i with
        | some w => .ok w M
        | none => .bad
      | _ => .bad
    | some (.dic kvs) => if dictOk kvs y then match dget kvs y with
        | some w => .ok w M
        | none => .bad
      else .bad
    | _ => .bad
  | .fl xs, .p (.int i), M => match atW xs i with
    | some x => .ok (.p x) M
    | none => .bad
  | x, .p (.int i), M => match tupItems x with
    | some xs => match atW xs i with
      | some w => .ok w M
      | none => .bad
    | none => .bad
  | _, _, _ => .bad
def slcV : W → Option Int → Option Int → Hm → R W
  | .p (.str x), lo, hi, M => if x.length ≤ big then okV (.str ⟨(cutL x.cps.toList lo hi).toArray⟩) M else .bad
  | .ref k, lo, hi, M => match M[k]? with
    | some (.lst xs) => newO (.lst (cutL xs lo hi)) M
    | _ => .bad
  | .fl xs, lo, hi, M => newO (.lst ((cutL xs lo hi).map .p)) M
  | x, lo, hi, M => match tupItems x with
    | some xs => .ok (mkTup (cutL xs lo hi)) M
    | none => .bad

def rvsV : W → Hm → R W
  | .ref k, M => match M[k]? with
    | some (.lst xs) => newO (.lst xs.reverse) M
    | _ => .bad
  | .fl xs, M => newO (.lst (xs.map .p).reverse) M
  | x, M => match tupItems x with
    | some ws => .ok (mkTup ws.reverse) M
    | none => .bad
def setV : W → W → W → Hm → Option Hm
  | .ref k, .p y, w, M => match M[k]? with
    | some (.lst xs) => match y with
      | .int j => match placeOf xs.length j with
        | some n => some (M.set k (.lst (xs.set n w)))
        | none => none
      | _ => none
    | some (.dic kvs) => if dictOk kvs y ∧ kvs.length < big then some (M.set k (.dic (dput kvs y w))) else none
    | _ => none
  | _, _, _, _ => none

inductive B where
  | len | abs | min | max | sum | all | sorted | int | str | list | tuple | set | dict
  | minBy          -- sorted(.., key=min)
  | minD (d : Int) -- min(.., default=d)
  deriving DecidableEq
inductive Mt where
  | append | pop | get | join | split | index | setdefault | update | clear | partition | count | extend | upper | insert | items | values
  deriving DecidableEq
inductive Ty where
  | int | bool | str | tuple | list | cls (c : Nat) | err   -- err: ValueError
  deriving DecidableEq
inductive Ik where
  | val | rng | enu | zip | rev
  deriving DecidableEq
inductive Pt where
  | name (i : Nat) | tup (ps : List Pt)
inductive E where
  | var (i : Nat) | cst (c : P) | glb (x : Str) (c : P)
  | tup (es : List E) | lst (es : List E) | dct (es : List E)
  | bin (o : Op) (a b : E) | neg (a : E)
  | cmp (o : CmpOp) (a b : E) | chn (o o' : CmpOp) (a b c : E)
  | and (a b : E) | or (a b : E) | not (a : E)
  | idx (a b : E) | slc (a : E) (lo hi : List E)
  | rvs (a : E) | srs (a : E) | lns (a : E)   -- a[::-1], sorted(set(a)), len(set(a))
  | call (f : Nat) (es : List E) | blt (b : B) (es : List E) | mth (m : Mt) (o : E) (es : List E)
  | fld (o : E) (f : Str) | met (o : E) (m : Str) (es : List E) | mk (c : Nat) (es : List E) | isi (a : E) (ts : List Ty)
  | lc (own : List Nat) (pt : Pt) (k : Ik) (src : List E) (cs : List E) (e : E)
inductive T where
  | pt (p : Pt) | fld (o : E) (f : Str) | idx (o i : E) | tup (ts : List T)
inductive S where
  | exp (e : E) | asg (t : T) (e : E) | par (i j : Nat) (a b : E) | ret (e : E) | retN
  | ite (c : E) (a b : List S) | for_ (pt : Pt) (k : Ik) (src : List E) (b : List S) | whl (c : E) (b : List S)
  | brk | pass | raise (c : Nat) (es : List E) | try_ (b : List S) (c : Nat) (n : Option Nat) (h : List S)

structure Cl where
  meths : List (Str × Nat)
  err : Bool
  above : List Nat
  fields : List Str
structure Df where
  size : Nat       -- names
  ar : Nat         -- parameters
  body : List S
structure Pg where
  defs : List Df
  cls : List Cl

def isTy (Q : Pg) (M : Hm) (t : Ty) : W → Option Bool
  | .p .non => some false
  | .p (.bl _) => some (decide (t = .int ∨ t = .bool))
  | .p (.int _) => some (decide (t = .int))
  | .p (.str _) => some (decide (t = .str))
  | .p (.tup _) => some (decide (t = .tuple))
  | .tup _ => some (decide (t = .tuple))
  | .fl _ => some (decide (t = .list))
  | .ref k => match M[k]? with
    | some (.lst _) => some (decide (t = .list))
    | some (.dic _) => match t with
      | .int => some false
      | .bool => some false
      | .str => some false
      | .tuple => some false
      | .list => some false
      | _ => none
    | some (.exc c _) => match t, Q.cls[c]? with
      | .cls d, some C => some (decide (c = d) || C.above.contains d)
      | .err, some _ => some true
      | _, _ => none
    | _ => none
def isTys (Q : Pg) (M : Hm) (w : W) : List Ty → Option Bool
  | [] => some false
  | t :: ts => match isTy Q M t w with
    | some true => some true
    | some false => isTys Q M w ts
    | none => none

def absW : W → Option P
  | .p (.int i) => some (.int (if i < 0 then -i else i))
  | _ => none
def lenV (M : Hm) : W → Option Nat
  | .p (.str x) => if x.length ≤ big then some x.length else none
  | .p (.tup xs) => some xs.length
  | .tup xs => some xs.length
  | .fl xs => some xs.length
  | .ref k => match M[k]? with
    | some (.lst xs) => some xs.length
    | some (.dic kvs) => some kvs.length
    | _ => none
  | _ => none
def leastBy {α : Type} (lt : α → α → Option Bool) : α → List α → Option α
  | a, [] => some a
  | a, b :: r => match lt b a with
    | some true => leastBy lt b r
    | some false => leastBy lt a r
    | none => none
def alikeP (x y : P) : Bool := PySem.W.alike x.toD y.toD && (match x with
  | .non => false
  | _ => true)
def ltP (x y : P) : Bool := PySem.W.dataLt x.toD y.toD
def minP : P → List P → P
  | a, [] => a
  | a, b :: r => if ltP b a then minP b r else minP a r
def maxP : P → List P → P
  | a, [] => a
  | a, b :: r => if ltP a b then maxP b r else maxP a r
def sortP (xs : List P) : List P := xs.mergeSort fun x y => !ltP y x
def allAlike (xs : List P) : Bool := xs.all fun x => xs.all fun y => alikeP x y
def depthOk (xs : List P) : Bool := xs.all fun x => decide (x.toD.depth ≤ 100)
def sumI : List P → Option Int
  | [] => some 0
  | .int i :: r => (sumI r).map (i + ·)
  | _ :: _ => none
def allB : List P → Option Bool
  | [] => some true
  | .bl b :: r => (allB r).map (b && ·)
  | _ :: _ => none
def onceP : List P → List P
  | [] => []
  | x :: xs => x :: (onceP xs).filter fun y => decide (y ≠ x)
def strInt (i : Int) : Str := (toString i : String)
def pureSeq (M : Hm) (w : W) : Option (List P) := (seqOf M w).bind pures
def lenF : List W → Hm → R W
  | [w], M => ofO ((lenV M w).map fun n : Nat => .int (n : Int)) M
  | _, _ => .bad
def absF : List W → Hm → R W
  | [w], M => ofO (absW w) M
  | _, _ => .bad
def minLF : List W → Hm → R W
  | [.p (.int i), .p (.int j)], M => okV (.int (if j < i then j else i)) M
  | [w], M => match pureSeq M w with
    | some (x :: xs) => if allAlike (x :: xs) && depthOk (x :: xs) then okV (minP x xs) M else .bad
    | _ => .bad
  | _, _ => .bad
def maxLF : List W → Hm → R W
  | [.p (.int i), .p (.int j)], M => okV (.int (if j > i then j else i)) M
  | [w], M => match pureSeq M w with
    | some (x :: xs) => if allAlike (x :: xs) && depthOk (x :: xs) then okV (maxP x xs) M else .bad
    | _ => .bad
  | _, _ => .bad
def minF : List W → Hm → R W
  | [.p (.int i), .p (.int j)], M => okV (.int (if j < i then j else i)) M
  | [.p x, .p y], M => if allAlike [x, y] && depthOk [x, y] then okV (minP x [y]) M else .bad
  | [w], M => match pureSeq M w with
    | some (x :: xs) => if allAlike (x :: xs) && depthOk (x :: xs) then okV (minP x xs) M else .bad
    | _ => .bad
  | _, _ => .bad
def maxF : List W → Hm → R W
  | [.p (.int i), .p (.int j)], M => okV (.int (if j > i then j else i)) M
  | [.p x, .p y], M => if allAlike [x, y] && depthOk [x, y] then okV (maxP x [y]) M else .bad
  | [w], M => match pureSeq M w with
    | some (x :: xs) => if allAlike (x :: xs) && depthOk (x :: xs) then okV (maxP x xs) M else .bad
    | _ => .bad
  | _, _ => .bad
def P.isTup : P → Bool
  | .tup (_ :: _) => true
  | _ => false
def P.isAtom : P → Bool
  | .tup _ => false
  | .non => false
  | _ => true
def sortable (xs : List P) : Bool := xs.all P.isTup || xs.all P.isAtom
def pureLst (M : Hm) : W → Option (List P)
  | .fl xs => some xs
  | .ref k => match M[k]? with
    | some (.lst xs) => pures xs
    | _ => none
  | _ => none
def ascP : List P → Bool
  | [] => true
  | x :: xs => xs.all (fun y => ltP x y) && ascP xs
def sortSetV (xs : List P) : Option (List P) :=
  if ascP (sortP (onceP xs)) && allAlike (onceP xs) && depthOk xs && sortable xs && ((xs.all (fun x => (keyT x).isSome) && decide (xs.length ≤ 300)) || (xs.all P.scal && decide (xs.length < 4000))) then some (sortP (onceP xs)) else none
def lenSetV (xs : List P) : Option Nat :=
  if (xs.all (fun x => (keyT x).isSome) && decide (xs.length ≤ 300)) || (xs.all P.scal && decide (xs.length < 4000)) then some (onceP xs).length else none
def sortedSetF : List W → Hm → R W
  | [w], M => match (pureLst M w).bind sortSetV with
    | some ys => newO (.lst (ys.map .p)) M
    | none => .bad
  | _, _ => .bad
def lenSetF : List W → Hm → R W
  | [w], M => ofO (((pureLst M w).bind lenSetV).map fun n : Nat => .int (n : Int)) M
  | _, _ => .bad
def keysOf (M : Hm) : W → Option (List P)
  | .ref k => match M[k]? with
    | some (.dic kvs) => some (kvs.map (·.1))
    | _ => none
  | _ => none
def sortKeysV (ks : List P) : Option (List P) :=
  if ascP (sortP ks) && allAlike ks && depthOk ks && sortable ks && decide (ks.length ≤ 100000) then some (sortP ks) else none
def sortedLF : List W → Hm → R W
  | [w], M => match pureLst M w with
    | some xs => if allAlike xs && depthOk xs && sortable xs then newO (.lst ((sortP xs).map .p)) M else .bad
    | none => .bad
  | _, _ => .bad
def sortedF : List W → Hm → R W
  | [w], M => match pureLst M w with
    | some xs => if allAlike xs && depthOk xs && sortable xs then newO (.lst ((sortP xs).map .p)) M else .bad
    | none => match (keysOf M w).bind sortKeysV with
      | some ys => newO (.lst (ys.map .p)) M
      | none => .bad
  | _, _ => .bad
def sumF : List W → Hm → R W
  | [w], M => ofO (((pureLst M w).bind sumI).map .int) M
  | _, _ => .bad
def allF : List W → Hm → R W
  | [w], M => ofO (((pureLst M w).bind allB).map .bl) M
  | _, _ => .bad
def intF : List W → Hm → R W
  | [.p (.int i)], M => okV (.int i) M
  | [.p (.bl b)], M => okV (.int (if b then 1 else 0)) M
  | _, _ => .bad
def strF : List W → Hm → R W
  | [.p (.int i)], M => if i.natAbs.log2 < 1920 then okV (.str (strInt i)) M else .bad
  | _, _ => .bad
def listF : List W → Hm → R W
  | [w], M => match seqOf M w with
    | some xs => newO (.lst xs) M
    | none => .bad
  | _, _ => .bad
def tupleF : List W → Hm → R W
  | [w], M => match seqOf M w with
    | some xs => .ok (mkTup xs) M
    | none => .bad
  | _, _ => .bad
def bltV : B → List W → Hm → R W
  | .len => lenF
  | .abs => absF
  | .min => minF
  | .max => maxF
  | .sum => sumF
  | .all => allF
  | .sorted => sortedF
  | .int => intF
  | .str => strF
  | .list => listF
  | .tuple => tupleF
  | _ => fun _ _ => .bad

inductive RT where
  | list | str | dict
  deriving DecidableEq
def rcv (M : Hm) : W → Option RT
  | .p (.str _) => some .str
  | .ref k => match M[k]? with
    | some (.lst _) => some .list
    | some (.dic _) => some .dict
    | _ => none
  | _ => none
def mthOk : Mt → RT → Bool
  | .append, .list => true
  | .clear, .list => true
  | .extend, .list => true
  | .pop, .list => true
  | .join, .str => true
  | .upper, .str => true
  | .get, .dict => true
  | .setdefault, .dict => true
  | _, _ => false
def appendF : W → List W → Hm → R W
  | .ref k, [w], M => match M[k]? with
    | some (.lst xs) => if xs.length < big then .ok (.p .non) (M.set k (.lst (xs ++ [w]))) else .bad
    | _ => .bad
  | _, _, _ => .bad
def clearF : W → List W → Hm → R W
  | .ref k, [], M => match M[k]? with
    | some (.lst _) => .ok (.p .non) (M.set k (.lst []))
    | _ => .bad
  | _, _, _ => .bad
def extendF : W → List W → Hm → R W
  | .ref k, [.ref l], M => match M[k]?, M[l]? with
    | some (.lst xs), some (.lst ys) => if xs.length + ys.length ≤ big then .ok (.p .non) (M.set k (.lst (xs ++ ys))) else .bad
    | _, _ => .bad
  | _, _, _ => .bad
def popF : W → List W → Hm → R W
  | .ref k, [], M => match M[k]? with
    | some (.lst xs) => match xs[xs.length - 1]? with
      | some y => .ok y (M.set k (.lst xs.dropLast))
      | none => .bad
    | _ => .bad
  | _, _, _ => .bad
def strsOf : List W → Option (List Str)
  | [] => some []
  | .p (.str x) :: ws => (strsOf ws).map (x :: ·)
  | _ :: _ => none
def joinF : W → List W → Hm → R W
  | .p (.str a), [w], M => match (seqOf M w).bind strsOf with
    | some ys => if (ys.map (·.length)).sum + ys.length * a.length ≤ 16777216 then okV (.str (Txt.join a ys)) M else .bad
    | none => .bad
  | _, _, _ => .bad
def upperF : W → List W → Hm → R W
  | .p (.str a), [], M => if a.length ≤ 5592405 then okV (.str (Txt.upper a)) M else .bad
  | _, _, _ => .bad
def getF : W → List W → Hm → R W
  | .ref k, [.p y, w], M => match M[k]? with
    | some (.dic kvs) => if dictOk kvs y then .ok ((dget kvs y).getD w) M else .bad
    | _ => .bad
  | .ref k, [.p y], M => match M[k]? with
    | some (.dic kvs) => if dictOk kvs y then .ok ((dget kvs y).getD (.p .non)) M else .bad
    | _ => .bad
  | _, _, _ => .bad
def setdefF : W → List W → Hm → R W
  | .ref k, [.p y, w], M => match M[k]? with
    | some (.dic kvs) => if dictOk kvs y = true ∧ kvs.length < big then match dget kvs y with
      | some v => .ok v M
      | none => .ok w (M.set k (.dic (dput kvs y w)))
      else .bad
    | _ => .bad
  | _, _, _ => .bad
def mthV : Mt → RT → W → List W → Hm → R W
  | .append, .list => appendF
  | .clear, .list => clearF
  | .extend, .list => extendF
  | .pop, .list => popF
  | .join, .str => joinF
  | .upper, .str => upperF
  | .get, .dict => getF
  | .setdefault, .dict => setdefF
  | _, _ => fun _ _ _ => .bad

mutual
def bindPt (M : Hm) : Pt → W → En → Option En
  | .name i, w, σ => some (σ.set i (some w))
  | .tup ps, w, σ => match seqOf M w with
    | some ws => bindPts M ps ws σ
    | none => none
def bindPts (M : Hm) : List Pt → List W → En → Option En
  | [], [], σ => some σ
  | p :: ps, w :: ws, σ => match bindPt M p w σ with
    | some σ' => bindPts M ps ws σ'
    | none => none
  | _, _, _ => none
end
def enumW : Nat → List W → List W
  | _, [] => []
  | n, w :: ws => mkTup [.p (.int n), w] :: enumW (n + 1) ws
def zipTyp : W → W → Bool
  | .p (.tup _), .p (.tup _) => true
  | .p (.tup _), .tup _ => true
  | .tup _, .p (.tup _) => true
  | .tup _, .tup _ => true
  | .ref _, .ref _ => true
  | .ref _, .fl _ => true
  | .fl _, .ref _ => true
  | .fl _, .fl _ => true
  | _, _ => false
def W.isLst : W → Bool
  | .ref _ => true
  | .fl _ => true
  | _ => false
def zipW : List W → List W → List W
  | a :: s, b :: t => mkTup [a, b] :: zipW s t
  | _, _ => []
def rangeL (lo : Int) (n : Nat) (c : Int) : List W := (List.range n).map fun i : Nat => .p (.int (lo + (i : Int) * c))
def rngOk (i : Int) : Bool := decide (-(2 ^ 62) ≤ i) && decide (i < 2 ^ 62)
def itemsOf : Ik → List W → Hm → Option (List W)
  | .val, [.p (.str x)], _ => if x.length ≤ big then some (signsOf x) else none
  | .val, [w], M => seqOf M w
  | .rng, [.p (.int j)], _ => if rngOk j then some (rangeL 0 j.toNat 1) else none
  | .rng, [.p (.int i), .p (.int j)], _ => if rngOk i && rngOk j then some (rangeL i (j - i).toNat 1) else none
  | .enu, [w], M => if w.isLst then (seqOf M w).map (enumW 0) else none
  | .zip, [a, b], M => match zipTyp a b, seqOf M a, seqOf M b with
    | true, some xs, some ys => if xs.length = ys.length ∨ ((pures xs).isSome = true ∧ (pures ys).isSome = true) then some (zipW xs ys) else none
    | _, _, _ => none
  | .rev, [w], M => (seqOf M w).map List.reverse
  | _, _, _ => none
def pinsOf : List W → List Nat
  | [] => []
  | .ref k :: ws => k :: pinsOf ws
  | _ :: ws => pinsOf ws
def srcH (M0 : Hm) (its : List W) (M1 : Hm) : Hm := if M1.take M0.length = M0 ∧ (pures its).isSome then M0 else M1
def stays (pins : List Nat) (M0 M : Hm) : Bool := pins.all fun k => decide (M[k]? = M0[k]?)

def lcL (f : W → Hm → R (Option W)) (ok : Hm → Bool) : List W → List W → Hm → R W
  | [], acc, M => .ok (.ref M.length) (M ++ [.lst acc])
  | w :: ws, acc, M => match f w M with
    | .ok (some v) M' => if ok M' && decide (acc.length < big) then lcL f ok ws (acc ++ [v]) M' else .bad
    | .ok none M' => if ok M' then lcL f ok ws acc M' else .bad
    | .err _ _ _ => .bad
    | .bad => .bad
def partOf : List W → Option (Option Int)
  | [] => some none
  | [.p (.int i)] => some (some i)
  | _ => none

section
variable (Q : Pg) (cl : Nat → List W → Hm → R W)
mutual
def ev : E → En → Hm → R W
  | .var i, σ, M => match σ[i]? with
    | some (some w) => .ok w M
    | _ => .bad
  | .cst c, _, M => .ok (.p c) M
  | .glb _ c, _, M => .ok (.p c) M
  | .tup es, σ, M => (evs es σ M).bnd fun ws M1 => if ws.length ≤ big then .ok (mkTup ws) M1 else .bad
  | .lst es, σ, M => (evs es σ M).bnd fun ws M1 => if ws.length ≤ big then newO (.lst ws) M1 else .bad
  | .dct es, σ, M => (evs es σ M).bnd fun ws M1 => match pairUp ws with
    | some kvs => if kvs.length ≤ 15 then newO (.dic (kvs.foldl (fun d q => dput d q.1 q.2) [])) M1 else .bad
    | none => .bad
  | .bin o a b, σ, M => (ev a σ M).bnd fun x M1 => (ev b σ M1).bnd fun y M2 => opV o x y M2
  | .neg a, σ, M => (ev a σ M).bnd fun x M1 => match x with
    | .p (.int i) => okV (.int (-i)) M1
    | _ => .bad
  | .cmp o a b, σ, M => (ev a σ M).bnd fun x M1 => (ev b σ M1).bnd fun y M2 => ofB (cmpV o x y M2) M2
  | .chn o o' a b c, σ, M => (ev a σ M).bnd fun x M1 => (ev b σ M1).bnd fun y M2 => match cmpV o x y M2 with
    | some true => (ev c σ M2).bnd fun z M3 => ofB (cmpV o' y z M3) M3
    | some false => okV (.bl false) M2
    | none => .bad
  | .and a b, σ, M => (ev a σ M).bnd fun x M1 => match x with
    | .p (.bl true) => ev b σ M1
    | .p (.bl false) => okV (.bl false) M1
    | _ => .bad
  | .or a b, σ, M => (ev a σ M).bnd fun x M1 => match x with
    | .p (.bl true) => okV (.bl true) M1
    | .p (.bl false) => ev b σ M1
    | _ => .bad
  | .not a, σ, M => (ev a σ M).bnd fun x M1 => match x with
    | .p (.bl c) => okV (.bl (!c)) M1
    | _ => .bad
  | .idx a b, σ, M => (ev a σ M).bnd fun x M1 => (ev b σ M1).bnd fun y M2 => idxV x y M2
  | .slc a lo hi, σ, M => (ev a σ M).bnd fun x M1 => (evs lo σ M1).bnd fun l M2 => match partOf l with
    | some l' => (evs hi σ M2).bnd fun h M3 => match partOf h with
      | some h' => slcV x l' h' M3
      | none => .bad
    | none => .bad
  | .rvs a, σ, M => (ev a σ M).bnd fun x M1 => rvsV x M1
  | .srs a, σ, M => (ev a σ M).bnd fun w M1 => sortedSetF [w] M1
  | .lns a, σ, M => (ev a σ M).bnd fun w M1 => lenSetF [w] M1
  | .call f es, σ, M => (evs es σ M).bnd fun ws M1 => cl f ws M1
  | .blt b es, σ, M => (evs es σ M).bnd fun ws M1 => bltV b ws M1
  | .mth m o es, σ, M => (ev o σ M).bnd fun w M1 => match rcv M1 w with
    | some T => if mthOk m T then (evs es σ M1).bnd fun ws M2 => mthV m T w ws M2 else .bad
    | none => .bad
  | .fld o f, σ, M => (ev o σ M).bnd fun w M1 => match w with
    | .ref k => match M1[k]? with
      | some (.ins _ fs) => match fs.lookup f with
        | some v => .ok v M1
        | none => .bad
      | _ => .bad
    | _ => .bad
  | .met o m es, σ, M => .bad
  | .mk c es, σ, M => .bad
  | .isi a ts, σ, M => (ev a σ M).bnd fun w M1 => ofB (isTys Q M1 w ts) M1
  | .lc own pt k src cs e, σ, M => (evs src σ M).bnd fun ws M1 => match itemsOf k ws M1 with
    | some its => lcL (fun w M3 => match bindPt M3 pt w (own.foldr (fun i s => s.set i none) σ) with
        | some σ' => match cs with
          | [] => (tidy M3 (ev e σ' M3)).bnd fun v M4 => .ok (some v) M4
          | [c] => (tidy M3 (ev c σ' M3)).bnd fun b M4 => match b with
            | .p (.bl true) => (tidy M4 (ev e σ' M4)).bnd fun v M5 => .ok (some v) M5
            | .p (.bl false) => .ok none M4
            | _ => .bad
          | _ => .bad
        | none => .bad) (stays ((pinsOf ws).filter (· < (srcH M its M1).length)) (srcH M its M1)) its [] (srcH M its M1)
    | none => .bad
def evs : List E → En → Hm → R (List W)
  | [], _, M => .ok [] M
  | e :: es, σ, M => (ev e σ M).bnd fun w M1 => (evs es σ M1).bnd fun ws M2 => .ok (w :: ws) M2
end
end

inductive RS where
  | nx (σ : En) (M : Hm) | rt (w : W) (M : Hm) | bk (σ : En) (M : Hm) | er (c : Nat) (fs : List P) (σ : En) (M : Hm) | bad
def R.toS (σ : En) (r : R W) (k : W → Hm → RS) : RS := match r with
  | .ok w M => k w M
  | .err c fs M => .er c fs σ M
  | .bad => .bad
@[simp] theorem R.toS_ok (σ : En) (w : W) (M : Hm) (k : W → Hm → RS) : (R.ok w M).toS σ k = k w M := rfl
@[simp] theorem R.toS_err (σ : En) (c : Nat) (fs : List P) (M : Hm) (k : W → Hm → RS) : (R.err c fs M).toS σ k = .er c fs σ M := rfl
@[simp] theorem R.toS_bad (σ : En) (k : W → Hm → RS) : R.bad.toS σ k = .bad := rfl
def RS.seq (r : RS) (k : En → Hm → RS) : RS := match r with
  | .nx σ M => k σ M
  | r => r
@[simp] theorem RS.seq_nx (σ : En) (M : Hm) (k : En → Hm → RS) : (RS.nx σ M).seq k = k σ M := rfl
@[simp] theorem RS.seq_rt (w : W) (M : Hm) (k : En → Hm → RS) : (RS.rt w M).seq k = .rt w M := rfl
@[simp] theorem RS.seq_bk (σ : En) (M : Hm) (k : En → Hm → RS) : (RS.bk σ M).seq k = .bk σ M := rfl
@[simp] theorem RS.seq_er (c : Nat) (fs : List P) (σ : En) (M : Hm) (k : En → Hm → RS) : (RS.er c fs σ M).seq k = .er c fs σ M := rfl
@[simp] theorem RS.seq_bad (k : En → Hm → RS) : RS.bad.seq k = .bad := rfl
def forL (pt : Pt) (f : En → Hm → RS) (ok : Hm → Bool) : List W → En → Hm → RS
  | [], σ, M => .nx σ M
  | w :: ws, σ, M => match bindPt M pt w σ with
    | some σ' => match f σ' M with
      | .nx σ2 M2 => if ok M2 then forL pt f ok ws σ2 M2 else .bad
      | .bk σ2 M2 => .nx σ2 M2
      | r => r
    | none => .bad
def whlL (c : En → Hm → R W) (f : En → Hm → RS) : Nat → En → Hm → RS
  | 0, _, _ => .bad
  | n + 1, σ, M => (c σ M).toS σ fun b M1 => match b with
    | .p (.bl true) => match f σ M1 with
      | .nx σ2 M2 => whlL c f n σ2 M2
      | .bk σ2 M2 => .nx σ2 M2
      | r => r
    | .p (.bl false) => .nx σ M1
    | _ => .bad
def turns : Nat := 1000000
section
variable (Q : Pg) (cl : Nat → List W → Hm → R W)
abbrev evt (e : E) (σ : En) (M : Hm) : R W := tidy M (ev Q cl e σ M)
mutual
def run : S → En → Hm → RS
  | .exp e, σ, M => (evt Q cl e σ M).toS σ fun _ M1 => .nx σ M1
  | .asg (.pt p) e, σ, M => (evt Q cl e σ M).toS σ fun w M1 => match bindPt M1 p w σ with
    | some σ' => .nx σ' M1
    | none => .bad
  | .asg (.idx o i) e, σ, M => (evt Q cl e σ M).toS σ fun w M1 => (ev Q cl o σ M1).toS σ fun a M2 => (ev Q cl i σ M2).toS σ fun b M3 => match setV a b w M3 with
    | some M4 => .nx σ M4
    | none => .bad
  | .asg (.fld o f) e, σ, M => (evt Q cl e σ M).toS σ fun w M1 => (ev Q cl o σ M1).toS σ fun a M2 => match a with
    | .ref k => match M2[k]? with
      | some (.ins c fs) => if fs.length < 1000 then .nx σ (M2.set k (.ins c (if (fs.lookup f).isSome then fs.map fun q => if q.1 = f then (f, w) else q else fs ++ [(f, w)]))) else .bad
      | _ => .bad
    | _ => .bad
  | .asg _ _, _, _ => .bad
  | .par i j a b, σ, M => (evt Q cl a σ M).toS σ fun x M1 => (evt Q cl b σ M1).toS σ fun y M2 => .nx ((σ.set i (some x)).set j (some y)) M2
  | .ret e, σ, M => (evt Q cl e σ M).toS σ fun w M1 => .rt w M1
  | .retN, _, M => .rt (.p .non) M
  | .ite c a b, σ, M => (evt Q cl c σ M).toS σ fun x M1 => match x with
    | .p (.bl true) => runs a σ M1
    | .p (.bl false) => runs b σ M1
    | _ => .bad
  | .for_ pt k src b, σ, M => match evs Q cl src σ M with
    | .ok ws M1 => match itemsOf k ws M1 with
      | some its =>
        let M2 := srcH M its M1
        forL pt (fun σ M => runs b σ M) (stays ((pinsOf ws).filter (· < M2.length)) M2) its σ M2
      | none => .bad
    | .err c fs M1 => .er c fs σ M1
    | .bad => .bad
  | .whl c b, σ, M => whlL (fun σ M => evt Q cl c σ M) (fun σ M => runs b σ M) turns σ M
  | .brk, σ, M => .bk σ M
  | .pass, σ, M => .nx σ M
  | .raise c es, σ, M => .bad
  | .try_ b c n h, σ, M => .bad
def runs : List S → En → Hm → RS
  | [], σ, M => .nx σ M
  | s :: ss, σ, M => (run s σ M).seq fun σ' M' => runs ss σ' M'
end
end
def RS.fin : RS → R W
  | .nx _ M => .ok (.p .non) M
  | .rt w M => .ok w M
  | .er c fs _ M => .err c fs M
  | _ => .bad
def startE (d : Df) (ws : List W) : En := ws.map some ++ List.replicate (d.size - ws.length) none
def callN (Q : Pg) : Nat → Nat → List W → Hm → R W
  | 0, _, _, _ => .bad
  | n + 1, f, ws, M => match Q.defs[f]? with
    | some d => if ws.length = d.ar then tidy M (runs Q (callN Q n) d.body (startE d ws) M).fin else .bad
    | none => .bad
end Mi

namespace Mi
open PySem L2

def KL (K : PySem.W.Frag) (a : Addr) (xs : List V) : Prop :=
  ∃ (o : Obj) (its : Array Value) (n : Nat), K.lookup a = some o ∧ o.cls = .type "list" ∧ o.dict = none ∧ o.data = .seq its n ∧ its.size ≤ sizeLine ∧ Vals xs its.toList
def Still : HO → Prop
  | .tup _ => True
  | .frz _ _ => True
  | _ => False
def TK (H H' : Hp) : Prop := ∀ b o, H b = some o → Still o → H' b = some o
theorem TK.refl (H : Hp) : TK H H := fun _ _ h _ => h
theorem TK.trans {H H1 H2 : Hp} (a : TK H H1) (b : TK H1 H2) : TK H H2 := fun c o h s => b c o (a c o h s) s
theorem TK.same {H H' : Hp} (h : Same H H') : TK H H' := fun b o e _ => h b o e
theorem sqT_mono {K : PySem.W.Frag} {H H' : Hp} {a : Addr} {us : List V} (t : TK H H') (h : SqT K H a us) : SqT K H' a us := by
  rcases h with (h | ⟨o, h⟩) | h
  · exact .inl (.inl (t a _ h trivial))
  · exact .inl (.inr ⟨o, t a _ h trivial⟩)
  · exact .inr h

section
variable (K : PySem.W.Frag) (H : Hp)
mutual
def RelP : P → V → Prop
  | .non, v => v = .non
  | .bl b, v => v = .bl b
  | .int i, v => v = .int i
  | .str x, v => v = .str x
  | .tup xs, v => ∃ a us, v = .ref a ∧ SqT K H a us ∧ RelPs xs us
def RelPs : List P → List V → Prop
  | [], us => us = []
  | x :: xs, us => ∃ u r, us = u :: r ∧ RelP x u ∧ RelPs xs r
end
end
section
variable (K : PySem.W.Frag) (ρ : List Addr) (H : Hp)
mutual
def RelW : W → V → Prop
  | .p x, v => RelP K H x v
  | .ref n, v => ∃ a, ρ[n]? = some a ∧ v = .ref a
  | .tup ws, v => ∃ a us, v = .ref a ∧ SqT K H a us ∧ RelWs ws us
  | .fl xs, v => ∃ a us, v = .ref a ∧ ((∃ o, H a = some (.frz o (.lst us))) ∨ KL K a us) ∧ RelPs K H xs us
def RelWs : List W → List V → Prop
  | [], us => us = []
  | w :: ws, us => ∃ u r, us = u :: r ∧ RelW w u ∧ RelWs ws r
end
end
section
variable {K : PySem.W.Frag} {ρ ρ' : List Addr} {H H' : Hp}
mutual
theorem RelP.mono (t : TK H H') : ∀ (x : P) (v : V), RelP K H x v → RelP K H' x v
  | .non, v, h => by simpa [RelP] using h
  | .bl b, v, h => by simpa [RelP] using h
  | .int i, v, h => by simpa [RelP] using h
  | .str x, v, h => by simpa [RelP] using h
  | .tup xs, v, h => by
    simp only [RelP] at h ⊢
    obtain ⟨a, us, e, s, r⟩ := h
    exact ⟨a, us, e, sqT_mono t s, RelPs.mono t xs us r⟩
theorem RelPs.mono (t : TK H H') : ∀ (xs : List P) (us : List V), RelPs K H xs us → RelPs K H' xs us
  | [], us, h => by simpa [RelPs] using h
  | x :: xs, us, h => by
    simp only [RelPs] at h ⊢
    obtain ⟨u, r, e, h1, h2⟩ := h
    exact ⟨u, r, e, RelP.mono t x u h1, RelPs.mono t xs r h2⟩
end
theorem pre_get {n : Nat} {a : Addr} (p : ρ <+: ρ') (h : ρ[n]? = some a) : ρ'[n]? = some a := by
  obtain ⟨t, rfl⟩ := p
  rw [List.getElem?_append_left (List.getElem?_eq_some_iff.mp h).1]
  exact h
mutual
theorem RelW.mono (p : ρ <+: ρ') (t : TK H H') : ∀ (w : W) (v : V), RelW K ρ H w v → RelW K ρ' H' w v
  | .p x, v, h => by
    simp only [RelW] at h ⊢
    exact RelP.mono t x v h
  | .ref n, v, h => by
    simp only [RelW] at h ⊢
    obtain ⟨a, e, q⟩ := h
    exact ⟨a, pre_get p e, q⟩
  | .tup ws, v, h => by
    simp only [RelW] at h ⊢
    obtain ⟨a, us, e, s, r⟩ := h
    exact ⟨a, us, e, sqT_mono t s, RelWs.mono p t ws us r⟩
  | .fl xs, v, h => by
    simp only [RelW] at h ⊢
    obtain ⟨a, us, e, s, r⟩ := h
    exact ⟨a, us, e, s.elim (fun ⟨o, q⟩ => .inl ⟨o, t a _ q trivial⟩) .inr, RelPs.mono t xs us r⟩
theorem RelWs.mono (p : ρ <+: ρ') (t : TK H H') : ∀ (ws : List W) (us : List V), RelWs K ρ H ws us → RelWs K ρ' H' ws us
  | [], us, h => by simpa [RelWs] using h
  | w :: ws, us, h => by
    simp only [RelWs] at h ⊢
    obtain ⟨u, r, e, h1, h2⟩ := h
    exact ⟨u, r, e, RelW.mono p t w u h1, RelWs.mono p t ws r h2⟩
end
mutual
theorem RelW.back (p : ρ <+: ρ') : ∀ (w : W) (v0 v : V), RelW K ρ H w v0 → RelW K ρ' H' w v → RelW K ρ H' w v
  | .p x, _, v, _, h => by
    simp only [RelW] at h ⊢
    exact h
  | .ref n, v0, v, h0, h => by
    simp only [RelW] at h0 h ⊢
    obtain ⟨a, e, q⟩ := h0
    obtain ⟨b, e', q'⟩ := h
    rw [pre_get p e] at e'
    cases e'
    exact ⟨a, e, q'⟩
  | .tup ws, v0, v, h0, h => by
    simp only [RelW] at h0 h ⊢
    obtain ⟨a0, us0, _, _, r0⟩ := h0
    obtain ⟨a, us, e, s, r⟩ := h
    exact ⟨a, us, e, s, RelWs.back p ws us0 us r0 r⟩
  | .fl xs, _, v, _, h => by
    simp only [RelW] at h ⊢
    exact h
theorem RelWs.back (p : ρ <+: ρ') : ∀ (ws : List W) (us0 us : List V), RelWs K ρ H ws us0 → RelWs K ρ' H' ws us → RelWs K ρ H' ws us
  | [], us0, us, h0, h => by simpa [RelWs] using h
  | w :: ws, us0, us, h0, h => by
    simp only [RelWs] at h0 h ⊢
    obtain ⟨u0, r0, _, h1, h2⟩ := h0
    obtain ⟨u, r, e, h3, h4⟩ := h
    exact ⟨u, r, e, RelW.back p w u0 u h1 h3, RelWs.back p ws r0 r h2 h4⟩
end
theorem relPs_of {ρ : List Addr} : ∀ (xs : List P) (us : List V), RelWs K ρ H (xs.map .p) us ↔ RelPs K H xs us
  | [], us => by simp [RelWs, RelPs]
  | x :: xs, us => by
    simp only [List.map_cons, RelWs, RelPs, RelW]
    constructor
    · rintro ⟨u, r, e, h1, h2⟩; exact ⟨u, r, e, h1, (relPs_of xs r).mp h2⟩
    · rintro ⟨u, r, e, h1, h2⟩; exact ⟨u, r, e, h1, (relPs_of xs r).mpr h2⟩
theorem pures_some : ∀ {ws : List W} {xs : List P}, pures ws = some xs → ws = xs.map .p
  | [], xs, h => by
    simp only [pures, Option.some.injEq] at h
    subst h; rfl
  | .p x :: ws, xs, h => by
    simp only [pures, Option.map_eq_some_iff] at h
    obtain ⟨ys, h1, rfl⟩ := h
    rw [pures_some h1]; rfl
  | .ref _ :: _, _, h => by simp [pures] at h
  | .tup _ :: _, _, h => by simp [pures] at h
  | .fl _ :: _, _, h => by simp [pures] at h
@[simp] theorem pures_map : ∀ xs : List P, pures (xs.map .p) = some xs
  | [] => rfl
  | x :: xs => by
    rw [List.map_cons, pures, pures_map xs]; rfl
theorem relW_mkTup {ws : List W} {us : List V} {a : Addr} (s : SqT K H a us) (r : RelWs K ρ H ws us) : RelW K ρ H (mkTup ws) (.ref a) := by
  unfold mkTup
  cases e : pures ws with
  | none => simp only [RelW]; exact ⟨a, us, rfl, s, r⟩
  | some xs =>
    simp only [RelW, RelP]
    have q := pures_some e
    subst q
    exact ⟨a, us, rfl, s, (relPs_of xs us).mp r⟩
theorem relWs_len : ∀ {ws : List W} {us : List V}, RelWs K ρ H ws us → ws.length = us.length
  | [], us, h => by simp only [RelWs] at h; subst h; rfl
  | w :: ws, us, h => by
    simp only [RelWs] at h
    obtain ⟨u, r, e, h1, h2⟩ := h
    subst e
    simp [relWs_len h2]
theorem relWs_get : ∀ {ws : List W} {us : List V} {i : Nat} {w : W}, RelWs K ρ H ws us → ws[i]? = some w → ∃ u, us[i]? = some u ∧ RelW K ρ H w u
  | [], us, i, w, h, e => by simp at e
  | w0 :: ws, us, i, w, h, e => by
    simp only [RelWs] at h
    obtain ⟨u, r, e', h1, h2⟩ := h
    subst e'
    cases i with
    | zero => simp at e; subst e; exact ⟨u, rfl, h1⟩
    | succ i => simpa using relWs_get h2 (by simpa using e)
theorem relWs_append : ∀ {ws ws' : List W} {us us' : List V}, RelWs K ρ H ws us → RelWs K ρ H ws' us' → RelWs K ρ H (ws ++ ws') (us ++ us')
  | [], ws', us, us', h, h' => by simp only [RelWs] at h; subst h; simpa using h'
  | w :: ws, ws', us, us', h, h' => by
    simp only [RelWs] at h
    obtain ⟨u, r, e, h1, h2⟩ := h
    subst e
    simp only [List.cons_append, RelWs]
    exact ⟨u, r ++ us', rfl, h1, relWs_append h2 h'⟩
theorem relWs_take : ∀ {ws : List W} {us : List V} (n : Nat), RelWs K ρ H ws us → RelWs K ρ H (ws.take n) (us.take n)
  | _, _, 0, _ => by simp [RelWs]
  | [], us, n + 1, h => by simp only [RelWs] at h; subst h; simp [RelWs]
  | w :: ws, us, n + 1, h => by
    simp only [RelWs] at h
    obtain ⟨u, r, e, h1, h2⟩ := h
    subst e
    simp only [List.take_succ_cons, RelWs]
    exact ⟨u, r.take n, rfl, h1, relWs_take n h2⟩
theorem relWs_drop : ∀ {ws : List W} {us : List V} (n : Nat), RelWs K ρ H ws us → RelWs K ρ H (ws.drop n) (us.drop n)
  | _, _, 0, h => by simpa using h
  | [], us, n + 1, h => by simp only [RelWs] at h; subst h; simp [RelWs]
  | w :: ws, us, n + 1, h => by
    simp only [RelWs] at h
    obtain ⟨u, r, e, h1, h2⟩ := h
    subst e
    simpa using relWs_drop n h2
theorem relWs_set : ∀ {ws : List W} {us : List V} {w : W} {u : V} (i : Nat), RelW K ρ H w u → RelWs K ρ H ws us → RelWs K ρ H (ws.set i w) (us.set i u)
  | [], us, w, u, i, hw, h => by simp only [RelWs] at h; subst h; simp [RelWs]
  | w0 :: ws, us, w, u, i, hw, h => by
    simp only [RelWs] at h
    obtain ⟨u0, r, e, h1, h2⟩ := h
    subst e
    cases i with
    | zero => simp only [List.set_cons_zero, RelWs]; exact ⟨u, r, rfl, hw, h2⟩
    | succ i => simp only [List.set_cons_succ, RelWs]; exact ⟨u0, r.set i u, rfl, h1, relWs_set i hw h2⟩
theorem relWs_map {f : Nat → W} {g : Nat → V} (h : ∀ i, RelW K ρ H (f i) (g i)) : ∀ l : List Nat, RelWs K ρ H (l.map f) (l.map g)
  | [] => by simp [RelWs]
  | i :: l => by
    simp only [List.map_cons, RelWs]
    exact ⟨g i, l.map g, rfl, h i, relWs_map h l⟩
end

def keyK : P → Option Key
  | .int i => some (.inl i)
  | .str x => some (.inr x)
  | _ => none
def RelKs (K : PySem.W.Frag) (ρ : List Addr) (H : Hp) : List (P × W) → List (Key × V) → Prop
  | [], ks => ks = []
  | q :: r, ks => ∃ k v t, ks = (k, v) :: t ∧ keyK q.1 = some k ∧ RelW K ρ H q.2 v ∧ RelKs K ρ H r t
def RelTs (K : PySem.W.Frag) (ρ : List Addr) (H : Hp) : List (P × W) → List (NestedKey × Addr × V) → Prop
  | [], es => es = []
  | q :: r, es => ∃ k b v t, es = (k, b, v) :: t ∧ keyT q.1 = some k ∧ RelP K H q.1 (.ref b) ∧ RelW K ρ H q.2 v ∧ RelTs K ρ H r t
def dicO (P : Program) (w : World) (a : Addr) (es : List (NestedKey × Addr × V)) : HO := .ext fun h => (a == sysModules) = false ∧ es.length ≤ sizeLine ∧
  ∃ xs : List (NestedKey × Addr × Value), Paired (fun (p : NestedKey × Addr × V) (q : NestedKey × Addr × Value) => q.1 = p.1 ∧ q.2.1 = p.2.1 ∧ RelV p.2.2 q.2.2) es xs ∧
    ∃ o ds ep, h.get? a = some o ∧ o.ExactDict ∧ o.data = .dict ds ep ∧ ds.toList = xs.map (entryOfKey (nestedKind P w)) ∧ (xs.map (·.1)).Nodup
def RelFs (K : PySem.W.Frag) (ρ : List Addr) (H : Hp) : List (Str × W) → List (Str × V) → Prop
  | [], gs => gs = []
  | q :: r, gs => ∃ v t, gs = (q.1, v) :: t ∧ RelW K ρ H q.2 v ∧ RelFs K ρ H r t
structure G where
  K : PySem.W.Frag
  P : Program
  w : World
  cad : Nat → Option Addr
  fld : Nat → List Str
def OkO (g : G) (ρ : List Addr) (H : Hp) (a : Addr) : MO → Prop
  | .lst xs => ∃ us, H a = some (.lst us) ∧ RelWs g.K ρ H xs us
  | .dic kvs => (∃ ks, H a = some (.dK ks) ∧ RelKs g.K ρ H kvs ks) ∨ ∃ es, H a = some (dicO g.P g.w a es) ∧ RelTs g.K ρ H kvs es
  | .ins c fs => ∃ C dx gs, g.cad c = some C ∧ H a = some (.ins C dx gs) ∧ RelFs g.K ρ H fs gs
  | _ => False
structure Sim (g : G) (ρ : List Addr) (M : Hm) (H : Hp) : Prop where
  len : ρ.length = M.length
  nd : ∀ (i j : Nat) (a : Addr), ρ[i]? = some a → ρ[j]? = some a → i = j
  ob : ∀ (i : Nat) (o : MO), M[i]? = some o → ∃ a, ρ[i]? = some a ∧ OkO g ρ H a o
structure Stp (ρ : List Addr) (H : Hp) (ρ' : List Addr) (H' : Hp) : Prop where
  pre : ρ <+: ρ'
  new : ∀ b ∈ ρ', b ∈ ρ ∨ H b = none
  keep : ∀ b o, H b = some o → (b ∉ ρ ∨ Still o) → H' b = some o
section
variable {g : G} {ρ ρ1 ρ' : List Addr} {M M' : Hm} {H H1 H' : Hp}
theorem Stp.tk (s : Stp ρ H ρ' H') : TK H H' := fun b o h t => s.keep b o h (.inr t)
theorem Stp.refl (ρ : List Addr) (H : Hp) : Stp ρ H ρ H := ⟨List.prefix_refl _, fun _ h => .inl h, fun _ _ h _ => h⟩
theorem Stp.trans (a : Stp ρ H ρ1 H1) (b : Stp ρ1 H1 ρ' H') : Stp ρ H ρ' H' := by
  refine ⟨a.pre.trans b.pre, fun c hc => ?_, fun c o h q => ?_⟩
  · rcases b.new c hc with h | h
    · exact a.new c h
    · by_cases hm : c ∈ ρ
      · exact .inl hm
      · refine .inr ?_
        cases e : H c with
        | none => rfl
        | some o => rw [a.keep c o e (.inl hm)] at h; cases h
  · have h1 := a.keep c o h q
    refine b.keep c o h1 ?_
    rcases q with q | q
    · refine .inl fun hm => ?_
      rcases a.new c hm with z | z
      · exact q z
      · rw [h] at z; cases z
    · exact .inr q
theorem Stp.same (h : Same H H') : Stp ρ H ρ H' := ⟨List.prefix_refl _, fun _ h => .inl h, fun b o e _ => h b o e⟩
theorem RelKs.mono (p : ρ <+: ρ') (t : TK H H') : ∀ (kvs : List (P × W)) (ks : List (Key × V)), RelKs g.K ρ H kvs ks → RelKs g.K ρ' H' kvs ks
  | [], ks, h => by simpa [RelKs] using h
  | q :: r, ks, h => by
    simp only [RelKs] at h ⊢
    obtain ⟨k, v, t', e, h1, h2, h3⟩ := h
    exact ⟨k, v, t', e, h1, RelW.mono p t _ _ h2, RelKs.mono p t r t' h3⟩
theorem RelKs.back (p : ρ <+: ρ') : ∀ (kvs : List (P × W)) (ks0 ks : List (Key × V)), RelKs g.K ρ H kvs ks0 → RelKs g.K ρ' H' kvs ks → RelKs g.K ρ H' kvs ks
  | [], ks0, ks, h0, h => by simpa [RelKs] using h
  | q :: r, ks0, ks, h0, h => by
    simp only [RelKs] at h0 h ⊢
    obtain ⟨_, v0, t0, _, _, h2, h3⟩ := h0
    obtain ⟨k, v, t', e, h1, h4, h5⟩ := h
    exact ⟨k, v, t', e, h1, RelW.back p _ _ _ h2 h4, RelKs.back p r t0 t' h3 h5⟩
theorem RelTs.mono (p : ρ <+: ρ') (t : TK H H') : ∀ (kvs : List (P × W)) (es : List (NestedKey × Addr × V)), RelTs g.K ρ H kvs es → RelTs g.K ρ' H' kvs es
  | [], ks, h => by simpa [RelTs] using h
  | q :: r, ks, h => by
    simp only [RelTs] at h ⊢
    obtain ⟨k, b, v, t', e, h1, h0, h2, h3⟩ := h
    exact ⟨k, b, v, t', e, h1, RelP.mono t _ _ h0, RelW.mono p t _ _ h2, RelTs.mono p t r t' h3⟩
theorem RelTs.back (p : ρ <+: ρ') : ∀ (kvs : List (P × W)) (ks0 ks : List (NestedKey × Addr × V)), RelTs g.K ρ H kvs ks0 → RelTs g.K ρ' H' kvs ks → RelTs g.K ρ H' kvs ks
  | [], ks0, ks, h0, h => by simpa [RelTs] using h
  | q :: r, ks0, ks, h0, h => by
    simp only [RelTs] at h0 h ⊢
    obtain ⟨_, _, v0, t0, _, _, _, h2, h3⟩ := h0
    obtain ⟨k, b, v, t', e, h1, h6, h4, h5⟩ := h
    exact ⟨k, b, v, t', e, h1, h6, RelW.back p _ _ _ h2 h4, RelTs.back p r t0 t' h3 h5⟩
theorem RelFs.mono (p : ρ <+: ρ') (t : TK H H') : ∀ (fs : List (Str × W)) (gs : List (Str × V)), RelFs g.K ρ H fs gs → RelFs g.K ρ' H' fs gs
  | [], ks, h => by simpa [RelFs] using h
  | q :: r, ks, h => by
    simp only [RelFs] at h ⊢
    obtain ⟨v, t', e, h2, h3⟩ := h
    exact ⟨v, t', e, RelW.mono p t _ _ h2, RelFs.mono p t r t' h3⟩
theorem RelFs.back (p : ρ <+: ρ') : ∀ (fs : List (Str × W)) (ks0 ks : List (Str × V)), RelFs g.K ρ H fs ks0 → RelFs g.K ρ' H' fs ks → RelFs g.K ρ H' fs ks
  | [], ks0, ks, h0, h => by simpa [RelFs] using h
  | q :: r, ks0, ks, h0, h => by
    simp only [RelFs] at h0 h ⊢
    obtain ⟨v0, t0, _, h2, h3⟩ := h0
    obtain ⟨v, t', e, h4, h5⟩ := h
    exact ⟨v, t', e, RelW.back p _ _ _ h2 h4, RelFs.back p r t0 t' h3 h5⟩
theorem OkO.mono {a : Addr} (p : ρ <+: ρ') (t : TK H H') : ∀ {o : MO}, OkO g ρ H a o → H' a = H a → OkO g ρ' H' a o
  | .lst xs, ⟨us, h, r⟩, e => ⟨us, e.trans h, RelWs.mono p t _ _ r⟩
  | .dic kvs, h, e => h.elim (fun ⟨ks, h, r⟩ => .inl ⟨ks, e.trans h, RelKs.mono p t _ _ r⟩) fun ⟨ks, h, r⟩ => .inr ⟨ks, e.trans h, RelTs.mono p t _ _ r⟩
  | .set _, h, _ => h
  | .ins _ _, ⟨C, dx, gs, h1, h2, r⟩, e => ⟨C, dx, gs, h1, e.trans h2, RelFs.mono p t _ _ r⟩
  | .exc _ _, h, _ => h
theorem OkO.same {a : Addr} (t : Same H H') : ∀ {o : MO}, OkO g ρ H a o → OkO g ρ H' a o
  | .lst xs, ⟨us, h, r⟩ => ⟨us, t a _ h, RelWs.mono (List.prefix_refl _) (TK.same t) _ _ r⟩
  | .dic kvs, h => h.elim (fun ⟨ks, h, r⟩ => .inl ⟨ks, t a _ h, RelKs.mono (List.prefix_refl _) (TK.same t) _ _ r⟩) fun ⟨ks, h, r⟩ => .inr ⟨ks, t a _ h, RelTs.mono (List.prefix_refl _) (TK.same t) _ _ r⟩
  | .set _, h => h
  | .ins _ _, ⟨C, dx, gs, h1, h2, r⟩ => ⟨C, dx, gs, h1, t a _ h2, RelFs.mono (List.prefix_refl _) (TK.same t) _ _ r⟩
  | .exc _ _, h => h
theorem OkO.back {a b : Addr} (p : ρ <+: ρ') : ∀ {o : MO}, OkO g ρ H b o → OkO g ρ' H' a o → OkO g ρ H' a o
  | .lst xs, ⟨us0, _, r0⟩, ⟨us, h, r⟩ => ⟨us, h, RelWs.back p _ _ _ r0 r⟩
  | .dic kvs, h0, h => h.elim
      (fun ⟨ks, h, r⟩ => .inl ⟨ks, h, h0.elim (fun ⟨ks0, _, r0⟩ => RelKs.back p _ _ _ r0 r) fun ⟨es0, _, r0⟩ => by
        cases kvs with
        | nil => simpa [RelKs] using r
        | cons q r' =>
          simp only [RelKs] at r
          simp only [RelTs] at r0
          obtain ⟨k, v, t', _, e1, _⟩ := r
          obtain ⟨k', b, v', t'', _, e2, _⟩ := r0
          cases hq : q.1 <;> rw [hq] at e1 e2 <;> simp [keyK, keyT] at e1 e2⟩)
      fun ⟨ks, h, r⟩ => .inr ⟨ks, h, h0.elim (fun ⟨ks0, _, r0⟩ => by
        cases kvs with
        | nil => simpa [RelTs] using r
        | cons q r' =>
          simp only [RelTs] at r
          simp only [RelKs] at r0
          obtain ⟨k, b, v, t', _, e1, _⟩ := r
          obtain ⟨k', v', t'', _, e2, _⟩ := r0
          cases hq : q.1 <;> rw [hq] at e1 e2 <;> simp [keyK, keyT] at e1 e2) fun ⟨ks0, _, r0⟩ => RelTs.back p _ _ _ r0 r⟩
  | .set _, _, h => h
  | .ins _ _, ⟨_, _, ks0, _, _, r0⟩, ⟨C, dx, gs, h1, h2, r⟩ => ⟨C, dx, gs, h1, h2, RelFs.back p _ _ _ r0 r⟩
  | .exc _ _, _, h => h
theorem Sim.same (s : Sim g ρ M H) (t : Same H H') : Sim g ρ M H' := ⟨s.len, s.nd, fun i o e => by
  obtain ⟨a, h1, h2⟩ := s.ob i o e
  exact ⟨a, h1, h2.same t⟩⟩
theorem same_upd {p : Addr} {o : HO} (h : H p = none) : Same H (upd H p o) := fun b u e => by rw [upd_ne (ne_of_none e h)]; exact e
theorem Sim.addr (s : Sim g ρ M H) {i : Nat} {a : Addr} (h : ρ[i]? = some a) : ∃ o, M[i]? = some o ∧ OkO g ρ H a o := by
  have hi : i < M.length := by rw [← s.len]; exact (List.getElem?_eq_some_iff.mp h).1
  obtain ⟨b, h1, h2⟩ := s.ob i M[i] (List.getElem?_eq_getElem hi)
  rw [h] at h1; cases h1
  exact ⟨_, List.getElem?_eq_getElem hi, h2⟩
theorem Sim.live (s : Sim g ρ M H) {i : Nat} {p : Addr} (h : ρ[i]? = some p) (hp : H p = none) : False := by
  obtain ⟨o, h1, h2⟩ := s.addr h
  cases o with
  | lst xs => obtain ⟨us, e, _⟩ := h2; rw [hp] at e; cases e
  | dic kvs =>
    rcases h2 with ⟨us, e, _⟩ | ⟨us, e, _⟩
    · rw [hp] at e; cases e
    · rw [hp] at e; cases e
  | set _ => exact h2.elim
  | ins _ _ => obtain ⟨_, _, _, _, e, _⟩ := h2; rw [hp] at e; cases e
  | exc _ _ => exact h2.elim
theorem Sim.out (s : Sim g ρ M H) {p : Addr} (hp : H p = none) : p ∉ ρ := fun hm => by
  obtain ⟨i, h⟩ := List.getElem?_of_mem hm
  exact s.live h hp
theorem Sim.adopt {p : Addr} {o : MO} (s : Sim g ρ M H) (hp : p ∉ ρ) (ok : OkO g (ρ ++ [p]) H p o) : Sim g (ρ ++ [p]) (M ++ [o]) H := by
  have old : ∀ {i : Nat} {a : Addr}, (ρ ++ [p])[i]? = some a → (i < ρ.length ∧ ρ[i]? = some a) ∨ (i = ρ.length ∧ p = a) := fun {i a} e => by
    by_cases hi : i < ρ.length
    · rw [List.getElem?_append_left hi] at e
      exact .inl ⟨hi, e⟩
    · have := (List.getElem?_eq_some_iff.mp e).1
      simp at this
      have hi' : i = ρ.length := by omega
      subst hi'
      rw [List.getElem?_append_right (Nat.le_refl _)] at e
      simp at e
      exact .inr ⟨rfl, e⟩
  refine ⟨by simp [s.len], fun i j a e1 e2 => ?_, fun i q e => ?_⟩
  · rcases old e1 with ⟨h1, e1⟩ | ⟨h1, z1⟩
    · rcases old e2 with ⟨h2, e2⟩ | ⟨h2, z2⟩
      · exact s.nd i j a e1 e2
      · exact absurd (z2 ▸ List.mem_of_getElem? e1) hp
    · rcases old e2 with ⟨h2, e2⟩ | ⟨h2, _⟩
      · exact absurd (z1 ▸ List.mem_of_getElem? e2) hp
      · exact h1.trans h2.symm
  · by_cases hi : i < M.length
    · rw [List.getElem?_append_left hi] at e
      obtain ⟨a, h1, h2⟩ := s.ob i q e
      refine ⟨a, by rw [List.getElem?_append_left (by rw [s.len]; exact hi)]; exact h1, ?_⟩
      exact OkO.mono (List.prefix_append _ _) (TK.refl _) h2 rfl
    · have hi' : i = M.length := by
        have := (List.getElem?_eq_some_iff.mp e).1
        simp at this; omega
      subst hi'
      rw [List.getElem?_append_right (Nat.le_refl _)] at e
      simp at e
      subst e
      exact ⟨p, by rw [List.getElem?_append_right (by rw [s.len]; exact Nat.le_refl _), s.len]; simp, ok⟩
theorem Sim.push {p : Addr} {u : HO} {o : MO} (s : Sim g ρ M H) (hp : H p = none) (ok : OkO g (ρ ++ [p]) (upd H p u) p o) : Sim g (ρ ++ [p]) (M ++ [o]) (upd H p u) :=
  (s.same (same_upd hp)).adopt (s.out hp) ok
theorem stp_push {p : Addr} {u : HO} (hp : H p = none) : Stp ρ H (ρ ++ [p]) (upd H p u) :=
  ⟨List.prefix_append _ _, fun b hb => by
    rcases List.mem_append.mp hb with h | h
    · exact .inl h
    · simp at h; subst h; exact .inr hp, fun b o e _ => same_upd hp b o e⟩
theorem Sim.write {k : Nat} {a : Addr} {u : HO} {o : MO} (s : Sim g ρ M H) (ha : ρ[k]? = some a) (hs : ∀ v, H a = some v → ¬ Still v) (ok : OkO g ρ (upd H a u) a o) : Sim g ρ (M.set k o) (upd H a u) := by
  refine ⟨by simp [s.len], s.nd, fun i q e => ?_⟩
  have tk : TK H (upd H a u) := fun b v e' st => by
    rw [upd_ne (fun z => by subst z; exact hs v e' st)]; exact e'
  by_cases hik : i = k
  · subst hik
    rw [List.getElem?_set_self (by have := (List.getElem?_eq_some_iff.mp e).1; simpa using this)] at e
    cases e
    exact ⟨a, ha, ok⟩
  · rw [List.getElem?_set_ne (Ne.symm hik)] at e
    obtain ⟨b, h1, h2⟩ := s.ob i q e
    by_cases hb : b = a
    · subst hb
      exact absurd (s.nd i k b h1 ha) hik
    · exact ⟨b, h1, OkO.mono (List.prefix_refl _) tk h2 (upd_ne hb)⟩
theorem stp_write {a : Addr} {u : HO} (ha : a ∈ ρ) (hs : ∀ v, H a = some v → ¬ Still v) : Stp ρ H ρ (upd H a u) :=
  ⟨List.prefix_refl _, fun _ h => .inl h, fun b o e q => by
    rw [upd_ne fun z => ?_]
    · exact e
    · subst z
      rcases q with q | q
      · exact q ha
      · exact hs o e q⟩
theorem Sim.cut (s0 : Sim g ρ M H) (t : Stp ρ H ρ' H') (s : Sim g ρ' M' H') (e : M'.take M.length = M) : Sim g ρ M H' := by
  refine ⟨s0.len, s0.nd, fun i o h => ?_⟩
  obtain ⟨a, h1, h2⟩ := s0.ob i o h
  have hi := (List.getElem?_eq_some_iff.mp h).1
  have h' : M'[i]? = some o := by
    rw [← e, List.getElem?_take] at h
    simpa [hi] using h
  obtain ⟨b, h3, h4⟩ := s.ob i o h'
  rw [pre_get t.pre h1] at h3
  cases h3
  exact ⟨a, h1, OkO.back t.pre h2 h4⟩
theorem stp_cut (t : Stp ρ H ρ' H') : Stp ρ H ρ H' := ⟨List.prefix_refl _, fun _ h => .inl h, t.keep⟩
end
end Mi

namespace Mi
open PySem PySem.Spec PyProof.Rows L2

def ExOk (g : G) (H : Hp) (c : Nat) (fs : List P) (d : Option Addr) : Prop :=
  (fs = [] ∧ d = none) ∨ ∃ a kvs, d = some a ∧ H a = some (.xd kvs) ∧ ∀ (i : Nat) (f : Str) (x : P), (g.fld c)[i]? = some f → fs[i]? = some x → ∃ v, kvs.lookup f = some v ∧ RelP g.K H x v
abbrev Rel (α β : Type) := List Addr → Hp → α → β → Prop
def PostE {α β : Type} (g : G) (W : WX) (σ : L2.St) (ρ : List Addr) (H : Hp) (r : R α) (rel : Rel α β) (Q : β → Hp → Prop) : Prop := match r with
  | .ok w M' => ∀ ρ' H' v, Stp ρ H ρ' H' → Sim g ρ' M' H' → rel ρ' H' w v → Q v H'
  | .err c fs M' => ∀ ρ' H' d, Stp ρ H ρ' H' → Sim g ρ' M' H' → ExOk g H' c fs d → ∃ C, g.cad c = some C ∧ W (.ref C) d σ H'
  | .bad => False
section
variable {α β γ δ : Type} {g : G} {W : WX} {σ : L2.St} {ρ ρ1 : List Addr} {H H1 : Hp}
theorem PostE.mono {r : R α} {rel : Rel α β} {Q Q' : β → Hp → Prop} (h : PostE g W σ ρ H r rel Q) (q : ∀ v H, Q v H → Q' v H) : PostE g W σ ρ H r rel Q' := by
  cases r with
  | ok w M' => exact fun ρ' H' v a b c => q v H' (h ρ' H' v a b c)
  | err c fs M' => exact h
  | bad => exact h
theorem PostE.later {r : R α} {rel : Rel α β} {Q : β → Hp → Prop} (s : Stp ρ H ρ1 H1) (h : PostE g W σ ρ H r rel Q) : PostE g W σ ρ1 H1 r rel Q := by
  cases r with
  | ok w M' => exact fun ρ' H' v a b c => h ρ' H' v (s.trans a) b c
  | err c fs M' => exact fun ρ' H' v a b c => h ρ' H' v (s.trans a) b c
  | bad => exact h
theorem PostE.bnd {r : R α} {k : α → Hm → R γ} {rel1 : Rel α β} {rel2 : Rel γ δ} {Q : δ → Hp → Prop} (h : PostE g W σ ρ H (r.bnd k) rel2 Q) :
    PostE g W σ ρ H r rel1 (fun v H1 => ∃ ρ1 M1 w, Stp ρ H ρ1 H1 ∧ Sim g ρ1 M1 H1 ∧ rel1 ρ1 H1 w v ∧ PostE g W σ ρ1 H1 (k w M1) rel2 Q) := by
  cases r with
  | ok w M' => exact fun ρ' H' v a b c => ⟨ρ', M', w, a, b, c, PostE.later a h⟩
  | err c fs M' => exact h
  | bad => exact h
end
def RelEn (K : PySem.W.Frag) (ρ : List Addr) (H : Hp) (env : En) (σ : L2.St) : Prop :=
  env.length = σ.length ∧ ∀ (i : Nat) (w : Mi.W), env[i]? = some (some w) → ∃ v, σ[i]? = some (some v) ∧ RelW K ρ H w v
section
variable {K : PySem.W.Frag} {ρ ρ' : List Addr} {H H' : Hp} {env : En} {σ : L2.St}
theorem RelEn.later (s : Stp ρ H ρ' H') (h : RelEn K ρ H env σ) : RelEn K ρ' H' env σ :=
  ⟨h.1, fun i w e => by
    obtain ⟨v, h1, h2⟩ := h.2 i w e
    exact ⟨v, h1, RelW.mono s.pre s.tk _ _ h2⟩⟩
theorem RelEn.set {i : Nat} {w : Mi.W} {v : V} (h : RelEn K ρ H env σ) (r : RelW K ρ H w v) : RelEn K ρ H (env.set i (some w)) (σ.set i (some v)) := by
  refine ⟨by simp [h.1], fun j u e => ?_⟩
  by_cases hj : j = i
  · subst hj
    have hl : j < env.length := by have := (List.getElem?_eq_some_iff.mp e).1; simpa using this
    rw [List.getElem?_set_self hl] at e
    cases e
    exact ⟨v, by rw [List.getElem?_set_self (by rw [← h.1]; exact hl)], r⟩
  · rw [List.getElem?_set_ne (Ne.symm hj)] at e ⊢
    exact h.2 j u e
theorem RelEn.wipe1 {i : Nat} (h : RelEn K ρ H env σ) : RelEn K ρ H (env.set i none) (σ.set i none) := by
  refine ⟨by simp [h.1], fun j u e => ?_⟩
  by_cases hj : j = i
  · subst hj
    have hl : j < env.length := by have := (List.getElem?_eq_some_iff.mp e).1; simpa using this
    rw [List.getElem?_set_self hl] at e
    cases e
  · rw [List.getElem?_set_ne (Ne.symm hj)] at e ⊢
    exact h.2 j u e
end

def tI {α β : Type} (g : G) (W : WX) (f : En → Hm → R α) (rel : Rel α β) : L2.St → Hp → (β → Hp → Prop) → Prop := fun σ H Q =>
  ∃ ρ M env, RelEn g.K ρ H env σ ∧ Sim g ρ M H ∧ PostE g W σ ρ H (f env M) rel Q
abbrev relW (g : G) : Rel Mi.W V := RelW g.K
abbrev relWs (g : G) : Rel (List Mi.W) (List V) := RelWs g.K
abbrev relB : Rel Mi.W Bool := fun _ _ w b => w = .p (.bl b)
abbrev tE (g : G) (W : WX) (f : En → Hm → R Mi.W) : TE := tI g W f (relW g)
abbrev tT (g : G) (W : WX) (f : En → Hm → R Mi.W) : TT := tI g W f relB
abbrev tA (g : G) (W : WX) (f : En → Hm → R (List Mi.W)) : TA := tI g W f (relWs g)

section
variable {X : Cx} {g : G} {W : WX} {σ : L2.St} {H : Hp}
theorem PE.weak {e : Expr} {t t' : TE} (h : PE X e t) (hw : ∀ σ H Q, t' σ H Q → t σ H Q) : PE X e t' := ⟨fun pins s σ H Q I q => h.run pins s σ H Q I (hw σ H Q q)⟩
theorem PT.weak {e : Expr} {t t' : TT} (h : PT X e t) (hw : ∀ σ H Q, t' σ H Q → t σ H Q) : PT X e t' := ⟨fun pins s σ H Q I q => h.run pins s σ H Q I (hw σ H Q q)⟩
theorem PW.weak {e : Expr} {t t' : TT} (h : PW X e t) (hw : ∀ σ H Q, t' σ H Q → t σ H Q) : PW X e t' := ⟨fun wh pins s σ H Q I q => h.run wh pins s σ H Q I (hw σ H Q q)⟩
theorem PA.weak {es : List Expr} {t t' : TA} (h : PA X es t) (hw : ∀ σ H Q, t' σ H Q → t σ H Q) : PA X es t' := ⟨fun pos pins s σ H Q I q => h.run pos pins s σ H Q I (hw σ H Q q)⟩
theorem PS.weak {st : Stmt} {t t' : TS} (h : PS X st t) (hw : ∀ D σ H, t' D σ H → t D σ H) : PS X st t' := ⟨fun pins s σ H D I q => h.run pins s σ H D I (hw D σ H q)⟩
theorem PSs.weak {st : List Stmt} {t t' : TS} (h : PSs X st t) (hw : ∀ D σ H, t' D σ H → t D σ H) : PSs X st t' := ⟨fun pins s σ H D I q => h.run pins s σ H D I (hw D σ H q)⟩

theorem tI.bnd {α β γ δ : Type} {fa : En → Hm → R α} {k : En → α → Hm → R γ} {rel1 : Rel α β} {rel2 : Rel γ δ} {Q : δ → Hp → Prop} (h : tI g W (fun env M => (fa env M).bnd (k env)) rel2 σ H Q) :
    tI g W fa rel1 σ H (fun v H1 => ∃ ρ1 M1 env w, RelEn g.K ρ1 H1 env σ ∧ Sim g ρ1 M1 H1 ∧ rel1 ρ1 H1 w v ∧ PostE g W σ ρ1 H1 (k env w M1) rel2 Q) := by
  obtain ⟨ρ, M, env, hr, hs, hp⟩ := h
  exact ⟨ρ, M, env, hr, hs, (PostE.bnd hp).mono fun v H1 ⟨ρ1, M1, w, a, b, c, d⟩ => ⟨ρ1, M1, env, w, hr.later a, b, c, d⟩⟩
theorem tI.mono {α β : Type} {f : En → Hm → R α} {rel : Rel α β} {Q Q' : β → Hp → Prop} (h : tI g W f rel σ H Q) (q : ∀ v H, Q v H → Q' v H) : tI g W f rel σ H Q' :=
  let ⟨ρ, M, env, a, b, c⟩ := h
  ⟨ρ, M, env, a, b, c.mono q⟩

def OpS (g : G) (r : R2) (f : Mi.W → Mi.W → Hm → R Mi.W) : Prop :=
  ∀ (W : WX) (σ : L2.St) (ρ : List Addr) (M : Hm) (H : Hp) (x y : Mi.W) (v u : V) (Q : VK), Sim g ρ M H → RelW g.K ρ H x v → RelW g.K ρ H y u → PostE g W σ ρ H (f x y M) (relW g) Q → r v u H Q
theorem bin_rel {r : R2} {fa fb : En → Hm → R Mi.W} {f : Mi.W → Mi.W → Hm → R Mi.W} (hs : OpS g r f) {Q : VK} (h : tE g W (fun env M => (fa env M).bnd fun x M1 => (fb env M1).bnd fun y M2 => f x y M2) σ H Q) :
    tOp r (tE g W fa) (tE g W fb) σ H Q := by
  refine (tI.bnd (rel1 := relW g) (k := fun env x M1 => (fb env M1).bnd fun y M2 => f x y M2) h).mono fun v H1 ⟨ρ1, M1, env, w, a, b, c, d⟩ => ?_
  refine ⟨ρ1, M1, env, a, b, (PostE.bnd d).mono fun u H2 ⟨ρ2, M2, y, a2, b2, c2, d2⟩ => ?_⟩
  exact hs W σ ρ2 M2 H2 w y v u Q b2 (RelW.mono a2.pre a2.tk _ _ c) c2 d2
theorem sd_bin {op : Operator} {r : R2} {fa fb : En → Hm → R Mi.W} {f : Mi.W → Mi.W → Hm → R Mi.W} {a b : Expr} {pos : Pos} (ho : OpR X (binaryOp op) r) (hs : OpS g r f) (ha : PE X a (tE g W fa)) (hb : PE X b (tE g W fb)) :
    PE X (.BinOp a op b pos) (tE g W (fun env M => (fa env M).bnd fun x M1 => (fb env M1).bnd fun y M2 => f x y M2)) :=
  PE.weak (pe_op ho ha hb) fun _ _ _ h => bin_rel hs h
theorem sd_cmp {op : CmpOp} {r : R2} {fa fb : En → Hm → R Mi.W} {f : Mi.W → Mi.W → Hm → R Mi.W} {a b : Expr} {pos : Pos} (ho : OpR X (compareOp op) r) (hs : OpS g r f) (ha : PE X a (tE g W fa)) (hb : PE X b (tE g W fb)) (hm : behindInMarks op b = false) :
    PE X (.Compare a [op] [b] pos) (tE g W (fun env M => (fa env M).bnd fun x M1 => (fb env M1).bnd fun y M2 => f x y M2)) :=
  PE.weak (pe_cmpR ho ha hb hm) fun _ _ _ h => bin_rel hs h

theorem sd_var {i : Nat} {x : Str} {pos : Pos} (hN : X.N[i]? = some x) (hv : Vis X.env.scope x) (hd : (x == ("__debug__" : Str)) = false) (hcd : (x == ("__classdict__" : Str)) = false) :
    PE X (.Name x pos) (tE g W fun env M => match env[i]? with
      | some (some w) => .ok w M
      | _ => .bad) := by
  refine PE.weak (pe_var hN hv hd hcd) fun σ H Q ⟨ρ, M, env, a, b, c⟩ => ?_
  dsimp only at c
  split at c
  · rename_i w e
    obtain ⟨v, h1, h2⟩ := a.2 i w e
    exact ⟨v, h1, c ρ H v (Stp.refl _ _) b h2⟩
  · exact c.elim
theorem tC_of {c : P} {v : V} {Q : VK} (hv : ∀ H, RelP g.K H c v) (h : tE g W (fun _ M => .ok (.p c) M) σ H Q) : tC v σ H Q := by
  obtain ⟨ρ, M, env, a, b, c'⟩ := h
  exact c' ρ H v (Stp.refl _ _) b (by show RelP g.K H c v; exact hv H)
theorem sd_int {i : Int} {j : Nat} {pos : Pos} : PE X (.Constant (.int i) j pos) (tE g W fun _ M => .ok (.p (.int i)) M) := PE.weak pe_int fun _ _ _ h => tC_of (fun _ => by simp [RelP]) h
theorem sd_bl {i : Bool} {j : Nat} {pos : Pos} : PE X (.Constant (.bool i) j pos) (tE g W fun _ M => .ok (.p (.bl i)) M) := PE.weak pe_bl fun _ _ _ h => tC_of (fun _ => by simp [RelP]) h
theorem sd_str {i : Str} {j : Nat} {pos : Pos} : PE X (.Constant (.str i) j pos) (tE g W fun _ M => .ok (.p (.str i)) M) := PE.weak pe_str fun _ _ _ h => tC_of (fun _ => by simp [RelP]) h
theorem sd_non {j : Nat} {pos : Pos} : PE X (.Constant .none j pos) (tE g W fun _ M => .ok (.p .non) M) := PE.weak pe_non fun _ _ _ h => tC_of (fun _ => by simp [RelP]) h
theorem sd_glb {x : Str} {c : P} {v : V} {u : Value} {pos : Pos} (hg : Gl X x) (hm : X.mg x = some u) (r : RelV v u) (hv : ∀ H, RelP g.K H c v) (hd : (x == ("__debug__" : Str)) = false) : PE X (.Name x pos) (tE g W fun _ M => .ok (.p c) M) :=
  PE.weak (pe_glob hg hm r hd) fun _ _ _ h => tC_of hv h

theorem sd_nil : PA X [] (tA g W fun _ M => .ok [] M) := PA.weak pa_nil fun σ H Q ⟨ρ, M, env, a, b, c⟩ => c ρ H [] (Stp.refl _ _) b (by show RelWs g.K ρ H [] []; simp [RelWs])
theorem sd_cons {e : Expr} {es : List Expr} {fa : En → Hm → R Mi.W} {fs : En → Hm → R (List Mi.W)} (ha : PE X e (tE g W fa)) (hs : PA X es (tA g W fs)) (hst : starEach (e :: es) X.env = (false, eval e X.env) :: starEach es X.env) :
    PA X (e :: es) (tA g W fun env M => (fa env M).bnd fun w M1 => (fs env M1).bnd fun ws M2 => .ok (w :: ws) M2) := by
  refine PA.weak (pa_cons ha hs hst) fun σ H Q h => ?_
  refine (tI.bnd (rel1 := relW g) (k := fun env w M1 => (fs env M1).bnd fun ws M2 => .ok (w :: ws) M2) h).mono fun v H1 ⟨ρ1, M1, env, w, a, b, c, d⟩ => ?_
  refine ⟨ρ1, M1, env, a, b, (PostE.bnd (rel1 := relWs g) d).mono fun us H2 ⟨ρ2, M2, ws, a2, b2, c2, d2⟩ => ?_⟩
  refine d2 ρ2 H2 (v :: us) (Stp.refl _ _) b2 ?_
  show RelWs g.K ρ2 H2 (w :: ws) (v :: us)
  simp only [RelWs]
  exact ⟨v, us, rfl, RelW.mono a2.pre a2.tk _ _ c, c2⟩
theorem big_line : big = sizeLine := by rw [sizeLine_eq]; rfl
theorem sd_tup {es : List Expr} {k : Nat} {pos : Pos} {fs : En → Hm → R (List Mi.W)} (hs : PA X es (tA g W fs)) :
    PE X (.Tuple es k pos) (tE g W fun env M => (fs env M).bnd fun ws M1 => if ws.length ≤ big then .ok (mkTup ws) M1 else .bad) := by
  refine PE.weak (pe_tup hs) fun σ H Q h => ?_
  refine (tI.bnd (rel1 := relWs g) (k := fun _ ws M1 => if ws.length ≤ big then .ok (mkTup ws) M1 else .bad) h).mono fun us H1 ⟨ρ1, M1, env, ws, a, b, c, d⟩ => ?_
  split at d
  · rename_i hl
    refine ⟨by rw [← relWs_len c, ← big_line]; exact hl, fun p hp => ?_⟩
    refine d ρ1 _ _ (Stp.same (same_upd hp)) (b.same (same_upd hp)) ?_
    exact relW_mkTup (.inl (.inl upd_same)) (RelWs.mono (List.prefix_refl _) (TK.same (same_upd hp)) _ _ c)
  · exact d.elim
theorem sd_lst {es : List Expr} {pos : Pos} {fs : En → Hm → R (List Mi.W)} (hs : PA X es (tA g W fs)) :
    PE X (.List es pos) (tE g W fun env M => (fs env M).bnd fun ws M1 => if ws.length ≤ big then newO (.lst ws) M1 else .bad) := by
  refine PE.weak (pe_lst hs) fun σ H Q h => ?_
  refine (tI.bnd (rel1 := relWs g) (k := fun _ ws M1 => if ws.length ≤ big then newO (.lst ws) M1 else .bad) h).mono fun us H1 ⟨ρ1, M1, env, ws, a, b, c, d⟩ => ?_
  split at d
  · rename_i hl
    refine ⟨by rw [← relWs_len c, ← big_line]; exact hl, fun p hp => ?_⟩
    have tk := TK.same (same_upd (o := .lst us) hp)
    refine d (ρ1 ++ [p]) _ _ (stp_push hp) (b.push hp ⟨us, upd_same, RelWs.mono (List.prefix_append _ _) tk _ _ c⟩) ?_
    show RelW g.K (ρ1 ++ [p]) _ (.ref M1.length) (.ref p)
    simp only [RelW]
    exact ⟨p, by rw [← b.len, List.getElem?_append_right (Nat.le_refl _)]; simp, rfl⟩
  · exact d.elim

theorem os_I0 {f : Int → Int → Int} {o : Mi.W → Mi.W → Hm → R Mi.W} (h : ∀ x y M, o x y M = (match x, y with
    | .p (.int i), .p (.int j) => okV (.int (f i j)) M
    | _, _ => .bad)) : OpS g (rI0 fun i j => .int (f i j)) o := by
  intro W σ ρ M H x y v u Q s rx ry q
  rw [h] at q
  split at q
  · simp only [RelW, RelP] at rx ry
    exact ⟨_, _, rx, ry, q ρ H _ (Stp.refl _ _) s (by show RelW g.K ρ H _ _; simp [RelW, RelP])⟩
  · exact q.elim
theorem os_I {C : Int → Int → Prop} {b : Int → Int → Prop} [∀ i j, Decidable (b i j)] {f : Int → Int → Int} {o : Mi.W → Mi.W → Hm → R Mi.W} (hb : ∀ i j, b i j → C i j) (h : ∀ x y M, o x y M = (match x, y with
    | .p (.int i), .p (.int j) => if b i j then okV (.int (f i j)) M else .bad
    | _, _ => .bad)) : OpS g (rI C fun i j => .int (f i j)) o := by
  intro W σ ρ M H x y v u Q s rx ry q
  rw [h] at q
  split at q
  · rename_i i j
    simp only [RelW, RelP] at rx ry
    by_cases hc : b i j
    · rw [if_pos hc] at q
      exact ⟨i, j, rx, ry, hb i j hc, q ρ H _ (Stp.refl _ _) s (by show RelW g.K ρ H _ _; simp [RelW, RelP])⟩
    · rw [if_neg hc] at q
      exact q.elim
  · exact q.elim
theorem os_sub : OpS g (rI0 fun i j => .int (i - j)) subV := os_I0 fun x y M => by unfold subV; split <;> simp_all
theorem os_fdiv : OpS g (rI CDiv fun i j => .int (i / j)) fdivV := os_I (b := fun _ j => 0 < j ∧ j < 1073741824) (fun _ _ h => h) fun x y M => by unfold fdivV; split <;> simp_all
theorem os_mod : OpS g (rI (fun _ j => 0 < j) fun i j => .int (i % j)) modV := os_I (b := fun _ j => 0 < j) (fun _ _ h => h) fun x y M => by unfold modV; split <;> simp_all
theorem os_pow : OpS g (rI CPow fun i j => .int (i ^ j.toNat)) powV := os_I (b := fun i j => 0 ≤ j ∧ j ≤ 1000000 ∧ i.natAbs < 2 ^ 64) (fun _ _ h => h) fun x y M => by unfold powV; split <;> simp_all
end
end Mi

namespace Mi
open PySem PySem.Spec PyProof.Rows L2

section
variable {K : PySem.W.Frag} {ρ : List Addr} {M : Hm} {H : Hp}
mutual
theorem dp_P : ∀ (x : P) (v : V), RelP K H x v → Dp K H v x.toD
  | .non, v, h => by simp only [RelP] at h; subst h; simp only [P.toD]; exact .non
  | .bl b, v, h => by simp only [RelP] at h; subst h; simp only [P.toD]; exact .bl b
  | .int i, v, h => by simp only [RelP] at h; subst h; simp only [P.toD]; exact .int i
  | .str x, v, h => by simp only [RelP] at h; subst h; simp only [P.toD]; exact .str x
  | .tup xs, v, h => by
    simp only [RelP] at h
    obtain ⟨a, us, rfl, s, r⟩ := h
    simp only [P.toD]
    exact .tup s (dp_Ps xs us r)
theorem dp_Ps : ∀ (xs : List P) (us : List V), RelPs K H xs us → DpAll K H us (P.toDs xs)
  | [], us, h => by simp only [RelPs] at h; subst h; simp only [P.toDs]; exact .nil
  | x :: xs, us, h => by
    simp only [RelPs] at h
    obtain ⟨u, r, rfl, h1, h2⟩ := h
    simp only [P.toDs]
    exact .cons (dp_P x u h1) (dp_Ps xs r h2)
end
theorem mapO_rel {f : Mi.W → Option PyData} (hf : ∀ (w : Mi.W) (v : V) (d : PyData), f w = some d → RelW K ρ H w v → Dp K H v d) : ∀ (ws : List Mi.W) (us : List V) (ds : List PyData), mapO f ws = some ds → RelWs K ρ H ws us → DpAll K H us ds
  | [], us, ds, h, r => by
    simp only [mapO, Option.some.injEq] at h
    simp only [RelWs] at r
    subst h; subst r; exact .nil
  | w :: ws, us, ds, h, r => by
    simp only [RelWs] at r
    obtain ⟨u, t, rfl, h1, h2⟩ := r
    simp only [mapO] at h
    split at h
    · rename_i d e
      simp only [Option.map_eq_some_iff] at h
      obtain ⟨ds', h3, rfl⟩ := h
      exact .cons (hf w u d e h1) (mapO_rel hf ws t ds' h3 h2)
    · cases h
variable {g : G}
theorem sim_lst (s : Sim g ρ M H) {k : Nat} {v : V} {xs : List Mi.W} (r : RelW g.K ρ H (.ref k) v) (e : M[k]? = some (.lst xs)) : ∃ p us, v = .ref p ∧ ρ[k]? = some p ∧ H p = some (.lst us) ∧ RelWs g.K ρ H xs us := by
  simp only [RelW] at r
  obtain ⟨p, h1, rfl⟩ := r
  obtain ⟨a, h2, us, h3, h4⟩ := s.ob k _ e
  rw [h1] at h2; cases h2
  exact ⟨p, us, rfl, h1, h3, h4⟩
theorem fl_rel {K : PySem.W.Frag} {xs : List P} {v : V} (r : RelW K ρ H (.fl xs) v) : ∃ p us, v = .ref p ∧ SqL K H p us ∧ RelPs K H xs us := by
  simp only [RelW] at r
  obtain ⟨p, us, rfl, h, r⟩ := r
  refine ⟨p, us, rfl, ?_, r⟩
  rcases h with ⟨o, h⟩ | h
  · exact .inl (.inr ⟨o, h⟩)
  · exact .inr h
theorem dp_W (s : Sim g ρ M H) : ∀ (n : Nat) (w : Mi.W) (v : V) (d : PyData), toD M n w = some d → RelW g.K ρ H w v → Dp g.K H v d := by
  intro n
  induction n with
  | zero =>
    intro w v d h r
    cases w with
    | p x => simp only [toD, Option.some.injEq] at h; subst h; exact dp_P x v (by simpa [RelW] using r)
    | ref k => simp [toD] at h
    | tup ws => simp [toD] at h
    | fl xs =>
      simp only [toD, Option.some.injEq] at h
      subst h
      obtain ⟨p, us, rfl, h1, h2⟩ := fl_rel r
      exact .lst h1 (dp_Ps xs us h2)
  | succ n ih =>
    intro w v d h r
    cases w with
    | p x => simp only [toD, Option.some.injEq] at h; subst h; exact dp_P x v (by simpa [RelW] using r)
    | ref k =>
      simp only [toD] at h
      split at h
      · rename_i xs e
        simp only [Option.map_eq_some_iff] at h
        obtain ⟨ds, h1, rfl⟩ := h
        obtain ⟨p, us, rfl, _, hp, rs⟩ := sim_lst s r e
        exact .lst (.inl (.inl hp)) (mapO_rel (fun w v d a b => ih w v d a b) xs us ds h1 rs)
      · cases h
    | fl xs =>
      simp only [toD, Option.some.injEq] at h
      subst h
      obtain ⟨p, us, rfl, h1, h2⟩ := fl_rel r
      exact .lst h1 (dp_Ps xs us h2)
    | tup ws =>
      simp only [toD, Option.map_eq_some_iff] at h
      obtain ⟨ds, h1, rfl⟩ := h
      simp only [RelW] at r
      obtain ⟨a, us, rfl, sq, rs⟩ := r
      exact .tup sq (mapO_rel (fun w v d a b => ih w v d a b) ws us ds h1 rs)
theorem dp_data (s : Sim g ρ M H) {w : Mi.W} {v : V} {d : PyData} (h : dataOf M w = some d) (r : RelW g.K ρ H w v) : Dp g.K H v d ∧ d.depth ≤ 100 := by
  unfold dataOf at h
  split at h
  · rename_i d' e
    split at h
    · rename_i hd
      cases h
      exact ⟨dp_W s _ w v _ e r, hd⟩
    · cases h
  · cases h
mutual
theorem dp_plain : ∀ (d : PyData) (v : V), Dp K H v d → d.plain = true
  | .none, _, _ => rfl
  | .bool _, _, _ => rfl
  | .int _, _, _ => rfl
  | .str _, _, _ => rfl
  | .list ds, _, h => by cases h with | lst _ ha => simp only [PyData.plain]; exact dp_plainAll ds _ ha
  | .tuple ds, _, h => by cases h with | tup _ ha => simp only [PyData.plain]; exact dp_plainAll ds _ ha
  | .dict _, _, h => by cases h
theorem dp_plainAll : ∀ (ds : List PyData) (vs : List V), DpAll K H vs ds → PyData.plainAll ds = true
  | [], _, _ => rfl
  | d :: ds, _, h => by cases h with | cons h1 h2 => rw [PyData.plainAll, dp_plain d _ h1, dp_plainAll ds _ h2]; rfl
end
end

section
variable {X : Cx}
def rDat (K : PySem.W.Frag) (f : PyData → PyData → Option Bool) : R2 := fun x y H Q => ∃ d e b, Dp K H x d ∧ Dp K H y e ∧ d.depth ≤ 100 ∧ e.depth ≤ 100 ∧ f d e = some b ∧ Q (.bl b) H
theorem op_dat {op : CmpOp} {f : PyData → PyData → Option Bool} (hu : X.A.units + 200 < cLine)
    (h : ∀ {E : Value → Shared → Prop} {s : Shared} {a b : Value} {da db : PyData} {as bs : List Addr} {Q : Value → Shared → Prop} {k : Bool}, Reads s.heap a da as → Reads s.heap b db bs → da.plain = true → db.plain = true → da.depth ≤ 100 → db.depth ≤ 100 → f da db = some k → Q (.bool k) s → wpAny (model X.prog X.w) X.A (compareOp op a b) Q E s) :
    OpR X (compareOp op) (rDat X.K f) := by
  intro pins s σ H x y v u Q I rx ry ⟨d, e, b, hd, he, z1, z2, hf, q⟩
  obtain ⟨as, r1⟩ := Dp.reads I d x v hd rx
  obtain ⟨bs, r2⟩ := Dp.reads I e y u he ry
  exact h r1 r2 (dp_plain d x hd) (dp_plain e y he) z1 z2 hf ⟨.bl b, H, I, rfl, q⟩
def fEq (d e : PyData) : Option Bool := some (PyData.eqv d e)
def fLt (d e : PyData) : Option Bool := match d with
  | .none => none
  | _ => if PySem.W.alike d e then some (PySem.W.dataLt d e) else none
theorem fLt_some {d e : PyData} {k : Bool} (h : fLt d e = some k) : PySem.W.alike d e = true ∧ d ≠ .none ∧ k = PySem.W.dataLt d e := by
  unfold fLt at h
  split at h
  · cases h
  · rename_i hn
    split at h
    · rename_i ha
      cases h
      exact ⟨ha, hn, rfl⟩
    · cases h
variable (hu : X.A.units + 200 < cLine)
include hu
theorem op_eqP : OpR X (compareOp .Eq) (rDat X.K fEq) := op_dat hu fun r1 r2 p1 p2 z1 z2 hf q => by
  cases hf
  exact SeqAt.eq_plain r1 r2 p1 p2 (by omega) q
theorem op_neP : OpR X (compareOp .NotEq) (rDat X.K fun d e => (fEq d e).map (!·)) := op_dat hu fun r1 r2 p1 p2 z1 z2 hf q => by
  cases hf
  exact SeqAt.ne_plain r1 r2 p1 p2 (by omega) q
theorem op_ltP : OpR X (compareOp .Lt) (rDat X.K fLt) := op_dat hu fun r1 r2 p1 p2 z1 z2 hf q => by
  obtain ⟨ha, hn, rfl⟩ := fLt_some hf
  exact PySem.W.lt_data r1 r2 ha hn (by omega) q
theorem op_gtP : OpR X (compareOp .Gt) (rDat X.K fun d e => fLt e d) := op_dat hu fun r1 r2 p1 p2 z1 z2 hf q => by
  obtain ⟨ha, hn, rfl⟩ := fLt_some hf
  have ha' := (PySem.W.alike_comm _ _).trans ha
  exact PySem.W.gt_data r1 r2 ha' (PySem.W.ne_none_both ha hn) (by omega) q
theorem op_leP : OpR X (compareOp .LtE) (rDat X.K fun d e => (fLt e d).map (!·)) := op_dat hu fun r1 r2 p1 p2 z1 z2 hf q => by
  simp only [Option.map_eq_some_iff] at hf
  obtain ⟨k, hf, rfl⟩ := hf
  obtain ⟨ha, hn, rfl⟩ := fLt_some hf
  have ha' := (PySem.W.alike_comm _ _).trans ha
  exact PySem.W.le_data r1 r2 ha' (PySem.W.ne_none_both ha hn) (by omega) q
theorem op_geP : OpR X (compareOp .GtE) (rDat X.K fun d e => (fLt d e).map (!·)) := op_dat hu fun r1 r2 p1 p2 z1 z2 hf q => by
  simp only [Option.map_eq_some_iff] at hf
  obtain ⟨k, hf, rfl⟩ := hf
  obtain ⟨ha, hn, rfl⟩ := fLt_some hf
  exact PySem.W.ge_data r1 r2 ha hn (by omega) q
omit hu
def plainV : V → Bool
  | .non => true
  | .bl _ => true
  | _ => false
def rIsP (neg : Bool) : R2 := fun x y H Q => ((plainV x = true ∨ plainV y = true) ∧ Q (.bl (neg ^^ decide (x = y))) H) ∨
  ∃ a b oa ob, x = .ref a ∧ y = .ref b ∧ H a = some oa ∧ isObj oa = true ∧ H b = some ob ∧ isObj ob = true ∧ Q (.bl (neg ^^ decide (a = b))) H
theorem relV_beq {x y : V} {v u : Value} (rx : L2.RelV x v) (ry : L2.RelV y u) (h : plainV x = true ∨ plainV y = true) : plainIs v u = true ∧ (v == u) = decide (x = y) := by
  cases x <;> cases y <;> simp only [L2.RelV] at rx ry <;>
    first
    | (simp [plainV] at h; done)
    | (obtain ⟨t, rfl⟩ := rx; obtain ⟨t', rfl⟩ := ry; exact ⟨rfl, rfl⟩)
    | (obtain ⟨t, rfl⟩ := rx; subst ry; exact ⟨rfl, rfl⟩)
    | (obtain ⟨t, rfl⟩ := ry; subst rx; exact ⟨rfl, rfl⟩)
    | (subst rx; subst ry; refine ⟨rfl, ?_⟩; rw [Bool.eq_iff_iff]; simp)
theorem op_isP : OpR X (compareOp .Is) (rIsP false) := by
  intro pins s σ H x y v u Q I rx ry h
  rcases h with ⟨hp, q⟩ | ⟨a, b, oa, ob, h1, h2, h3, h4, h5, h6, q⟩
  · obtain ⟨e1, e2⟩ := relV_beq rx ry hp
    exact wpAny_is_plain e1 (by rw [e2]; exact ⟨.bl _, H, I, rfl, by simpa using q⟩)
  · exact op_is_ref pins s σ H x y v u Q I rx ry ⟨a, b, oa, ob, h1, h2, h3, h4, h5, h6, by simpa using q⟩
theorem op_isNotP : OpR X (compareOp .IsNot) (rIsP true) := by
  intro pins s σ H x y v u Q I rx ry h
  rcases h with ⟨hp, q⟩ | ⟨a, b, oa, ob, h1, h2, h3, h4, h5, h6, q⟩
  · obtain ⟨e1, e2⟩ := relV_beq rx ry hp
    exact wpAny_isNot_plain e1 (by rw [e2]; exact ⟨.bl _, H, I, rfl, by simpa using q⟩)
  · exact op_isnot_ref pins s σ H x y v u Q I rx ry ⟨a, b, oa, ob, h1, h2, h3, h4, h5, h6, by simpa using q⟩
def rInP (K : PySem.W.Frag) (neg : Bool) : R2 := fun x y H Q => (∃ i j, x = .str i ∧ y = .str j ∧ Q (.bl (neg ^^ !(Builtin.Str.occurrences j i 0 j.length 1).isEmpty)) H) ∨
  ∃ d e ds, Dp K H x d ∧ Dp K H y e ∧ (e = .list ds ∨ e = .tuple ds) ∧ d.depth ≤ 100 ∧ Q (.bl (neg ^^ ds.any fun z => PyData.eqv z d)) H
theorem op_inP (hu : X.A.units + 200 < cLine) : OpR X (compareOp .In) (rInP X.K false) := by
  intro pins s σ H x y v u Q I rx ry h
  rcases h with ⟨i, j, h1, h2, q⟩ | ⟨d, e, ds, h1, h2, h3, h4, q⟩
  · exact op_in_str pins s σ H x y v u Q I rx ry ⟨i, j, h1, h2, by simpa using q⟩
  · obtain ⟨as, r1⟩ := Dp.reads I d x v h1 rx
    obtain ⟨bs, r2⟩ := Dp.reads I e y u h2 ry
    have p2 := dp_plain e y h2
    have p1 := dp_plain d x h1
    rcases h3 with rfl | rfl
    · exact SeqAt.in_list_data r2 r1 (by simpa [PyData.plain] using p2) p1 (by omega) ⟨.bl _, H, I, rfl, by simpa using q⟩
    · exact SeqAt.in_tuple_data r2 r1 (by simpa [PyData.plain] using p2) p1 (by omega) ⟨.bl _, H, I, rfl, by simpa using q⟩
theorem op_notInP (hu : X.A.units + 200 < cLine) : OpR X (compareOp .NotIn) (rInP X.K true) := by
  intro pins s σ H x y v u Q I rx ry h
  rcases h with ⟨i, j, h1, h2, q⟩ | ⟨d, e, ds, h1, h2, h3, h4, q⟩
  · exact op_notIn_str pins s σ H x y v u Q I rx ry ⟨i, j, h1, h2, by simpa using q⟩
  · obtain ⟨as, r1⟩ := Dp.reads I d x v h1 rx
    obtain ⟨bs, r2⟩ := Dp.reads I e y u h2 ry
    have p2 := dp_plain e y h2
    have p1 := dp_plain d x h1
    rcases h3 with rfl | rfl
    · exact SeqAt.notIn_list_data r2 r1 (by simpa [PyData.plain] using p2) p1 (by omega) ⟨.bl _, H, I, rfl, by simpa using q⟩
    · exact SeqAt.notIn_tuple_data r2 r1 (by simpa [PyData.plain] using p2) p1 (by omega) ⟨.bl _, H, I, rfl, by simpa using q⟩
end
end Mi

namespace Mi
open PySem PySem.Spec PyProof.Rows L2

section
variable {g : G} {W : WX} {σ : L2.St} {ρ : List Addr} {M : Hm} {H : Hp} {Q : VK}
theorem post_p {x : P} {v : V} (s : Sim g ρ M H) (q : PostE g W σ ρ H (okV x M) (relW g) Q) (h : RelP g.K H x v) : Q v H := q ρ H v (Stp.refl _ _) s (by show RelW g.K ρ H _ _; simpa [RelW] using h)
theorem post_w {x : Mi.W} {v : V} (s : Sim g ρ M H) (q : PostE g W σ ρ H (.ok x M) (relW g) Q) (h : RelW g.K ρ H x v) : Q v H := q ρ H v (Stp.refl _ _) s h
theorem rel_last {p : Addr} (s : Sim g ρ M H) (H' : Hp) : RelW g.K (ρ ++ [p]) H' (.ref M.length) (.ref p) := by
  simp only [RelW]
  exact ⟨p, by rw [← s.len, List.getElem?_append_right (Nat.le_refl _)]; simp, rfl⟩
theorem post_newL {xs : List Mi.W} {us : List V} {p : Addr} (s : Sim g ρ M H) (q : PostE g W σ ρ H (newO (.lst xs) M) (relW g) Q) (hp : H p = none) (r : RelWs g.K ρ H xs us) : Q (.ref p) (upd H p (.lst us)) :=
  q (ρ ++ [p]) _ _ (stp_push hp) (s.push hp ⟨us, upd_same, RelWs.mono (List.prefix_append _ _) (TK.same (same_upd hp)) _ _ r⟩) (rel_last s _)
theorem post_ofO {o : Option P} (q : PostE g W σ ρ H (ofO o M) (relW g) Q) : ∃ x, o = some x ∧ PostE g W σ ρ H (okV x M) (relW g) Q := by
  cases o with
  | some x => exact ⟨x, rfl, q⟩
  | none => exact q.elim
theorem post_ofB {o : Option Bool} (q : PostE g W σ ρ H (ofB o M) (relW g) Q) : ∃ x, o = some x ∧ PostE g W σ ρ H (okV (.bl x) M) (relW g) Q := by
  cases o with
  | some x => exact ⟨x, rfl, q⟩
  | none => exact q.elim
end

def cmpW (o : CmpOp) (x y : Mi.W) (M : Hm) : R Mi.W := ofB (cmpV o x y M) M
section
variable {g : G}
theorem os_dat {o : CmpOp} {f : PyData → PyData → Option Bool} (h : ∀ x y M b, cmpV o x y M = some b → ∃ d e, dataOf M x = some d ∧ dataOf M y = some e ∧ f d e = some b) : OpS g (rDat g.K f) (cmpW o) := by
  intro W σ ρ M H x y v u Q s rx ry q
  obtain ⟨b, e, q⟩ := post_ofB q
  obtain ⟨d1, d2, h1, h2, h3⟩ := h x y M b e
  obtain ⟨a1, a2⟩ := dp_data s h1 rx
  obtain ⟨b1, b2⟩ := dp_data s h2 ry
  exact ⟨d1, d2, b, a1, b1, a2, b2, h3, post_p s q (by simp [RelP])⟩
theorem eqW_some {M : Hm} {x y : Mi.W} {b : Bool} (h : eqW M x y = some b) : ∃ d e, dataOf M x = some d ∧ dataOf M y = some e ∧ fEq d e = some b := by
  unfold eqW at h
  split at h
  · rename_i d e h1 h2
    exact ⟨d, e, h1, h2, h⟩
  · cases h
theorem ltW_some {M : Hm} {x y : Mi.W} {b : Bool} (h : ltW M x y = some b) : ∃ d e, dataOf M x = some d ∧ dataOf M y = some e ∧ fLt d e = some b := by
  unfold ltW at h
  split at h
  · rename_i d e h1 h2
    exact ⟨d, e, h1, h2, h⟩
  · cases h
theorem os_eq : OpS g (rDat g.K fEq) (cmpW .Eq) := os_dat fun x y M b h => eqW_some h
theorem os_ne : OpS g (rDat g.K fun d e => (fEq d e).map (!·)) (cmpW .NotEq) := os_dat fun x y M b h => by
  simp only [cmpV, Option.map_eq_some_iff] at h
  obtain ⟨c, h, rfl⟩ := h
  obtain ⟨d, e, h1, h2, h3⟩ := eqW_some h
  exact ⟨d, e, h1, h2, by rw [h3]; rfl⟩
theorem os_lt : OpS g (rDat g.K fLt) (cmpW .Lt) := os_dat fun x y M b h => ltW_some h
theorem os_gt : OpS g (rDat g.K fun d e => fLt e d) (cmpW .Gt) := os_dat fun x y M b h => by
  obtain ⟨d, e, h1, h2, h3⟩ := ltW_some h
  exact ⟨e, d, h2, h1, h3⟩
theorem os_le : OpS g (rDat g.K fun d e => (fLt e d).map (!·)) (cmpW .LtE) := os_dat fun x y M b h => by
  simp only [cmpV, Option.map_eq_some_iff] at h
  obtain ⟨c, h, rfl⟩ := h
  obtain ⟨d, e, h1, h2, h3⟩ := ltW_some h
  exact ⟨e, d, h2, h1, by rw [h3]; rfl⟩
theorem os_ge : OpS g (rDat g.K fun d e => (fLt d e).map (!·)) (cmpW .GtE) := os_dat fun x y M b h => by
  simp only [cmpV, Option.map_eq_some_iff] at h
  obtain ⟨c, h, rfl⟩ := h
  obtain ⟨d, e, h1, h2, h3⟩ := ltW_some h
  exact ⟨d, e, h1, h2, by rw [h3]; rfl⟩

theorem flat_rel {K : PySem.W.Frag} {ρ : List Addr} {H : Hp} {x y : Mi.W} {v u : V} (hx : x.flat = true) (rx : RelW K ρ H x v) (ry : RelW K ρ H y u) : plainV v = true ∧ (v = u ↔ x = y) := by
  cases x with
  | p a =>
    cases a <;> simp only [W.flat, Bool.false_eq_true] at hx
    all_goals
      simp only [RelW, RelP] at rx
      subst rx
      refine ⟨rfl, ?_⟩
      cases y with
      | p b =>
        cases b with
        | tup xs => simp only [RelW, RelP] at ry; obtain ⟨a, us, rfl, _⟩ := ry; simp
        | _ => simp only [RelW, RelP] at ry; subst ry; simp
      | ref n => simp only [RelW] at ry; obtain ⟨a, _, rfl⟩ := ry; simp
      | tup ws => simp only [RelW] at ry; obtain ⟨a, us, rfl, _⟩ := ry; simp
      | fl ws => simp only [RelW] at ry; obtain ⟨a, us, rfl, _⟩ := ry; simp
  | ref n => simp [W.flat] at hx
  | tup ws => simp [W.flat] at hx
  | fl ws => simp [W.flat] at hx
theorem isV_rel {ρ : List Addr} {M : Hm} {H : Hp} (s : Sim g ρ M H) {x y : Mi.W} {v u : V} {b : Bool} (rx : RelW g.K ρ H x v) (ry : RelW g.K ρ H y u) (h : isV M x y = some b) {neg : Bool} {Q : VK} (q : Q (.bl (neg ^^ b)) H) : rIsP neg v u H Q := by
  unfold isV at h
  split at h
  · rename_i hf
    simp only [Option.some.injEq] at h
    subst h
    rw [Bool.or_eq_true] at hf
    rcases hf with hf | hf
    · obtain ⟨e1, e2⟩ := flat_rel hf rx ry
      exact .inl ⟨.inl e1, by rw [decide_eq_decide.mpr e2]; exact q⟩
    · obtain ⟨e1, e2⟩ := flat_rel hf ry rx
      exact .inl ⟨.inr e1, by rw [decide_eq_decide.mpr (show v = u ↔ x = y from ⟨fun z => (e2.mp z.symm).symm, fun z => (e2.mpr z.symm).symm⟩)]; exact q⟩
  · split at h
    · rename_i _ a c _
      split at h
      · rename_i xs ys e1 e2
        simp only [Option.some.injEq] at h
        subst h
        obtain ⟨p, us, rfl, h1, h2, _⟩ := sim_lst s rx e1
        obtain ⟨p', us', rfl, h3, h4, _⟩ := sim_lst s ry e2
        refine .inr ⟨p, p', _, _, rfl, rfl, h2, rfl, h4, rfl, ?_⟩
        have e : (p = p') ↔ (a = c) := by
          constructor
          · rintro rfl
            exact s.nd a c p h1 h3
          · rintro rfl
            rw [h1] at h3; cases h3; rfl
        rw [decide_eq_decide.mpr e]
        exact q
      · cases h
    · cases h
theorem os_is : OpS g (rIsP false) (cmpW .Is) := by
  intro W σ ρ M H x y v u Q s rx ry q
  obtain ⟨b, e, q⟩ := post_ofB q
  exact isV_rel s rx ry e (post_p s q (by simp [RelP]))
theorem os_isNot : OpS g (rIsP true) (cmpW .IsNot) := by
  intro W σ ρ M H x y v u Q s rx ry q
  obtain ⟨b, e, q⟩ := post_ofB q
  simp only [cmpV, Option.map_eq_some_iff] at e
  obtain ⟨c, e, rfl⟩ := e
  exact isV_rel s rx ry e (post_p s q (by simp [RelP]))
def rInD (neg : Bool) : R2 := fun x y H Q => ∃ a o, y = .ref a ∧ DGet H a x o ∧ Q (.bl (neg ^^ o.isSome)) H
theorem inV_rel {ρ : List Addr} {M : Hm} {H : Hp} (s : Sim g ρ M H) {x y : Mi.W} {v u : V} {b : Bool} (rx : RelW g.K ρ H x v) (ry : RelW g.K ρ H y u) (h : inV M x y = some b) (hd : ∀ (k : Nat) (kvs : List (P × Mi.W)), y = .ref k → M[k]? ≠ some (MO.dic kvs)) {neg : Bool} {Q : VK} (q : Q (.bl (neg ^^ b)) H) : rInP g.K neg v u H Q := by
  unfold inV at h
  split at h
  · rename_i z
    split at h
    · rename_i t
      have h' := Option.some.inj h
      subst h'
      simp only [RelW, RelP] at rx ry
      exact .inl ⟨t, z, rx, ry, q⟩
    · exact nomatch h
  · split at h
    · rename_i ds d e1 e2
      simp only [Option.some.injEq] at h
      subst h
      obtain ⟨a1, a2⟩ := dp_data s e1 ry
      obtain ⟨b1, b2⟩ := dp_data s e2 rx
      exact .inr ⟨d, _, ds, b1, a1, .inl rfl, b2, q⟩
    · rename_i ds d e1 e2
      simp only [Option.some.injEq] at h
      subst h
      obtain ⟨a1, a2⟩ := dp_data s e1 ry
      obtain ⟨b1, b2⟩ := dp_data s e2 rx
      exact .inr ⟨d, _, ds, b1, a1, .inr rfl, b2, q⟩
    · split at h
      · split at h
        · rename_i e
          exact (hd _ _ rfl e).elim
        · exact nomatch h
      · exact nomatch h

theorem tup_rel {K : PySem.W.Frag} {ρ : List Addr} {H : Hp} {x : Mi.W} {v : V} {ws : List Mi.W} (r : RelW K ρ H x v) (h : tupItems x = some ws) : ∃ a us, v = .ref a ∧ SqT K H a us ∧ RelWs K ρ H ws us := by
  unfold tupItems at h
  split at h
  · rename_i xs
    cases h
    simp only [RelW, RelP] at r
    obtain ⟨a, us, e, s, r⟩ := r
    exact ⟨a, us, e, s, (relPs_of xs us).mpr r⟩
  · cases h
    simp only [RelW] at r
    exact r
  · cases h
theorem os_add : OpS g (fun x y H Q => rI0 (fun i j => .int (i + j)) x y H Q ∨ (∃ i j, x = .str i ∧ y = .str j ∧ i.length + j.length ≤ sizeLine ∧ Q (.str (i ++ j)) H) ∨ rCat x y H Q ∨ rCatA g.K x y H Q) addV := by
  intro W σ ρ M H x y v u Q s rx ry q
  unfold addV at q
  split at q
  · simp only [RelW, RelP] at rx ry
    exact .inl ⟨_, _, rx, ry, post_p s q (by simp [RelP])⟩
  · simp only [RelW, RelP] at rx ry
    split at q
    · rename_i hl
      exact .inr (.inl ⟨_, _, rx, ry, by rw [← big_line]; exact hl, post_p s q (by simp [RelP])⟩)
    · exact q.elim
  · rename_i a b
    split at q
    · rename_i xs ys e1 e2
      split at q
      · rename_i hl
        obtain ⟨p, us, rfl, h1, h2, h3⟩ := sim_lst s rx e1
        obtain ⟨p', us', rfl, h4, h5, h6⟩ := sim_lst s ry e2
        refine .inr (.inr (.inl ⟨p, p', us, us', rfl, rfl, h2, h5, by rw [← relWs_len h3, ← relWs_len h6, ← big_line]; exact hl, fun l hp => ?_⟩))
        exact post_newL s q hp (relWs_append h3 h6)
      · exact q.elim
    · exact q.elim
  · split at q
    · rename_i xs ys e1 e2
      split at q
      · rename_i hl
        obtain ⟨a, us, rfl, sa, ra⟩ := tup_rel rx e1
        obtain ⟨b, us', rfl, sb, rb⟩ := tup_rel ry e2
        have l1 := relWs_len ra
        have l2 := relWs_len rb
        refine .inr (.inr (.inr ⟨a, b, us, us', rfl, rfl, sa, sb, by rw [← l1, ← l2, ← big_line]; exact hl, ?_, ?_, ?_⟩))
        · rintro rfl
          have : xs = [] := List.length_eq_zero_iff.mp l1
          subst this
          exact post_w s q (relW_mkTup sb rb)
        · rintro _ rfl
          have : ys = [] := List.length_eq_zero_iff.mp l2
          subst this
          exact post_w s q (relW_mkTup sa (by rw [List.append_nil]; exact ra))
        · intro _ _ p hp
          have tk := TK.same (same_upd (o := .tup (us ++ us')) hp)
          refine q ρ _ _ (Stp.same (same_upd hp)) (s.same (same_upd hp)) ?_
          exact relW_mkTup (.inl (.inl upd_same)) (relWs_append (RelWs.mono (List.prefix_refl _) tk _ _ ra) (RelWs.mono (List.prefix_refl _) tk _ _ rb))
      · exact q.elim
    · exact q.elim
end
end Mi

namespace Mi
open PySem PySem.Spec PyProof.Rows L2

section
variable {g : G}
theorem mulOk_iff {i j : Int} (h : mulOk i j = true) : CMul i j := by
  unfold mulOk at h
  simp only [Bool.or_eq_true, Bool.and_eq_true, decide_eq_true_eq] at h
  exact h
theorem os_mul : OpS g (fun x y H Q => rI CMul (fun i j => .int (i * j)) x y H Q ∨ rRep x y H Q) mulV := by
  intro W σ ρ M H x y v u Q s rx ry q
  unfold mulV at q
  split at q
  · split at q
    · rename_i hc
      simp only [RelW, RelP] at rx ry
      exact .inl ⟨_, _, rx, ry, mulOk_iff hc, post_p s q (by simp [RelP])⟩
    · exact q.elim
  · rename_i a j
    split at q
    · rename_i xs e
      split at q
      · rename_i hc
        obtain ⟨h1, h2, h3⟩ := hc
        simp only [RelW, RelP] at ry
        obtain ⟨p, us, rfl, h4, h5, h6⟩ := sim_lst s rx e
        refine .inr ⟨p, j, us, rfl, ry, h5, by omega, by omega, by rw [← relWs_len h6, ← big_line]; exact h3, fun l hl => ?_⟩
        refine post_newL s q hl ?_
        have rep : ∀ n : Nat, RelWs g.K ρ H (List.replicate n xs).flatten (List.replicate n us).flatten := fun n => by
          induction n with
          | zero => simp [RelWs]
          | succ n ih => rw [List.replicate_succ, List.replicate_succ, List.flatten_cons, List.flatten_cons]; exact relWs_append h6 ih
        exact rep _
      · exact q.elim
    · exact q.elim
  · exact q.elim

theorem place_eq (n : Nat) (i : Int) : placeOf n i = ixN n i := rfl
theorem atW_V {K : PySem.W.Frag} {ρ : List Addr} {H : Hp} {ws : List Mi.W} {us : List V} {i : Int} {w : Mi.W} (r : RelWs K ρ H ws us) (h : atW ws i = some w) : ∃ u, atI us i = some u ∧ RelW K ρ H w u := by
  unfold atW at h
  rw [Option.bind_eq_some_iff] at h
  obtain ⟨j, h1, h2⟩ := h
  obtain ⟨u, h3, h4⟩ := relWs_get r h2
  refine ⟨u, ?_, h4⟩
  unfold atI
  rw [← relWs_len r, ← place_eq, h1]
  exact h3
def rIxD : R2 := fun x y H Q => ∃ a v, x = .ref a ∧ DGet H a y (some v) ∧ Q v H
theorem rks_val {K : PySem.W.Frag} {ρ : List Addr} {H : Hp} {y : P} {k : Key} (hk : keyK y = some k) : ∀ {kvs : List (P × Mi.W)} {ks : List (Key × V)}, RelKs K ρ H kvs ks → (∀ w, dget kvs y = some w → ∃ v, valV ks k = some v ∧ RelW K ρ H w v) ∧ (dget kvs y = none → valV ks k = none)
  | [], ks, h => by
    simp only [RelKs] at h
    subst h
    exact ⟨fun w e => by simp [dget] at e, fun _ => rfl⟩
  | (q, w0) :: r, ks, h => by
    simp only [RelKs] at h
    obtain ⟨k', v, t, rfl, h1, h2, h3⟩ := h
    have ih := rks_val hk h3
    unfold dget at ih ⊢
    rw [List.lookup_cons]
    by_cases e : y = q
    · subst e
      rw [hk] at h1
      cases h1
      simp only [beq_self_eq_true]
      rw [valV_pos rfl]
      exact ⟨fun w e => by cases e; exact ⟨v, rfl, h2⟩, fun e => by cases e⟩
    · rw [beq_eq_false_iff_ne.mpr e]
      rw [valV_neg (by
        intro z
        simp only at z
        subst z
        apply e
        cases y <;> cases q <;> simp only [keyK, Option.some.injEq, reduceCtorEq] at hk h1 <;> first | (subst hk; injection h1 with h1; subst h1; rfl) | (subst hk; cases h1))]
      exact ih
theorem sim_dic {ρ : List Addr} {M : Hm} {H : Hp} (s : Sim g ρ M H) {k : Nat} {v : V} {kvs : List (P × Mi.W)} (r : RelW g.K ρ H (.ref k) v) (e : M[k]? = some (.dic kvs)) : ∃ p, v = .ref p ∧ ρ[k]? = some p ∧ ((∃ ks, H p = some (.dK ks) ∧ RelKs g.K ρ H kvs ks) ∨ ∃ es, H p = some (dicO g.P g.w p es) ∧ RelTs g.K ρ H kvs es) := by
  simp only [RelW] at r
  obtain ⟨p, h1, rfl⟩ := r
  obtain ⟨a, h2, h3⟩ := s.ob k _ e
  rw [h1] at h2; cases h2
  exact ⟨p, rfl, h1, h3⟩
theorem relP_key {K : PySem.W.Frag} {H : Hp} {y : P} {k : Key} {u : V} (h : keyK y = some k) (r : RelP K H y u) : u = kV k := by
  cases y <;> simp only [keyK, Option.some.injEq, reduceCtorEq] at h
  all_goals
    simp only [RelP] at r
    subst h; subst r; rfl
end
end Mi

namespace Mi
open PySem PySem.Spec PyProof.Rows L2

mutual
theorem key_inj : ∀ (x y : P), P.noB x = true → P.noB y = true → P.key x = P.key y → x = y
  | .non, y, _, hy, h => by cases y <;> simp_all [P.key, P.noB]
  | .bl _, y, hx, _, _ => by simp [P.noB] at hx
  | .int i, y, _, hy, h => by cases y <;> simp_all [P.key, P.noB]
  | .str i, y, _, hy, h => by cases y <;> simp_all [P.key, P.noB]
  | .tup xs, y, hx, hy, h => by
    cases y with
    | tup ys =>
      simp only [P.key, NestedKey.tup.injEq] at h
      simp only [P.noB] at hx hy
      rw [keys_inj xs ys hx hy h]
    | bl b => simp [P.noB] at hy
    | non => simp [P.key] at h
    | int i => simp [P.key] at h
    | str i => simp [P.key] at h
theorem keys_inj : ∀ (xs ys : List P), P.noBs xs = true → P.noBs ys = true → P.keys xs = P.keys ys → xs = ys
  | [], [], _, _, _ => rfl
  | [], _ :: _, _, _, h => by simp [P.keys] at h
  | _ :: _, [], _, _, h => by simp [P.keys] at h
  | x :: xs, y :: ys, hx, hy, h => by
    simp only [P.keys, List.cons.injEq] at h
    simp only [P.noBs, Bool.and_eq_true] at hx hy
    rw [key_inj x y hx.1 hy.1 h.1, keys_inj xs ys hx.2 hy.2 h.2]
end
theorem keyT_some {x : P} {k : NestedKey} (h : keyT x = some k) : P.noB x = true ∧ P.key x = k ∧ k.depth ≤ 8 := by
  cases x with
  | tup xs =>
    simp only [keyT] at h
    split at h
    · rename_i hc
      cases h
      exact ⟨by simp only [P.noB]; exact hc.1, rfl, hc.2⟩
    · cases h
  | _ => simp [keyT] at h
theorem keyT_inj {x y : P} {k : NestedKey} (h1 : keyT x = some k) (h2 : keyT y = some k) : x = y := by
  obtain ⟨a1, a2, _⟩ := keyT_some h1
  obtain ⟨b1, b2, _⟩ := keyT_some h2
  exact key_inj x y a1 b1 (a2.trans b2.symm)
theorem keyK_inj {x y : P} {k : Key} (h1 : keyK x = some k) (h2 : keyK y = some k) : x = y := by
  cases x <;> cases y <;> simp_all [keyK]
  all_goals (obtain rfl := h1; simp_all)

section
variable {X : Cx} {pins : List (Addr × Obj)} {σ : L2.St} {H : Hp} {s : Shared}
mutual
theorem nested_of (I : Inv X pins σ H s) : ∀ (x : P) (v : V) (u : Value), RelP X.K H x v → L2.RelV v u → NestedIs s.heap x.key u
  | .non, v, u, h, r => by simp only [RelP] at h; subst h; cases r; exact .none
  | .bl b, v, u, h, r => by simp only [RelP] at h; subst h; cases r; exact .bool rfl
  | .int i, v, u, h, r => by simp only [RelP] at h; subst h; obtain ⟨t, rfl⟩ := r; exact .int i t
  | .str x, v, u, h, r => by simp only [RelP] at h; subst h; obtain ⟨t, rfl⟩ := r; exact .text x t
  | .tup xs, v, u, h, r => by
    simp only [RelP] at h
    obtain ⟨a, us, rfl, sq, rs⟩ := h
    cases r
    obtain ⟨its, rv, ⟨o, ho, hc, n, hd⟩, _⟩ := I.tuple sq
    exact .tup ho hc hd (by simpa using nesteds_of I xs us its rs rv)
theorem nesteds_of (I : Inv X pins σ H s) : ∀ (xs : List P) (vs : List V) (us : List Value), RelPs X.K H xs vs → Vals vs us → NestedAll s.heap (P.keys xs) us
  | [], vs, us, h, r => by simp only [RelPs] at h; subst h; cases r; exact .nil
  | x :: xs, vs, us, h, r => by
    simp only [RelPs] at h
    obtain ⟨v, t, rfl, h1, h2⟩ := h
    cases r with
    | cons r1 r2 => exact .cons (nested_of I x v _ h1 r1) (nesteds_of I xs t _ h2 r2)
end
theorem key_is (I : Inv X pins σ H s) {x : P} {k : NestedKey} {b : Addr} (hk : keyT x = some k) (h : RelP X.K H x (.ref b)) : (nestedKind X.prog X.w).is s.heap k b := by
  obtain ⟨_, h2, h3⟩ := keyT_some hk
  have q := nested_of I x (.ref b) (.ref b) h rfl
  rw [h2] at q
  exact ⟨q, h3⟩
end

def valT (es : List (NestedKey × Addr × V)) (k : NestedKey) : Option V := (es.find? fun e => decide (e.1 = k)).map (·.2.2)
def putT (es : List (NestedKey × Addr × V)) (k : NestedKey) (b : Addr) (v : V) : List (NestedKey × Addr × V) :=
  if (valT es k).isSome then es.map fun e => if e.1 = k then (e.1, e.2.1, v) else e else es ++ [(k, b, v)]
def dropT (es : List (NestedKey × Addr × V)) (k : NestedKey) : List (NestedKey × Addr × V) := es.filter fun e => decide (e.1 ≠ k)
abbrev PT3 := Paired (fun (p : NestedKey × Addr × V) (q : NestedKey × Addr × Value) => q.1 = p.1 ∧ q.2.1 = p.2.1 ∧ L2.RelV p.2.2 q.2.2)
theorem pt3_val {k : NestedKey} : ∀ {es : List (NestedKey × Addr × V)} {xs : List (NestedKey × Addr × Value)}, PT3 es xs → RelO (valT es k) ((atKey xs k).map (·.2))
  | _, _, .nil => trivial
  | p :: es, q :: xs, .cons h t => by
    have ih := pt3_val (k := k) t
    unfold valT atKey at ih ⊢
    rw [List.find?_cons, List.find?_cons]
    by_cases e : p.1 = k
    · have e' : q.1 = k := h.1.trans e
      rw [decide_eq_true e, decide_eq_true e']
      exact h.2.2
    · have e' : ¬ q.1 = k := fun z => e (h.1.symm.trans z)
      rw [decide_eq_false e, decide_eq_false e']
      exact ih
theorem pt3_repl {k : NestedKey} {v : V} {u : Value} (r : L2.RelV v u) : ∀ {es : List (NestedKey × Addr × V)} {xs : List (NestedKey × Addr × Value)}, PT3 es xs → PT3 (es.map fun e => if e.1 = k then (e.1, e.2.1, v) else e) (xs.map (putAt k u))
  | _, _, .nil => .nil
  | p :: es, q :: xs, .cons h t => by
    rw [List.map_cons, List.map_cons]
    refine .cons ?_ (pt3_repl r t)
    unfold putAt
    by_cases e : p.1 = k
    · rw [if_pos e, if_pos (h.1.trans e)]
      exact ⟨h.1, h.2.1, r⟩
    · rw [if_neg e, if_neg fun z => e (h.1.symm.trans z)]
      exact h
theorem pt3_append : ∀ {es es' : List (NestedKey × Addr × V)} {xs xs' : List (NestedKey × Addr × Value)}, PT3 es xs → PT3 es' xs' → PT3 (es ++ es') (xs ++ xs')
  | _, _, _, _, .nil, h => h
  | _, _, _, _, .cons h t, h' => .cons h (pt3_append t h')
theorem pt3_put {k : NestedKey} {b : Addr} {v : V} {u : Value} (r : L2.RelV v u) {es : List (NestedKey × Addr × V)} {xs : List (NestedKey × Addr × Value)} (h : PT3 es xs) : PT3 (putT es k b v) (storedH xs k b u) := by
  have q := (pt3_val (k := k) h).isSome_eq
  rw [Option.isSome_map] at q
  unfold putT storedH
  rw [q]
  by_cases c : (atKey xs k).isSome = true
  · rw [if_pos c, if_pos c]
    exact pt3_repl r h
  · rw [if_neg c, if_neg c]
    exact pt3_append h (.cons ⟨rfl, rfl, r⟩ .nil)
theorem pt3_drop {k : NestedKey} : ∀ {es : List (NestedKey × Addr × V)} {xs : List (NestedKey × Addr × Value)}, PT3 es xs → PT3 (dropT es k) (withoutH xs k)
  | _, _, .nil => .nil
  | p :: es, q :: xs, .cons h t => by
    have ih := pt3_drop (k := k) t
    unfold dropT withoutH at ih ⊢
    rw [List.filter_cons, List.filter_cons]
    by_cases e : p.1 = k
    · rw [if_neg (by simp [e]), if_neg (by simp [h.1.trans e])]
      exact ih
    · rw [if_pos (by simp [e]), if_pos (by simp; exact fun z => e (h.1.symm.trans z))]
      exact .cons h ih
theorem putT_len (es : List (NestedKey × Addr × V)) (k : NestedKey) (b : Addr) (v : V) : (putT es k b v).length ≤ es.length + 1 := by
  unfold putT
  split
  · rw [List.length_map]; omega
  · rw [List.length_append]; exact Nat.le_refl _
theorem dropT_len (es : List (NestedKey × Addr × V)) (k : NestedKey) : (dropT es k).length ≤ es.length := List.length_filter_le _ _

def Keyed (g : G) (H : Hp) (es : List (NestedKey × Addr × V)) : Prop := ∀ e ∈ es, ∃ x, keyT x = some e.1 ∧ RelP g.K H x (.ref e.2.1)
def TGet (g : G) (H : Hp) (a : Addr) (y : V) (r : Option V) : Prop := ∃ es x k b, H a = some (dicO g.P g.w a es) ∧ Keyed g H es ∧ keyT x = some k ∧ RelP g.K H x (.ref b) ∧ y = .ref b ∧ r = valT es k
def DG (g : G) (H : Hp) (a : Addr) (y : V) (r : Option V) : Prop := DGet H a y r ∨ TGet g H a y r

section
variable {X : Cx} {pins : List (Addr × Obj)} {σ : L2.St} {H : Hp} {s : Shared} {a : Addr} {y v : V} {u r : Value} {o : Option V} {A : Around} {E : Value → Shared → Prop} {g : G}
theorem dicO_at {es : List (NestedKey × Addr × V)} (I : Inv X pins σ H s) (h : H a = some (dicO g.P g.w a es)) : (a == sysModules) = false ∧ es.length ≤ sizeLine ∧ ∃ xs : List (NestedKey × Addr × Value), PT3 es xs ∧
    ∃ o ds ep, s.heap.get? a = some o ∧ o.ExactDict ∧ o.data = .dict ds ep ∧ ds.toList = xs.map (entryOfKey (nestedKind g.P g.w)) ∧ (xs.map (·.1)).Nodup := (I.hok a _ h).1
theorem dicO_ok {P : Program} {w : World} {H : Hp} {h : Heap} {a : Addr} {es : List (NestedKey × Addr × V)} {xs : List (NestedKey × Addr × Value)} (hd : (a == sysModules) = false) (hl : es.length ≤ sizeLine) (hp : PT3 es xs)
    {o : Obj} {ds : Array DictEntry} {ep : Nat} (ho : h.get? a = some o) (he : o.ExactDict) (hda : o.data = .dict ds ep) (hds : ds.toList = xs.map (entryOfKey (nestedKind P w))) (hn : (xs.map (·.1)).Nodup) {P' : Program} {w' : World} : ObjOk P' w' H h a (dicO P w a es) := by
  refine ⟨⟨hd, hl, xs, hp, o, ds, ep, ho, he, hda, hds, hn⟩, ⟨o, ho⟩, ?_⟩
  rintro h1 h2 ⟨z1, z2, ys, z3, o', ds', ep', z4, z5⟩ k
  exact ⟨z1, z2, ys, z3, o', ds', ep', k _ z4, z5⟩
theorem dictOfH (I : Inv X pins σ H s) (hK : g.K = X.K) (hP : g.P = X.prog) (hw : g.w = X.w) {es : List (NestedKey × Addr × V)} (h : H a = some (dicO g.P g.w a es)) (hk : Keyed g H es) :
    (a == sysModules) = false ∧ es.length ≤ sizeLine ∧ ∃ xs, PT3 es xs ∧ s.heap.DictOfH (nestedKind X.prog X.w) a xs := by
  obtain ⟨h1, h2, xs, h3, o, ds, ep, h4, h5, h6, h7, h8⟩ := dicO_at I h
  refine ⟨h1, h2, xs, h3, o, ds, ep, h4, h5, h6, by rw [← hP, ← hw]; exact h7, fun x hx => ?_, h8⟩
  have : ∀ {es : List (NestedKey × Addr × V)} {xs : List (NestedKey × Addr × Value)}, PT3 es xs → Keyed g H es → ∀ x ∈ xs, (nestedKind X.prog X.w).is s.heap x.1 x.2.1 := by
    intro es xs p
    induction p with
    | nil => intro _ x hx; simp at hx
    | cons h t ih =>
      intro hk x hx
      rcases List.mem_cons.mp hx with rfl | hx
      · obtain ⟨y, e1, e2⟩ := hk _ List.mem_cons_self
        rw [h.1, h.2.1]
        rw [hK] at e2
        exact key_is I e1 e2
      · exact ih (fun e he => hk e (List.mem_cons_of_mem _ he)) x hx
  exact this h3 hk x hx
end
theorem relTs_keyed {g : G} {ρ : List Addr} {H : Hp} : ∀ {kvs : List (P × Mi.W)} {es : List (NestedKey × Addr × V)}, RelTs g.K ρ H kvs es → Keyed g H es
  | [], es, h => by simp only [RelTs] at h; subst h; intro e he; simp at he
  | q :: r, es, h => by
    simp only [RelTs] at h
    obtain ⟨k, b, v, t, rfl, h1, h2, _, h4⟩ := h
    intro e he
    rcases List.mem_cons.mp he with rfl | he
    · exact ⟨q.1, h1, h2⟩
    · exact relTs_keyed h4 e he
end Mi
namespace Mi
open PySem PySem.Spec PyProof.Rows L2
section
variable {X : Cx} {pins : List (Addr × Obj)} {σ : L2.St} {H H' : Hp} {s : Shared} {a : Addr} {y v d : V} {u r : Value} {o : Option V} {A : Around} {E : Value → Shared → Prop} {g : G}
def Retr (g : G) (H : Hp) (a : Addr) (H' : Hp) : Prop := H' = H ∨ (H a = some (.dK []) ∧ H' = upd H a (dicO g.P g.w a [])) ∨ (H a = some (dicO g.P g.w a []) ∧ H' = upd H a (.dK []))
theorem Inv.retr (I : Inv X pins σ H s) (h : Retr g H a H') : Inv X pins σ H' s := by
  rcases h with rfl | ⟨h, rfl⟩ | ⟨h, rfl⟩
  · exact I
  · obtain ⟨z, hd, vs, rel, ob, es, ep, h1, h2, h3, h4, h5, h6⟩ := dk_of I.hok h
    cases rel
    have e : es.toList = [] := by
      cases q : es.toList with
      | nil => rfl
      | cons x xs => rw [q] at h5; cases h5
    exact I.write (x := a) (e := a) (h' := s.heap) (t' := s.toks) (by rw [h]; exact True.intro) (.inl rfl) (fun b q _ z => z) ⟨ob, h1⟩ (dicO_ok hd (Nat.zero_le _) .nil h1 h2 h3 (by rw [e]; rfl) List.nodup_nil)
  · obtain ⟨hd, _, xs, rel, ob, es, ep, h1, h2, h3, h4, h5⟩ := dicO_at I h
    cases rel
    have e : es = #[] := by
      rw [List.map_nil] at h4
      exact Array.toList_eq_nil_iff.mp h4
    subst e
    refine I.write (x := a) (e := a) (h' := s.heap) (t' := s.toks) (by rw [h]; exact True.intro) (.inl rfl) (fun b q _ z => z) ⟨ob, h1⟩ ⟨Nat.zero_le _, hd, [], .nil, ob, #[], ep, h1, h2, h3, ?_, .nil, List.nodup_nil⟩
    intro i hi
    simp at hi

structure GX (g : G) (X : Cx) : Prop where
  K : g.K = X.K
  P : g.P = X.prog
  w : g.w = X.w
variable (gx : GX g X)
include gx
theorem tget_at (I : Inv X pins σ H s) (h : TGet g H a y o) (ry : L2.RelV y u) : ∃ es k b xs, u = .ref b ∧ H a = some (dicO g.P g.w a es) ∧ o = valT es k ∧ (nestedKind X.prog X.w).is s.heap k b ∧ (a == sysModules) = false ∧ es.length ≤ sizeLine ∧ PT3 es xs ∧ s.heap.DictOfH (nestedKind X.prog X.w) a xs := by
  obtain ⟨es, x, k, b, h1, hk, h2, h3, rfl, h5⟩ := h
  cases ry
  obtain ⟨z1, z2, xs, z3, z4⟩ := dictOfH I gx.K gx.P gx.w h1 hk
  rw [gx.K] at h3
  exact ⟨es, k, b, xs, rfl, h1, h5, key_is I h2 h3, z1, z2, z3, z4⟩
theorem dg_getItem {Q : Value → Shared → Prop} (hu : A.units + 200 < cLine) (I : Inv X pins σ H s) (h : DG g H a y (some v)) (ry : L2.RelV y u) (hQ : ∀ w' s', Inv X pins σ H s' → L2.RelV v w' → Q w' s') :
    wpAny (model X.prog X.w) A (getItem (.ref a) u) Q E s := by
  rcases h with h | h
  · exact d_getItem (by omega) I h ry hQ
  · obtain ⟨es, k, b, xs, rfl, h1, h2, h3, h4, h5, h6, h7⟩ := tget_at gx I h ry
    obtain ⟨w', hw, rw'⟩ := RelO.some_of (v := v) (o := (atKey xs k).map (·.2)) (by rw [h2]; exact pt3_val h6)
    obtain ⟨p, hp, hp2⟩ := Option.map_eq_some_iff.mp hw
    refine wpAny_getItem_heap (show A.in1.units + 8 < cLine by show A.units + 1 + 8 < cLine; omega) h3 h7 hp ?_
    rw [hp2]
    exact hQ w' _ (I.tok _) rw'
theorem dg_in {Q : Value → Shared → Prop} (hu : A.units + 200 < cLine) (I : Inv X pins σ H s) (h : DG g H a y o) (ry : L2.RelV y u) (hQ : ∀ s', Inv X pins σ H s' → Q (.bool o.isSome) s') :
    wpAny (model X.prog X.w) A (compareOp .In u (.ref a)) Q E s := by
  rcases h with h | h
  · exact d_in (by omega) I h ry hQ
  · obtain ⟨es, k, b, xs, rfl, h1, h2, h3, h4, h5, h6, h7⟩ := tget_at gx I h ry
    refine wpAny_in_heap (show A.in1.units + 8 < cLine by show A.units + 1 + 8 < cLine; omega) h3 h4 h7 ?_
    have q := (pt3_val (k := k) h6).isSome_eq
    rw [Option.isSome_map] at q
    rw [← q, ← h2]
    exact hQ _ (I.tok _)
theorem dg_notIn {Q : Value → Shared → Prop} (hu : A.units + 200 < cLine) (I : Inv X pins σ H s) (h : DG g H a y o) (ry : L2.RelV y u) (hQ : ∀ s', Inv X pins σ H s' → Q (.bool (!o.isSome)) s') :
    wpAny (model X.prog X.w) A (compareOp .NotIn u (.ref a)) Q E s := by
  rcases h with h | h
  · exact d_notIn (by omega) I h ry hQ
  · obtain ⟨es, k, b, xs, rfl, h1, h2, h3, h4, h5, h6, h7⟩ := tget_at gx I h ry
    refine wpAny_notIn_heap (show A.in1.units + 8 < cLine by show A.units + 1 + 8 < cLine; omega) h3 h4 h7 ?_
    have q := (pt3_val (k := k) h6).isSome_eq
    rw [Option.isSome_map] at q
    rw [← q, ← h2]
    exact hQ _ (I.tok _)
theorem dg_get1 {Q : Value → Shared → Prop} (hu : A.units + 200 < cLine) (I : Inv X pins σ H s) (h : DG g H a y o) (ry : L2.RelV y u) (hQ : ∀ w' s', Inv X pins σ H s' → L2.RelV (o.getD .non) w' → Q w' s') :
    wpAny (model X.prog X.w) A (call (.builtin "dict.get") [.ref a, u]) Q E s := by
  rcases h with h | h
  · exact d_get1 (by omega) I h ry hQ
  · obtain ⟨es, k, b, xs, rfl, h1, h2, h3, h4, h5, h6, h7⟩ := tget_at gx I h ry
    refine call_meetsIn PySem.F.slot_dict_get h7.typeIs PySem.F.entry_dict_get (PySem.F.args_dict_get_2 _ _) (meetsH_dict_get (nestedKind X.prog X.w) a b h4) ⟨(show A.in1.units + 8 < cLine by show A.units + 1 + 8 < cLine; omega), k, xs, h3, h7, hQ _ _ (I.tok _) ?_⟩
    rw [h2]
    exact (pt3_val h6).getD rfl
theorem dg_get2 {Q : Value → Shared → Prop} (hu : A.units + 200 < cLine) (I : Inv X pins σ H s) (h : DG g H a y o) (ry : L2.RelV y u) (rd : L2.RelV d r) (hQ : ∀ w' s', Inv X pins σ H s' → L2.RelV (o.getD d) w' → Q w' s') :
    wpAny (model X.prog X.w) A (call (.builtin "dict.get") [.ref a, u, r]) Q E s := by
  rcases h with h | h
  · exact d_get2 (by omega) I h ry rd hQ
  · obtain ⟨es, k, b, xs, rfl, h1, h2, h3, h4, h5, h6, h7⟩ := tget_at gx I h ry
    refine call_meetsIn PySem.F.slot_dict_get h7.typeIs PySem.F.entry_dict_get (PySem.F.args_dict_get_3 _ _ _) (meetsH_dict_get_default (nestedKind X.prog X.w) a b h4 r) ⟨(show A.in1.units + 8 < cLine by show A.units + 1 + 8 < cLine; omega), k, xs, h3, h7, hQ _ _ (I.tok _) ?_⟩
    rw [h2]
    exact (pt3_val h6).getD rd
omit gx
def TPut (g : G) (H : Hp) (a : Addr) (y v : V) (H' : Hp) : Prop := ∃ es x k b, H a = some (dicO g.P g.w a es) ∧ Keyed g H es ∧ keyT x = some k ∧ RelP g.K H x (.ref b) ∧ y = .ref b ∧ es.length < sizeLine ∧ H' = upd H a (dicO g.P g.w a (putT es k b v))
def DGPut (g : G) (H : Hp) (a : Addr) (y v : V) (H' : Hp) : Prop := DPut H a y v H' ∨ TPut g H a y v H'
theorem dicO_new (gx : GX g X) {es : List (NestedKey × Addr × V)} {xs : List (NestedKey × Addr × Value)} {h' : Heap} {H' : Hp} (hd : (a == sysModules) = false) (hl : es.length ≤ sizeLine) (hp : PT3 es xs) (dd : h'.DictOfH (nestedKind X.prog X.w) a xs) : ObjOk X.prog X.w H' h' a (dicO g.P g.w a es) := by
  obtain ⟨q, ds, ep, h1, h2, h3, h4, _, h5⟩ := dd
  exact dicO_ok hd hl hp h1 h2 h3 (by rw [gx.P, gx.w]; exact h4) h5
theorem dg_setItem (gx : GX g X) {Q : Unit → Shared → Prop} (hu : A.units + 200 < cLine) (I : Inv X pins σ H s) (h : DGPut g H a y v H') (ry : L2.RelV y u) (rv : L2.RelV v r) (hQ : ∀ s', Inv X pins σ H' s' → Q () s') :
    wpAny (model X.prog X.w) A (setItem (.ref a) u r) Q E s := by
  rcases h with h | ⟨es, x, k, b, h1, hk, h2, h3, rfl, h5, rfl⟩
  · exact d_setItem (by omega) I h ry rv hQ
  · cases ry
    obtain ⟨z1, z2, xs, z3, z4⟩ := dictOfH I gx.K gx.P gx.w h1 hk
    have hkey := key_is I h2 (by rw [← gx.K]; exact h3)
    have hz : xs.length ≤ sizeLine := by rw [← Paired.length z3]; exact z2
    have hl : (putT es k b v).length ≤ sizeLine := by have := putT_len es k b v; omega
    refine wpAny_setItem_heap (hsz := hz) (show A.in1.units + 8 < cLine by show A.units + 1 + 8 < cLine; omega) hkey z4 fun h' dd' hs => hQ _ ?_
    obtain ⟨q, _, _, hq, _⟩ := id dd'
    exact d_write I (by rw [h1]; exact True.intro) hs ⟨q, hq⟩ (dicO_new gx z1 hl (pt3_put rv z3) dd')
theorem dg_len (gx : GX g X) {es : List (NestedKey × Addr × V)} {Q : Value → Shared → Prop} (I : Inv X pins σ H s) (h1 : H a = some (dicO g.P g.w a es)) (hk : Keyed g H es) (hQ : ∀ t s', Inv X pins σ H s' → Q (.int es.length t) s') : wpAny (model X.prog X.w) A (call (.builtin "len") [.ref a]) Q E s := by
  obtain ⟨z1, z2, xs, z3, z4⟩ := dictOfH I gx.K gx.P gx.w h1 hk
  refine call_len_dictH z1 z4 (by rw [← Paired.length z3]; rw [sizeLine_eq] at z2; omega) ?_
  rw [← Paired.length z3]
  exact hQ _ _ (I.tok _)
end
end Mi

namespace Mi
open PySem PySem.Spec PyProof.Rows L2

section
variable {g : G} {ρ : List Addr} {M : Hm} {H : Hp}
theorem scal_key {y : P} (h : y.scal = true) : ∃ k, keyK y = some k := by cases y <;> simp_all [P.scal, keyK]
theorem keyT_noK {y : P} {k : NestedKey} (h : keyT y = some k) : y.scal = false := by cases y <;> simp_all [keyT, P.scal]
theorem rts_val {y : P} {k : NestedKey} (hk : keyT y = some k) : ∀ {kvs : List (P × Mi.W)} {es : List (NestedKey × Addr × V)}, RelTs g.K ρ H kvs es → (∀ w, dget kvs y = some w → ∃ v, valT es k = some v ∧ RelW g.K ρ H w v) ∧ (dget kvs y = none → valT es k = none)
  | [], ks, h => by
    simp only [RelTs] at h
    subst h
    exact ⟨fun w e => by simp [dget] at e, fun _ => rfl⟩
  | (q, w0) :: r, ks, h => by
    simp only [RelTs] at h
    obtain ⟨k', b, v, t, rfl, h1, h0, h2, h3⟩ := h
    have ih := rts_val hk h3
    unfold dget valT at ih ⊢
    rw [List.lookup_cons, List.find?_cons]
    by_cases e : y = q
    · subst e
      rw [hk] at h1
      cases h1
      simp only [beq_self_eq_true, decide_true, Option.map_some]
      exact ⟨fun w e => by cases e; exact ⟨v, rfl, h2⟩, fun e => by cases e⟩
    · rw [beq_eq_false_iff_ne.mpr e]
      have : ¬ k' = k := fun z => by subst z; exact e (keyT_inj hk h1)
      simp only [this, decide_false]
      exact ih
theorem set_self {k : Nat} {o : MO} (e : M[k]? = some o) : M.set k o = M := by
  apply List.ext_getElem?
  intro i
  by_cases hi : i = k
  · subst hi
    rw [List.getElem?_set_self (List.getElem?_eq_some_iff.mp e).1, e]
  · rw [List.getElem?_set_ne (Ne.symm hi)]
theorem sim_re (s : Sim g ρ M H) {k : Nat} {p : Addr} {u : HO} {o : MO} (hp : ρ[k]? = some p) (e : M[k]? = some o) (hs : ∀ v, H p = some v → ¬ Still v) (ok : OkO g ρ (upd H p u) p o) : Sim g ρ M (upd H p u) ∧ Stp ρ H ρ (upd H p u) := by
  have q := s.write hp hs ok
  rw [set_self e] at q
  exact ⟨q, stp_write (List.mem_of_getElem? hp) hs⟩
theorem still_dk {kvs : List (Key × V)} : ¬ Still (.dK kvs) := fun h => h
theorem still_do {P : Program} {w : World} {a : Addr} {es : List (NestedKey × Addr × V)} : ¬ Still (dicO P w a es) := fun h => h
theorem relKs_first {q : P × Mi.W} {r : List (P × Mi.W)} {ks : List (Key × V)} (h : RelKs g.K ρ H (q :: r) ks) : q.1.scal = true := by
  simp only [RelKs] at h
  obtain ⟨k, v, t, _, h1, _⟩ := h
  cases hq : q.1 <;> rw [hq] at h1 <;> simp_all [keyK, P.scal]
theorem relTs_first {q : P × Mi.W} {r : List (P × Mi.W)} {ks : List (NestedKey × Addr × V)} (h : RelTs g.K ρ H (q :: r) ks) : (keyT q.1).isSome = true := by
  simp only [RelTs] at h
  obtain ⟨k, b, v, t, _, h1, _⟩ := h
  rw [h1]; rfl
theorem dic_kind (s : Sim g ρ M H) {k : Nat} {v : V} {kvs : List (P × Mi.W)} {y : P} (r : RelW g.K ρ H (.ref k) v) (e : M[k]? = some (.dic kvs)) (hok : dictOk kvs y = true) :
    ∃ p H', v = .ref p ∧ ρ[k]? = some p ∧ Retr g H p H' ∧ Sim g ρ M H' ∧ Stp ρ H ρ H' ∧
      ((∃ ks key, H' p = some (.dK ks) ∧ RelKs g.K ρ H' kvs ks ∧ keyK y = some key) ∨ ∃ es key, H' p = some (dicO g.P g.w p es) ∧ RelTs g.K ρ H' kvs es ∧ keyT y = some key) := by
  obtain ⟨p, rfl, hp, hd⟩ := sim_dic s r e
  rcases hd with ⟨ks, h1, h2⟩ | ⟨es, h1, h2⟩
  · cases hy : y.scal with
    | true =>
      obtain ⟨key, hk⟩ := scal_key hy
      exact ⟨p, H, rfl, hp, .inl rfl, s, Stp.refl _ _, .inl ⟨ks, key, h1, h2, hk⟩⟩
    | false =>
      cases kvs with
      | nil =>
        simp only [dictOk, hy, Bool.false_or] at hok
        obtain ⟨key, hk⟩ := Option.isSome_iff_exists.mp hok
        simp only [RelKs] at h2
        subst h2
        obtain ⟨q1, q2⟩ := sim_re (u := dicO g.P g.w p []) s hp e (fun v z => by rw [h1] at z; cases z; exact still_dk) (.inr ⟨[], upd_same, by simp [RelTs]⟩)
        exact ⟨p, _, rfl, hp, .inr (.inl ⟨h1, rfl⟩), q1, q2, .inr ⟨[], key, upd_same, by simp [RelTs], hk⟩⟩
      | cons q t =>
        have z := relKs_first h2
        simp only [dictOk, hy, z, Bool.and_false, Bool.false_or, Bool.and_eq_true] at hok
        obtain ⟨kk, e2⟩ := Option.isSome_iff_exists.mp hok.1
        rw [keyT_noK e2] at z
        cases z
  · cases hy : (keyT y).isSome with
    | true =>
      obtain ⟨key, hk⟩ := Option.isSome_iff_exists.mp hy
      exact ⟨p, H, rfl, hp, .inl rfl, s, Stp.refl _ _, .inr ⟨es, key, h1, h2, hk⟩⟩
    | false =>
      cases kvs with
      | nil =>
        simp only [dictOk, hy, Bool.or_false] at hok
        obtain ⟨key, hk⟩ := scal_key hok
        simp only [RelTs] at h2
        subst h2
        obtain ⟨q1, q2⟩ := sim_re (u := .dK []) s hp e (fun v z => by rw [h1] at z; cases z; exact still_do) (.inl ⟨[], upd_same, by simp [RelKs]⟩)
        exact ⟨p, _, rfl, hp, .inr (.inr ⟨h1, rfl⟩), q1, q2, .inl ⟨[], key, upd_same, by simp [RelKs], hk⟩⟩
      | cons q t =>
        have z := relTs_first h2
        simp only [dictOk, hy, z, Bool.and_false, Bool.or_false, Bool.and_eq_true] at hok
        obtain ⟨kk, e2⟩ := Option.isSome_iff_exists.mp z
        rw [keyT_noK e2] at hok
        cases hok.1
theorem dic_get (s : Sim g ρ M H) {k : Nat} {v u : V} {kvs : List (P × Mi.W)} {y : P} (r : RelW g.K ρ H (.ref k) v) (e : M[k]? = some (.dic kvs)) (ry : RelP g.K H y u) (hok : dictOk kvs y = true) :
    ∃ p H' o, v = .ref p ∧ Retr g H p H' ∧ Sim g ρ M H' ∧ Stp ρ H ρ H' ∧ DG g H' p u o ∧ (∀ w, dget kvs y = some w → ∃ v', o = some v' ∧ RelW g.K ρ H' w v') ∧ (dget kvs y = none → o = none) := by
  obtain ⟨p, H', rfl, hp, h1, h2, h3, h4⟩ := dic_kind s r e hok
  have ry' := RelP.mono h3.tk _ _ ry
  rcases h4 with ⟨ks, key, a1, a2, a3⟩ | ⟨es, key, a1, a2, a3⟩
  · have hu := relP_key a3 ry
    subst hu
    obtain ⟨z1, z2⟩ := rks_val a3 a2
    exact ⟨p, H', valV ks key, rfl, h1, h2, h3, .inl (DGet.k a1), z1, z2⟩
  · cases y with
    | tup xs =>
      simp only [RelP] at ry'
      obtain ⟨b, us, rfl, sq, rs⟩ := ry'
      obtain ⟨z1, z2⟩ := rts_val a3 a2
      exact ⟨p, H', valT es key, rfl, h1, h2, h3, .inr ⟨es, _, key, b, a1, relTs_keyed a2, a3, by simp only [RelP]; exact ⟨b, us, rfl, sq, rs⟩, rfl, rfl⟩, z1, z2⟩
    | _ => simp [keyT] at a3
end
end Mi

namespace Mi
open PySem PySem.Spec PyProof.Rows L2

section
variable {X : Cx} {g : G}
def rInT (g : G) (neg : Bool) : R2 := fun x y H Q => ∃ a H' o, y = .ref a ∧ Retr g H a H' ∧ DG g H' a x o ∧ Q (.bl (neg ^^ o.isSome)) H'
theorem op_inT (gx : GX g X) (hu : X.A.units + 200 < cLine) : OpR X (compareOp .In) (rInT g false) := by
  intro pins s σ H x y v u Q I rx ry ⟨a, H', o, h1, h2, h3, q⟩
  subst h1
  cases ry
  exact dg_in gx hu (Inv.retr I h2) h3 rx fun s' I' => ⟨.bl _, _, I', rfl, by simpa using q⟩
theorem op_notInT (gx : GX g X) (hu : X.A.units + 200 < cLine) : OpR X (compareOp .NotIn) (rInT g true) := by
  intro pins s σ H x y v u Q I rx ry ⟨a, H', o, h1, h2, h3, q⟩
  subst h1
  cases ry
  exact dg_notIn gx hu (Inv.retr I h2) h3 rx fun s' I' => ⟨.bl _, _, I', rfl, by simpa using q⟩
theorem post_p' {W : WX} {σ : L2.St} {ρ : List Addr} {M : Hm} {H H' : Hp} {Q : VK} {x : P} {v : V} (t : Stp ρ H ρ H') (s : Sim g ρ M H') (q : PostE g W σ ρ H (okV x M) (relW g) Q) (h : RelP g.K H' x v) : Q v H' := q ρ H' v t s (by show RelW g.K ρ H' _ _; simpa [RelW] using h)
theorem in_cases {ρ : List Addr} {M : Hm} {H : Hp} (s : Sim g ρ M H) {x y : Mi.W} {v u : V} {b : Bool} (rx : RelW g.K ρ H x v) (ry : RelW g.K ρ H y u) (h : inV M x y = some b) {neg : Bool} {Q : VK} (q : ∀ H', Stp ρ H ρ H' → Sim g ρ M H' → Q (.bl (neg ^^ b)) H') : rInP g.K neg v u H Q ∨ rInT g neg v u H Q := by
  unfold inV at h
  split at h
  · rename_i z
    split at h
    · rename_i t
      have h' := Option.some.inj h
      subst h'
      simp only [RelW, RelP] at rx ry
      exact .inl (.inl ⟨t, z, rx, ry, q H (Stp.refl _ _) s⟩)
    · exact nomatch h
  · split at h
    · rename_i ds d e1 e2
      simp only [Option.some.injEq] at h
      subst h
      obtain ⟨a1, a2⟩ := dp_data s e1 ry
      obtain ⟨b1, b2⟩ := dp_data s e2 rx
      exact .inl (.inr ⟨d, _, ds, b1, a1, .inl rfl, b2, q H (Stp.refl _ _) s⟩)
    · rename_i ds d e1 e2
      simp only [Option.some.injEq] at h
      subst h
      obtain ⟨a1, a2⟩ := dp_data s e1 ry
      obtain ⟨b1, b2⟩ := dp_data s e2 rx
      exact .inl (.inr ⟨d, _, ds, b1, a1, .inr rfl, b2, q H (Stp.refl _ _) s⟩)
    · split at h
      · split at h
        · rename_i kk qq _ _ _ _ kvs e
          split at h
          · rename_i hok
            have h' := Option.some.inj h
            subst h'
            simp only [RelW] at rx
            obtain ⟨p, H', o, rfl, h1, h2, h3, h4, h5, h6⟩ := dic_get s ry e rx hok
            refine .inr ⟨p, H', o, rfl, h1, h4, ?_⟩
            have : o.isSome = (dget kvs qq).isSome := by
              cases z : dget kvs qq with
              | none => rw [h6 z]; rfl
              | some w => obtain ⟨v', z2, _⟩ := h5 w z; rw [z2]; rfl
            rw [this]
            exact q H' h3 h2
          · exact nomatch h
        · exact nomatch h
      · exact nomatch h
theorem os_in : OpS g (fun x y H Q => rInP g.K false x y H Q ∨ rInT g false x y H Q) (cmpW .In) := by
  intro W σ ρ M H x y v u Q s rx ry q
  obtain ⟨b, e, q⟩ := post_ofB q
  exact in_cases s rx ry e fun H' t s' => post_p' t s' q (by simp [RelP])
theorem os_notIn : OpS g (fun x y H Q => rInP g.K true x y H Q ∨ rInT g true x y H Q) (cmpW .NotIn) := by
  intro W σ ρ M H x y v u Q s rx ry q
  obtain ⟨b, e, q⟩ := post_ofB q
  simp only [cmpV, Option.map_eq_some_iff] at e
  obtain ⟨c, e, rfl⟩ := e
  exact in_cases s rx ry e fun H' t s' => post_p' t s' q (by simp [RelP])

def rIxT' (g : G) : R2 := fun x y H Q => ∃ a H' v, x = .ref a ∧ Retr g H a H' ∧ DG g H' a y (some v) ∧ Q v H'
theorem dg_typeIs {pins : List (Addr × Obj)} {σ : L2.St} {H : Hp} {s : Shared} {a : Addr} {y : V} {o : Option V} (I : Inv X pins σ H s) (h : DG g H a y o) : s.TypeIs (.ref a) "dict" := by
  rcases h with h | ⟨es, x, k, b, h1, hk, h2, h3, rfl, h5⟩
  · exact dict_typeIs I h
  · obtain ⟨_, _, xs, _, ob, ds, ep, z1, z2, _⟩ := dicO_at I h1
    exact ⟨ob, z1, z2.1⟩
theorem ix_dic (gx : GX g X) (hu : X.A.units + 200 < cLine) : IxR X (rIxT' g) := by
  intro value slice pins s σ H x y v u Q I rx ry ⟨a, H', w, h1, h2, h3, q⟩ hs
  subst h1
  cases rx
  have I' := Inv.retr I h2
  exact tail_any (dg_typeIs I' h3) PySem.F.slot_dict_getitem.lookup (dg_getItem gx hu I' h3 ry fun w' s' I'' r' => ⟨w, H', I'', r', q⟩) hs
def rIxAll (g : G) : R2 := fun x y H Q => rIxL g.K x y H Q ∨ rIxT g.K x y H Q ∨ rIxS x y H Q ∨ rIxT' g x y H Q
theorem ix_all (gx : GX g X) (hu : X.A.units + 200 < cLine) : IxR X (rIxAll g) := by
  have h1 : IxR X (rIxL g.K) := by rw [gx.K]; exact ix_list
  have h2 : IxR X (rIxT g.K) := by rw [gx.K]; exact ix_tup
  exact h1.or (h2.or (ix_str.or (ix_dic gx hu)))
theorem os_idx : OpS g (rIxAll g) idxV := by
  intro W σ ρ M H x y v u Q s rx ry q
  unfold idxV at q
  split at q
  · rename_i z i
    split at q
    · rename_i hl
      obtain ⟨c, e, q⟩ := post_ofO q
      rw [Option.map_eq_some_iff] at e
      obtain ⟨n, e, rfl⟩ := e
      simp only [RelW, RelP] at rx ry
      exact .inr (.inr (.inl ⟨z, i, n, rx, ry, by rw [← big_line]; exact hl, e, post_p s q (by simp [RelP])⟩))
    · exact q.elim
  · rename_i k y
    split at q
    · rename_i xs e
      split at q
      · rename_i i
        split at q
        · rename_i w e2
          obtain ⟨p, us, rfl, h1, h2, h3⟩ := sim_lst s rx e
          obtain ⟨v', a1, a2⟩ := atW_V h3 e2
          simp only [RelW, RelP] at ry
          exact .inl ⟨p, us, i, v', rfl, ry, .inl (.inl h2), a1, post_w s q a2⟩
        · exact q.elim
      · exact q.elim
    · rename_i kvs e
      split at q
      · rename_i hok
        split at q
        · rename_i w e2
          simp only [RelW] at ry
          obtain ⟨p, H', o, rfl, h1, h2, h3, h4, h5, h6⟩ := dic_get s rx e ry hok
          obtain ⟨v', rfl, z⟩ := h5 w e2
          exact .inr (.inr (.inr ⟨p, H', v', rfl, h1, h4, q ρ H' v' h3 h2 z⟩))
        · exact q.elim
      · exact q.elim
    · exact q.elim
  · rename_i xs i
    split at q
    · rename_i w e2
      obtain ⟨p, us, rfl, h2, h3⟩ := fl_rel rx
      obtain ⟨v', a1, a2⟩ := atW_V (ws := xs.map .p) ((relPs_of xs us).mpr h3) (show atW (xs.map Mi.W.p) i = some (.p w) by
        unfold atW at e2 ⊢
        rw [List.length_map]
        cases z : Mi.placeOf xs.length i with
        | none => rw [z] at e2; cases e2
        | some j => rw [z] at e2; simp only [Option.bind_some] at e2 ⊢; rw [List.getElem?_map, e2]; rfl)
      simp only [RelW, RelP] at ry
      exact .inl ⟨p, us, i, v', rfl, ry, h2, a1, post_w s q a2⟩
    · exact q.elim
  · rename_i x i _ _ _
    split at q
    · rename_i xs e
      split at q
      · rename_i w e2
        obtain ⟨a, us, rfl, sa, ra⟩ := tup_rel rx e
        obtain ⟨v', a1, a2⟩ := atW_V ra e2
        simp only [RelW, RelP] at ry
        exact .inr (.inl ⟨a, us, i, v', rfl, ry, sa, a1, post_w s q a2⟩)
      · exact q.elim
    · exact q.elim
  · exact q.elim
end
section
variable {X : Cx} {g : G} {W : WX}
theorem sd_idx {fa fb : En → Hm → R Mi.W} {a b : Expr} {pos : Pos} (gx : GX g X) (hu : X.A.units + 200 < cLine) (ha : PE X a (tE g W fa)) (hb : PE X b (tE g W fb)) (hs : PlainIx b) :
    PE X (.Subscript a b pos) (tE g W (fun env M => (fa env M).bnd fun x M1 => (fb env M1).bnd fun y M2 => idxV x y M2)) :=
  PE.weak (pe_ix (ix_all gx hu) ha hb hs) fun _ _ _ h => bin_rel os_idx h

theorem sliceIx_eq (n d : Nat) (o : Option Int) : sliceIx n d o = HT.sIx n d o := by cases o <;> rfl
theorem cut_rel {ρ : List Addr} {H : Hp} {ws : List Mi.W} {us : List V} (lo hi : Option Int) (r : RelWs g.K ρ H ws us) : RelWs g.K ρ H (cutL ws lo hi) (cutV us lo hi) := by
  unfold cutL cutV
  rw [sliceIx_eq, sliceIx_eq, relWs_len r]
  exact relWs_take _ (relWs_drop _ r)
theorem cutP_rel {H : Hp} {xs : List P} {us : List V} (lo hi : Option Int) (r : RelPs g.K H xs us) : RelPs g.K H (cutL xs lo hi) (cutV us lo hi) := by
  have h := cut_rel (ρ := []) lo hi ((relPs_of xs us).mpr r)
  have e : cutL (xs.map Mi.W.p) lo hi = (cutL xs lo hi).map .p := by
    unfold cutL
    rw [List.length_map, List.map_take, List.map_drop]
  rw [e] at h
  exact (relPs_of _ _).mp h
def rSlAll (g : G) : V → Option Int → Option Int → Hp → VK → Prop := fun x lo hi H Q => rSlL g.K x lo hi H Q ∨ rSlA g.K x lo hi H Q ∨ rSlS x lo hi H Q
theorem sl_all (gx : GX g X) : SlR X (rSlAll g) := by
  have h1 : SlR X (rSlL g.K) := by rw [gx.K]; exact sl_list
  have h2 : SlR X (rSlA g.K) := by rw [gx.K]; exact sl_tupA
  exact h1.or (h2.or sl_str)
theorem os_slc {σ : L2.St} {ρ : List Addr} {M : Hm} {H : Hp} {x : Mi.W} {v : V} {lo hi : Option Int} {Q : VK} (s : Sim g ρ M H) (rx : RelW g.K ρ H x v) (q : PostE g W σ ρ H (slcV x lo hi M) (relW g) Q) : rSlAll g v lo hi H Q := by
  unfold slcV at q
  split at q
  · rename_i z
    split at q
    · rename_i hl
      simp only [RelW, RelP] at rx
      refine .inr (.inr ⟨z, rx, by rw [← big_line]; exact hl, post_p s q ?_⟩)
      simp only [RelP]
      congr 1
    · exact q.elim
  · split at q
    · rename_i xs e
      obtain ⟨p, us, rfl, h1, h2, h3⟩ := sim_lst s rx e
      exact .inl ⟨p, us, rfl, .inl (.inl h2), fun l hl => post_newL s q hl (cut_rel lo hi h3)⟩
    · exact q.elim
  · rename_i xs
    obtain ⟨p, us, rfl, h2, h3⟩ := fl_rel rx
    exact .inl ⟨p, us, rfl, h2, fun l hl => post_newL s q hl ((relPs_of _ _).mpr (cutP_rel lo hi h3))⟩
  · split at q
    · rename_i xs e
      obtain ⟨a, us, rfl, sa, ra⟩ := tup_rel rx e
      have rc := cut_rel lo hi ra
      refine .inr (.inl ⟨a, us, rfl, sa, fun hw => ?_, fun _ p hp => ?_⟩)
      · have e2 : cutV us lo hi = us := by
          unfold cutV
          rw [hw.1, hw.2, List.drop_zero, Nat.sub_zero, List.take_length]
        rw [e2] at rc
        exact post_w s q (relW_mkTup sa rc)
      · have tk := TK.same (same_upd (o := .tup (cutV us lo hi)) hp)
        refine q ρ _ _ (Stp.same (same_upd hp)) (s.same (same_upd hp)) ?_
        exact relW_mkTup (.inl (.inl upd_same)) (RelWs.mono (List.prefix_refl _) tk _ _ rc)
    · exact q.elim
end
end Mi

namespace Mi
open PySem PySem.Spec PyProof.Rows L2

section
variable {X : Cx} {g : G} {W : WX}
abbrev relO : Rel (List Mi.W) (Option Int) := fun _ _ ws o => partOf ws = some o
abbrev tO (g : G) (W : WX) (f : En → Hm → R (List Mi.W)) : TO := tI g W f relO
theorem PO.weak {e : Option Expr} {t t' : TO} (h : PO X e t) (hw : ∀ σ H Q, t' σ H Q → t σ H Q) : PO X e t' := ⟨fun pins s σ H Q I q => h.run pins s σ H Q I (hw σ H Q q)⟩
theorem part_bnd {γ δ : Type} {σ : L2.St} {ρ : List Addr} {H : Hp} {r : R (List Mi.W)} {k : Option Int → Hm → R γ} {rel2 : Rel γ δ} {Q : δ → Hp → Prop} (h : PostE g W σ ρ H (r.bnd fun l M2 => match partOf l with
    | some l' => k l' M2
    | none => .bad) rel2 Q) : PostE g W σ ρ H r (relWs g) (fun us H1 => ∃ ρ1 M1 ws l', Stp ρ H ρ1 H1 ∧ Sim g ρ1 M1 H1 ∧ RelWs g.K ρ1 H1 ws us ∧ partOf ws = some l' ∧ PostE g W σ ρ1 H1 (k l' M1) rel2 Q) := by
  refine (PostE.bnd (rel1 := relWs g) h).mono fun us H1 ⟨ρ1, M1, ws, a, b, c, d⟩ => ?_
  split at d
  · rename_i l' e
    exact ⟨ρ1, M1, ws, l', a, b, c, e, d⟩
  · exact d.elim
inductive PartX (X : Cx) (g : G) (W : WX) : Option Expr → (En → Hm → R (List Mi.W)) → Prop
  | no : PartX X g W none (fun _ M => .ok [] M)
  | yes {e : Expr} {fe : En → Hm → R Mi.W} (h : PE X e (tE g W fe)) : PartX X g W (some e) (fun env M => (fe env M).bnd fun w M1 => .ok [w] M1)
def tPt (g : G) (W : WX) (f : En → Hm → R (List Mi.W)) : TO := fun σ H Q => ∃ ρ M env, RelEn g.K ρ H env σ ∧ Sim g ρ M H ∧ PostE g W σ ρ H (f env M) (relWs g) (fun us H1 => ∃ (ρ1 : List Addr) (ws : List Mi.W) (l' : Option Int), RelWs g.K ρ1 H1 ws us ∧ partOf ws = some l' ∧ Q l' H1)
theorem part_ok {e : Option Expr} {f : En → Hm → R (List Mi.W)} (h : PartX X g W e f) : PO X e (tPt g W f) := by
  cases h with
  | no =>
    refine PO.weak po_none fun σ H Q ⟨ρ, M, env, a, b, c⟩ => ?_
    obtain ⟨ρ1, ws, l', h1, h2, h3⟩ := c ρ H [] (Stp.refl _ _) b (by show RelWs g.K ρ H [] []; simp [RelWs])
    cases ws with
    | nil => simp only [partOf, Option.some.injEq] at h2; subst h2; exact h3
    | cons w ws => simp [RelWs] at h1
  | yes h =>
    rename_i fe
    refine PO.weak (po_some h) fun σ H Q ⟨ρ, M, env, a, b, c⟩ => ?_
    refine ⟨ρ, M, env, a, b, (PostE.bnd (rel1 := relW g) c).mono fun v H1 ⟨ρ1, M1, w, a1, b1, c1, d1⟩ => ?_⟩
    obtain ⟨ρ2, ws, l', h1, h2, h3⟩ := d1 ρ1 H1 [v] (Stp.refl _ _) b1 (by show RelWs g.K ρ1 H1 [w] [v]; simp only [RelWs]; exact ⟨v, [], rfl, c1, rfl⟩)
    cases ws with
    | nil => simp [RelWs] at h1
    | cons w2 ws =>
      cases ws with
      | cons w3 ws3 =>
        simp only [RelWs] at h1
        obtain ⟨u, r, e1, _, u2, r2, e2, _⟩ := h1
        cases e1
        cases e2
      | nil =>
        simp only [RelWs] at h1
        obtain ⟨u, r, e1, h4, e2⟩ := h1
        cases e1
        cases w2 with
        | p x =>
          cases x with
          | int i =>
            simp only [partOf, Option.some.injEq] at h2
            subst h2
            simp only [RelW, RelP] at h4
            exact ⟨i, h4, h3⟩
          | _ => simp [partOf] at h2
        | _ => simp [partOf] at h2
theorem sd_slc {fa : En → Hm → R Mi.W} {fl fh : En → Hm → R (List Mi.W)} {a : Expr} {lo hi : Option Expr} {p2 pos : Pos} (gx : GX g X) (ha : PE X a (tE g W fa)) (hl : PartX X g W lo fl) (hh : PartX X g W hi fh) :
    PE X (.Subscript a (.Slice lo hi none p2) pos) (tE g W (fun env M => (fa env M).bnd fun x M1 => (fl env M1).bnd fun l M2 => match partOf l with
      | some l' => (fh env M2).bnd fun h M3 => match partOf h with
        | some h' => slcV x l' h' M3
        | none => .bad
      | none => .bad)) := by
  refine PE.weak (pe_slice (sl_all gx) ha (part_ok hl) (part_ok hh)) fun σ H Q h => ?_
  refine (tI.bnd (rel1 := relW g) (k := fun env x M1 => (fl env M1).bnd fun l M2 => match partOf l with
      | some l' => (fh env M2).bnd fun h M3 => match partOf h with
        | some h' => slcV x l' h' M3
        | none => .bad
      | none => .bad) h).mono fun v H1 ⟨ρ1, M1, env, x, a1, b1, c1, d1⟩ => ?_
  refine ⟨ρ1, M1, env, a1, b1, (part_bnd (k := fun l' M2 => (fh env M2).bnd fun h M3 => match partOf h with
        | some h' => slcV x l' h' M3
        | none => .bad) d1).mono fun us H2 ⟨ρ2, M2, ws, l', a2, b2, c2, e2, d2⟩ => ⟨ρ2, ws, l', c2, e2, ?_⟩⟩
  refine ⟨ρ2, M2, env, a1.later a2, b2, (part_bnd (k := fun h' M3 => slcV x l' h' M3) d2).mono fun us' H3 ⟨ρ3, M3, ws', h', a3, b3, c3, e3, d3⟩ => ⟨ρ3, ws', h', c3, e3, ?_⟩⟩
  exact os_slc b3 (RelW.mono (a2.trans a3).pre (a2.trans a3).tk _ _ c1) d3

theorem sd_neg {fa : En → Hm → R Mi.W} {a : Expr} {pos : Pos} (ha : PE X a (tE g W fa)) : PE X (.UnaryOp .USub a pos) (tE g W fun env M => (fa env M).bnd fun x M1 => match x with
    | .p (.int i) => okV (.int (-i)) M1
    | _ => .bad) := by
  refine PE.weak (pe_un un_neg ha) fun σ H Q h => ?_
  refine (tI.bnd (rel1 := relW g) (k := fun _ x M1 => match x with
    | .p (.int i) => okV (.int (-i)) M1
    | _ => .bad) h).mono fun v H1 ⟨ρ1, M1, env, x, a1, b1, c1, d1⟩ => ?_
  split at d1
  · rename_i i
    simp only [RelW, RelP] at c1
    exact ⟨i, c1, post_p b1 d1 (by simp [RelP])⟩
  · exact d1.elim
theorem sd_not {fa : En → Hm → R Mi.W} {a : Expr} {pos : Pos} (ha : PE X a (tE g W fa)) : PE X (.UnaryOp .Not a pos) (tE g W fun env M => (fa env M).bnd fun x M1 => match x with
    | .p (.bl c) => okV (.bl (!c)) M1
    | _ => .bad) := by
  refine PE.weak (pe_not ha) fun σ H Q h => ?_
  refine (tI.bnd (rel1 := relW g) (k := fun _ x M1 => match x with
    | .p (.bl c) => okV (.bl (!c)) M1
    | _ => .bad) h).mono fun v H1 ⟨ρ1, M1, env, x, a1, b1, c1, d1⟩ => ?_
  split at d1
  · rename_i i
    simp only [RelW, RelP] at c1
    exact ⟨i, c1, post_p b1 d1 (by simp [RelP])⟩
  · exact d1.elim
abbrev andF (fa fb : En → Hm → R Mi.W) : En → Hm → R Mi.W := fun env M => (fa env M).bnd fun x M1 => match x with
    | .p (.bl true) => fb env M1
    | .p (.bl false) => okV (.bl false) M1
    | _ => .bad
abbrev orF (fa fb : En → Hm → R Mi.W) : En → Hm → R Mi.W := fun env M => (fa env M).bnd fun x M1 => match x with
    | .p (.bl true) => okV (.bl true) M1
    | .p (.bl false) => fb env M1
    | _ => .bad
theorem sd_and {fa fb : En → Hm → R Mi.W} {a b : Expr} {rest : List Expr} {pos : Pos} (ha : PE X a (tE g W fa)) (hb : PE X (.BoolOp .And (b :: rest) pos) (tE g W fb)) : PE X (.BoolOp .And (a :: b :: rest) pos) (tE g W (andF fa fb)) := by
  refine PE.weak (pe_and ha hb) fun σ H Q h => ?_
  refine (tI.bnd (rel1 := relW g) (k := fun env x M1 => match x with
    | .p (.bl true) => fb env M1
    | .p (.bl false) => okV (.bl false) M1
    | _ => .bad) h).mono fun v H1 ⟨ρ1, M1, env, x, a1, b1, c1, d1⟩ => ?_
  split at d1
  · simp only [RelW, RelP] at c1
    exact ⟨true, c1, ρ1, M1, env, a1, b1, d1⟩
  · simp only [RelW, RelP] at c1
    exact ⟨false, c1, post_p b1 d1 (by simp [RelP])⟩
  · exact d1.elim
theorem sd_or {fa fb : En → Hm → R Mi.W} {a b : Expr} {rest : List Expr} {pos : Pos} (ha : PE X a (tE g W fa)) (hb : PE X (.BoolOp .Or (b :: rest) pos) (tE g W fb)) : PE X (.BoolOp .Or (a :: b :: rest) pos) (tE g W (orF fa fb)) := by
  refine PE.weak (pe_or ha hb) fun σ H Q h => ?_
  refine (tI.bnd (rel1 := relW g) (k := fun env x M1 => match x with
    | .p (.bl true) => okV (.bl true) M1
    | .p (.bl false) => fb env M1
    | _ => .bad) h).mono fun v H1 ⟨ρ1, M1, env, x, a1, b1, c1, d1⟩ => ?_
  split at d1
  · simp only [RelW, RelP] at c1
    exact ⟨true, c1, post_p b1 d1 (by simp [RelP])⟩
  · simp only [RelW, RelP] at c1
    exact ⟨false, c1, ρ1, M1, env, a1, b1, d1⟩
  · exact d1.elim
abbrev chnF (o o' : CmpOp) (fa fb fc : En → Hm → R Mi.W) : En → Hm → R Mi.W := fun env M => (fa env M).bnd fun x M1 => (fb env M1).bnd fun y M2 => match cmpV o x y M2 with
    | some true => (fc env M2).bnd fun z M3 => ofB (cmpV o' y z M3) M3
    | some false => okV (.bl false) M2
    | none => .bad
theorem chn_rel {r r' : R2} {o o' : CmpOp} {fa fb fc : En → Hm → R Mi.W} {σ : L2.St} {H : Hp} {Q : VK} (h1 : OpS g r (cmpW o)) (h2 : OpS g r' (cmpW o')) (h : tE g W (chnF o o' fa fb fc) σ H Q) : tChain r r' (tE g W fa) (tE g W fb) (tE g W fc) σ H Q := by
  refine (tI.bnd (rel1 := relW g) (k := fun env x M1 => (fb env M1).bnd fun y M2 => match cmpV o x y M2 with
    | some true => (fc env M2).bnd fun z M3 => ofB (cmpV o' y z M3) M3
    | some false => okV (.bl false) M2
    | none => .bad) h).mono fun v H1 ⟨ρ1, M1, env, x, a1, b1, c1, d1⟩ => ?_
  refine ⟨ρ1, M1, env, a1, b1, (PostE.bnd (rel1 := relW g) d1).mono fun u H2 ⟨ρ2, M2, y, a2, b2, c2, d2⟩ => ?_⟩
  refine h1 W σ ρ2 M2 H2 x y v u _ b2 (RelW.mono a2.pre a2.tk _ _ c1) c2 ?_
  unfold cmpW
  split at d2
  · rename_i e
    rw [e]
    intro ρ3 H3 z a3 b3 c3
    simp only [RelW, RelP] at c3
    refine ⟨true, c3, ?_⟩
    rw [if_pos rfl]
    refine ⟨ρ3, M2, env, (a1.later a2).later a3, b3, (PostE.bnd (rel1 := relW g) (PostE.later a3 d2)).mono fun t H4 ⟨ρ4, M4, z', a4, b4, c4, d4⟩ => ?_⟩
    exact h2 W σ ρ4 M4 H4 y z' u t Q b4 (RelW.mono (a3.trans a4).pre (a3.trans a4).tk _ _ c2) c4 d4
  · rename_i e
    rw [e]
    intro ρ3 H3 z a3 b3 c3
    simp only [RelW, RelP] at c3
    refine ⟨false, c3, ?_⟩
    rw [if_neg (by decide)]
    exact post_p b3 (PostE.later a3 d2) (by simp [RelP])
  · exact d2.elim

def testR (r : R Mi.W) : R Bool := match r with
  | .ok (.p (.bl b)) M => .ok b M
  | .ok _ _ => .bad
  | .err c fs M => .err c fs M
  | .bad => .bad
abbrev relE : Rel Bool Bool := fun _ _ a b => a = b
abbrev tB' (g : G) (W : WX) (f : En → Hm → R Mi.W) : TT := tI g W (fun env M => testR (f env M)) relE
theorem post_test {σ : L2.St} {ρ : List Addr} {H : Hp} {r : R Mi.W} {Q : Bool → Hp → Prop} (h : PostE g W σ ρ H (testR r) relE Q) : PostE g W σ ρ H r (relW g) (fun x H1 => ∃ c, x = .bl c ∧ Q c H1) := by
  cases r with
  | ok w M =>
    cases w with
    | p x =>
      cases x with
      | bl b => exact fun ρ' H' v a1 b1 c1 => ⟨b, by simpa [RelW, RelP] using c1, h ρ' H' b a1 b1 rfl⟩
      | _ => exact h.elim
    | _ => exact h.elim
  | err c fs M => exact h
  | bad => exact h
theorem sd_test {f : En → Hm → R Mi.W} {e : Expr} (he : PE X e (tE g W f)) (hw : ∀ whole, isTrue e X.env whole = (do let v ← whole; standAt e.pos; holding [v] (truthy v))) : PT X e (tB' g W f) :=
  PT.weak (pt_val he hw) fun σ H Q ⟨ρ, M, env, a, b, c⟩ => ⟨ρ, M, env, a, b, post_test c⟩
theorem sd_tcmp {op : CmpOp} {r : R2} {fa fb : En → Hm → R Mi.W} {f : Mi.W → Mi.W → Hm → R Mi.W} {a b : Expr} {pos : Pos} (ho : OpR X (compareOp op) r) (hs : OpS g r f) (ha : PE X a (tE g W fa)) (hb : PE X b (tE g W fb)) (hm : behindInMarks op b = false) :
    PT X (.Compare a [op] [b] pos) (tB' g W (fun env M => (fa env M).bnd fun x M1 => (fb env M1).bnd fun y M2 => f x y M2)) :=
  PT.weak (pt_cmpR ho ha hb hm) fun σ H Q ⟨ρ, M, env, a, b, c⟩ => bin_rel hs ⟨ρ, M, env, a, b, post_test c⟩
theorem sd_tchn {o o' : CmpOp} {r r' : R2} {fa fb fc : En → Hm → R Mi.W} {a b c : Expr} {pos : Pos} (ho : OpR X (compareOp o) r) (ho' : OpR X (compareOp o') r') (hs : OpS g r (cmpW o)) (hs' : OpS g r' (cmpW o')) (ha : PE X a (tE g W fa)) (hb : PE X b (tE g W fb)) (hc : PE X c (tE g W fc))
    (hm : lastMarks [o, o'] [b, c] = false) : PT X (.Compare a [o, o'] [b, c] pos) (tB' g W (chnF o o' fa fb fc)) :=
  PT.weak (pt_chain ho ho' ha hb hc hm) fun σ H Q ⟨ρ, M, env, a, b, c⟩ => chn_rel hs hs' ⟨ρ, M, env, a, b, post_test c⟩
theorem sd_chn {o o' : CmpOp} {r r' : R2} {fa fb fc : En → Hm → R Mi.W} {a b c : Expr} {pos : Pos} (ho : OpR X (compareOp o) r) (ho' : OpR X (compareOp o') r') (hs : OpS g r (cmpW o)) (hs' : OpS g r' (cmpW o')) (ha : PE X a (tE g W fa)) (hb : PE X b (tE g W fb)) (hc : PE X c (tE g W fc))
    (hm : lastMarks [o, o'] [b, c] = false) : PE X (.Compare a [o, o'] [b, c] pos) (tE g W (chnF o o' fa fb fc)) :=
  PE.weak (pe_chain ho ho' ha hb hc hm) fun σ H Q h => chn_rel hs hs' h
theorem sd_tnot {f : En → Hm → R Mi.W} {e : Expr} {pos : Pos} (he : PT X e (tB' g W f)) : PT X (.UnaryOp .Not e pos) (tB' g W fun env M => (f env M).bnd fun x M1 => match x with
    | .p (.bl c) => okV (.bl (!c)) M1
    | _ => .bad) := by
  refine PT.weak (pt_not he) fun σ H Q ⟨ρ, M, env, a, b, c⟩ => ⟨ρ, M, env, a, b, ?_⟩
  dsimp only at c ⊢
  cases hr : f env M with
  | ok w M1 =>
    rw [hr] at c
    cases w with
    | p x =>
      cases x with
      | bl d =>
        intro ρ' H' v a1 b1 c1
        cases c1
        exact c ρ' H' _ a1 b1 rfl
      | _ => exact c.elim
    | _ => exact c.elim
  | err cc fs M1 => rw [hr] at c; exact c
  | bad => rw [hr] at c; exact c.elim
theorem sd_tand {fa fb : En → Hm → R Mi.W} {a b : Expr} {rest : List Expr} {pos : Pos} (ha : PT X a (tB' g W fa)) (hb : PW X (.BoolOp .And (b :: rest) pos) (tB' g W fb)) : PW X (.BoolOp .And (a :: b :: rest) pos) (tB' g W (andF fa fb)) := by
  refine PW.weak (pw_and ha hb) fun σ H Q ⟨ρ, M, env, a, b, c⟩ => ⟨ρ, M, env, a, b, ?_⟩
  simp only [andF] at c
  dsimp only
  cases hr : fa env M with
  | ok w M1 =>
    rw [hr] at c
    cases w with
    | p x =>
      cases x with
      | bl d =>
        intro ρ' H' v a1 b1 c1
        cases c1
        cases d with
        | true => rw [if_pos rfl]; exact ⟨ρ', M1, env, a.later a1, b1, PostE.later a1 c⟩
        | false => rw [if_neg (by decide)]; exact c ρ' H' _ a1 b1 rfl
      | _ => exact c.elim
    | _ => exact c.elim
  | err cc fs M1 => rw [hr] at c; exact c
  | bad => rw [hr] at c; exact c.elim
theorem sd_tor {fa fb : En → Hm → R Mi.W} {a b : Expr} {rest : List Expr} {pos : Pos} (ha : PT X a (tB' g W fa)) (hb : PW X (.BoolOp .Or (b :: rest) pos) (tB' g W fb)) : PW X (.BoolOp .Or (a :: b :: rest) pos) (tB' g W (orF fa fb)) := by
  refine PW.weak (pw_or ha hb) fun σ H Q ⟨ρ, M, env, a, b, c⟩ => ⟨ρ, M, env, a, b, ?_⟩
  simp only [orF] at c
  dsimp only
  cases hr : fa env M with
  | ok w M1 =>
    rw [hr] at c
    cases w with
    | p x =>
      cases x with
      | bl d =>
        intro ρ' H' v a1 b1 c1
        cases c1
        cases d with
        | true => rw [if_pos rfl]; exact c ρ' H' _ a1 b1 rfl
        | false => rw [if_neg (by decide)]; exact ⟨ρ', M1, env, a.later a1, b1, PostE.later a1 c⟩
      | _ => exact c.elim
    | _ => exact c.elim
  | err cc fs M1 => rw [hr] at c; exact c
  | bad => rw [hr] at c; exact c.elim
end
end Mi

namespace Mi
open PySem PySem.Spec PyProof.Rows L2

def PostS (g : G) (W : WX) (ρ : List Addr) (H : Hp) (r : RS) (D : Ends) : Prop := match r with
  | .nx env M' => ∀ ρ' H' σ, Stp ρ H ρ' H' → Sim g ρ' M' H' → RelEn g.K ρ' H' env σ → D.nx σ H'
  | .rt w M' => ∀ ρ' H' v, Stp ρ H ρ' H' → Sim g ρ' M' H' → RelW g.K ρ' H' w v → D.rt v H'
  | .bk env M' => ∀ ρ' H' σ, Stp ρ H ρ' H' → Sim g ρ' M' H' → RelEn g.K ρ' H' env σ → D.bk σ H'
  | .er c fs env M' => ∀ ρ' H' σ d, Stp ρ H ρ' H' → Sim g ρ' M' H' → RelEn g.K ρ' H' env σ → ExOk g H' c fs d → ∃ C, g.cad c = some C ∧ W (.ref C) d σ H'
  | .bad => False
def tS (g : G) (W : WX) (f : En → Hm → RS) : TS := fun D σ H => ∃ ρ M env, RelEn g.K ρ H env σ ∧ Sim g ρ M H ∧ PostS g W ρ H (f env M) D

section
variable {X : Cx} {g : G} {W : WX} {σ : L2.St} {ρ ρ1 : List Addr} {H H1 : Hp} {M : Hm} {env : En}
theorem PostS.later {r : RS} {D : Ends} (s : Stp ρ H ρ1 H1) (h : PostS g W ρ H r D) : PostS g W ρ1 H1 r D := by
  cases r with
  | nx env M' => exact fun ρ' H' v a b c => h ρ' H' v (s.trans a) b c
  | rt w M' => exact fun ρ' H' v a b c => h ρ' H' v (s.trans a) b c
  | bk env M' => exact fun ρ' H' v a b c => h ρ' H' v (s.trans a) b c
  | er c fs env M' => exact fun ρ' H' v d a b c => h ρ' H' v d (s.trans a) b c
  | bad => exact h
theorem PostS.mono {r : RS} {D D' : Ends} (h : PostS g W ρ H r D) (h1 : ∀ σ H, D.nx σ H → D'.nx σ H) (h2 : ∀ v H, D.rt v H → D'.rt v H) (h3 : ∀ σ H, D.bk σ H → D'.bk σ H) : PostS g W ρ H r D' := by
  cases r with
  | nx env M' => exact fun ρ' H' v a b c => h1 _ _ (h ρ' H' v a b c)
  | rt w M' => exact fun ρ' H' v a b c => h2 _ _ (h ρ' H' v a b c)
  | bk env M' => exact fun ρ' H' v a b c => h3 _ _ (h ρ' H' v a b c)
  | er c fs env M' => exact h
  | bad => exact h
theorem PostS.toS {r : R Mi.W} {k : Mi.W → Hm → RS} {D : Ends} (hr : RelEn g.K ρ H env σ) (h : PostS g W ρ H (r.toS env k) D) :
    PostE g W σ ρ H r (relW g) (fun v H1 => ∃ ρ1 M1 w, Stp ρ H ρ1 H1 ∧ Sim g ρ1 M1 H1 ∧ RelW g.K ρ1 H1 w v ∧ PostS g W ρ1 H1 (k w M1) D) := by
  cases r with
  | ok w M' => exact fun ρ' H' v a b c => ⟨ρ', M', w, a, b, c, PostS.later a h⟩
  | err c fs M' => exact fun ρ' H' d a b e => h ρ' H' σ d a b (hr.later a) e
  | bad => exact h
theorem PostS.seq {r : RS} {k : En → Hm → RS} {D : Ends} (h : PostS g W ρ H (r.seq k) D) :
    PostS g W ρ H r { D with nx := fun σ H1 => ∃ ρ1 M1 env1, Stp ρ H ρ1 H1 ∧ Sim g ρ1 M1 H1 ∧ RelEn g.K ρ1 H1 env1 σ ∧ PostS g W ρ1 H1 (k env1 M1) D } := by
  cases r with
  | nx env M' => exact fun ρ' H' v a b c => ⟨ρ', M', env, a, b, c, PostS.later a h⟩
  | rt w M' => exact h
  | bk env M' => exact h
  | er c fs env M' => exact h
  | bad => exact h

theorem sim_fresh {ρ' : List Addr} {H' : Hp} {M' : Hm} {k : Nat} {a : Addr} {xs : List Mi.W} (s0 : Sim g ρ M H) (t : Stp ρ H ρ' H') (s : Sim g ρ' M' H') (e : M'.take M.length = M) (hk : M.length ≤ k) (hm : M'[k]? = some (.lst xs)) (hp : (pures xs).isSome)
    (ha : ρ'[k]? = some a) : Sim g (ρ ++ [a]) (M ++ [.lst xs]) H' ∧ Stp ρ H (ρ ++ [a]) H' := by
  obtain ⟨ys, hy⟩ := Option.isSome_iff_exists.mp hp
  have hxs := pures_some hy
  subst hxs
  have sc := Sim.cut s0 t s e
  have am : a ∈ ρ' := List.mem_of_getElem? ha
  have na : a ∉ ρ := fun hm' => by
    obtain ⟨j, hj⟩ := List.getElem?_of_mem hm'
    have hj' : j < M.length := by rw [← s0.len]; exact (List.getElem?_eq_some_iff.mp hj).1
    have := s.nd j k a (pre_get t.pre hj) ha
    omega
  obtain ⟨b, h1, us, h2, h3⟩ := s.ob k _ hm
  rw [ha] at h1
  cases h1
  refine ⟨sc.adopt na ⟨us, h2, (relPs_of ys us).mpr ((relPs_of ys us).mp h3)⟩, List.prefix_append _ _, fun b hb => ?_, t.keep⟩
  rcases List.mem_append.mp hb with z | z
  · exact .inl z
  · have : b = a := by simpa using z
    subst this
    exact t.new b am
theorem post_tidy {r : R Mi.W} {Q : VK} (s0 : Sim g ρ M H) (h : PostE g W σ ρ H (tidy M r) (relW g) Q) : PostE g W σ ρ H r (relW g) Q := by
  cases r with
  | bad => exact h
  | err c fs M' =>
    simp only [tidy] at h
    split at h
    · rename_i e
      exact fun ρ' H' d t s x => h ρ H' d (stp_cut t) (Sim.cut s0 t s e) x
    · exact h
  | ok w M' =>
    simp only [tidy] at h
    split at h
    · rename_i e
      intro ρ' H' v t s rw_
      cases w with
      | p x =>
        exact h ρ H' v (stp_cut t) (Sim.cut s0 t s e) (by show RelW g.K ρ H' _ _; simpa [RelW] using rw_)
      | tup ws => exact h ρ' H' v t s rw_
      | fl xs =>
        refine h ρ H' v (stp_cut t) (Sim.cut s0 t s e) ?_
        have rw2 : RelW g.K ρ' H' (.fl xs) v := rw_
        show RelW g.K ρ H' _ _
        simp only [RelW] at rw2 ⊢
        exact rw2
      | ref k =>
        dsimp only at h
        split at h
        · rename_i hk
          refine h ρ H' v (stp_cut t) (Sim.cut s0 t s e) ?_
          show RelW g.K ρ H' _ _
          have rw2 : RelW g.K ρ' H' (.ref k) v := rw_
          simp only [RelW] at rw2 ⊢
          obtain ⟨a, h1, h2⟩ := rw2
          have hk' : k < ρ.length := by rw [s0.len]; exact hk
          refine ⟨a, ?_, h2⟩
          obtain ⟨b, hb⟩ : ∃ b, ρ[k]? = some b := ⟨_, List.getElem?_eq_getElem hk'⟩
          have := pre_get t.pre hb
          rw [h1] at this
          cases this
          exact hb
        · rename_i hk
          split at h
          · rename_i xs hm
            split at h
            · rename_i hp
              have rw2 : RelW g.K ρ' H' (.ref k) v := rw_
              simp only [RelW] at rw2
              obtain ⟨a, h1, rfl⟩ := rw2
              obtain ⟨q1, q2⟩ := sim_fresh s0 t s e (by omega) hm hp h1
              refine h (ρ ++ [a]) H' _ q2 q1 ?_
              show RelW g.K _ _ _ _
              simp only [RelW]
              exact ⟨a, by rw [← s0.len, List.getElem?_append_right (Nat.le_refl _)]; simp, rfl⟩
            · exact h ρ' H' v t s rw_
          · exact h ρ' H' v t s rw_
    · exact h
theorem tE.tidy {f : En → Hm → R Mi.W} {Q : VK} (h : tE g W (fun env M => tidy M (f env M)) σ H Q) : tE g W f σ H Q :=
  let ⟨ρ, M, env, a, b, c⟩ := h
  ⟨ρ, M, env, a, b, post_tidy b c⟩
theorem toS_tE {f : En → Hm → R Mi.W} {k : En → Mi.W → Hm → RS} {D : Ends} (h : tS g W (fun env M => (tidy M (f env M)).toS env (k env)) D σ H) :
    tE g W f σ H (fun v H1 => ∃ ρ1 M1 env w, RelEn g.K ρ1 H1 env σ ∧ Sim g ρ1 M1 H1 ∧ RelW g.K ρ1 H1 w v ∧ PostS g W ρ1 H1 (k env w M1) D) := by
  obtain ⟨ρ, M, env, a, b, c⟩ := h
  refine ⟨ρ, M, env, a, b, post_tidy b ((PostS.toS a c).mono fun v H1 ⟨ρ1, M1, w, t, s, r, q⟩ => ⟨ρ1, M1, env, w, a.later t, s, r, q⟩)⟩

theorem sd_nilS : PSs X [] (tS g W fun env M => .nx env M) := PSs.weak pss_nil fun D σ H ⟨ρ, M, env, a, b, c⟩ => c ρ H σ (Stp.refl _ _) b a
theorem sd_consS {st : Stmt} {rest : List Stmt} {f k : En → Hm → RS} (h1 : PS X st (tS g W f)) (h2 : PSs X rest (tS g W k)) : PSs X (st :: rest) (tS g W fun env M => (f env M).seq k) := by
  refine PSs.weak (pss_cons h1 h2) fun D σ H ⟨ρ, M, env, a, b, c⟩ => ?_
  exact ⟨ρ, M, env, a, b, (PostS.seq c).mono (fun σ H1 ⟨ρ1, M1, env1, t, s, r, q⟩ => ⟨ρ1, M1, env1, r, s, q⟩) (fun _ _ q => q) fun _ _ q => q⟩
theorem sd_pass {pos : Pos} : PS X (.Pass pos) (tS g W fun env M => .nx env M) := PS.weak ps_pass fun D σ H ⟨ρ, M, env, a, b, c⟩ => c ρ H σ (Stp.refl _ _) b a
theorem sd_brk {pos : Pos} : PS X (.Break pos) (tS g W fun env M => .bk env M) := PS.weak ps_break fun D σ H ⟨ρ, M, env, a, b, c⟩ => c ρ H σ (Stp.refl _ _) b a
theorem sd_retN {pos : Pos} : PS X (.Return none pos) (tS g W fun _ M => .rt (.p .non) M) := PS.weak ps_retN fun D σ H ⟨ρ, M, env, a, b, c⟩ => c ρ H .non (Stp.refl _ _) b (by simp [RelW, RelP])
theorem sd_ret {e : Expr} {pos : Pos} {f : En → Hm → R Mi.W} (he : PE X e (tE g W f)) : PS X (.Return (some e) pos) (tS g W fun env M => (tidy M (f env M)).toS env fun w M1 => .rt w M1) :=
  PS.weak (ps_ret he) fun D σ H h => (toS_tE (k := fun _ w M1 => .rt w M1) h).mono fun v H1 ⟨ρ1, M1, env, w, a, b, r, q⟩ => q ρ1 H1 v (Stp.refl _ _) b r
theorem sd_exp {e : Expr} {pos : Pos} {f : En → Hm → R Mi.W} (he : PE X e (tE g W f)) (hs : swapsWith e none pos.line X.env = pure false) : PS X (.Expr e pos) (tS g W fun env M => (tidy M (f env M)).toS env fun _ M1 => .nx env M1) :=
  PS.weak (ps_expr he hs) fun D σ H h => (toS_tE (k := fun env _ M1 => .nx env M1) h).mono fun v H1 ⟨ρ1, M1, env, w, a, b, r, q⟩ => q ρ1 H1 σ (Stp.refl _ _) b a
theorem tidy_ref {M0 M1 : Hm} {n : Nat} : ∃ n' M', tidy M0 (.ok (.ref n) M1) = .ok (.ref n') M' := by
  simp only [tidy]
  split
  · split
    · exact ⟨_, _, rfl⟩
    · split
      · split
        · exact ⟨_, _, rfl⟩
        · exact ⟨_, _, rfl⟩
      · exact ⟨_, _, rfl⟩
  · exact ⟨_, _, rfl⟩
theorem tidy_tup {M0 M1 : Hm} {ws : List Mi.W} : tidy M0 (.ok (.tup ws) M1) = .ok (.tup ws) M1 := by
  simp only [tidy]
  split <;> rfl
theorem tidy_fl {M0 M1 : Hm} {xs : List P} : ∃ M', tidy M0 (.ok (.fl xs) M1) = .ok (.fl xs) M' := by
  simp only [tidy]
  split
  · exact ⟨_, rfl⟩
  · exact ⟨_, rfl⟩
theorem tidy_p {M0 M1 : Hm} {x : P} : tidy M0 (.ok (.p x) M1) = if M1.take M0.length = M0 then .ok (.p x) M0 else .ok (.p x) M1 := rfl
theorem test_tB {f : En → Hm → R Mi.W} {k : En → Bool → Hm → RS} {D : Ends} (h : tS g W (fun env M => (tidy M (f env M)).toS env fun w M1 => match w with
    | .p (.bl b) => k env b M1
    | _ => .bad) D σ H) :
    tB' g W f σ H (fun b H1 => ∃ ρ1 M1 env, RelEn g.K ρ1 H1 env σ ∧ Sim g ρ1 M1 H1 ∧ PostS g W ρ1 H1 (k env b M1) D) := by
  obtain ⟨ρ, M, env, a, b, c⟩ := h
  refine ⟨ρ, M, env, a, b, ?_⟩
  dsimp only at c ⊢
  cases hr : f env M with
  | bad => rw [hr] at c; exact c
  | err cc fs M1 =>
    rw [hr] at c
    simp only [tidy] at c
    split at c
    · rename_i e
      exact fun ρ' H' d t s x => c ρ H' σ d (stp_cut t) (Sim.cut b t s e) (a.later (stp_cut t)) x
    · exact fun ρ' H' d t s x => c ρ' H' σ d t s (a.later t) x
  | ok w M1 =>
    rw [hr] at c
    cases w with
    | p x =>
      rw [tidy_p] at c
      cases x with
      | bl d =>
        intro ρ' H' v t s e
        cases e
        split at c
        · rename_i e
          exact ⟨ρ, M, env, a.later (stp_cut t), Sim.cut b t s e, PostS.later (stp_cut t) c⟩
        · exact ⟨ρ', M1, env, a.later t, s, PostS.later t c⟩
      | _ => split at c <;> exact c.elim
    | ref n =>
      obtain ⟨n', M', e⟩ := tidy_ref (M0 := M) (M1 := M1) (n := n)
      rw [e] at c
      exact c.elim
    | tup ws =>
      rw [tidy_tup] at c
      exact c.elim
    | fl ws =>
      obtain ⟨M', e⟩ := tidy_fl (M0 := M) (M1 := M1) (xs := ws)
      rw [e] at c
      exact c.elim
theorem sd_if {c : Expr} {a b : List Stmt} {pos : Pos} {f : En → Hm → R Mi.W} {fa fb : En → Hm → RS} (hc : PT X c (tB' g W f)) (ha : PSs X a (tS g W fa)) (hb : PSs X b (tS g W fb)) :
    PS X (.If c a b pos) (tS g W fun env M => (tidy M (f env M)).toS env fun w M1 => match w with
      | .p (.bl true) => fa env M1
      | .p (.bl false) => fb env M1
      | _ => .bad) := by
  refine PS.weak (ps_if hc ha hb) fun D σ H h => ?_
  refine (test_tB (f := f) (D := D) (k := fun env b M1 => if b = true then fa env M1 else fb env M1) ?_).mono fun d H1 ⟨ρ1, M1, env, a1, b1, q⟩ => ?_
  · obtain ⟨ρ, M, env, a, b, c⟩ := h
    refine ⟨ρ, M, env, a, b, ?_⟩
    dsimp only at c ⊢
    cases hr : tidy M (f env M) with
    | bad => rw [hr] at c; exact c
    | err cc fs M1 => rw [hr] at c; exact c
    | ok w M1 =>
      rw [hr] at c
      cases w with
      | p x =>
        cases x with
        | bl d => cases d <;> exact c
        | _ => exact c
      | _ => exact c
  · cases d with
    | true => exact ⟨ρ1, M1, env, a1, b1, q⟩
    | false => exact ⟨ρ1, M1, env, a1, b1, q⟩
end
end Mi

namespace Mi
open PySem PySem.Spec PyProof.Rows L2

section
variable {X : Cx} {g : G} {W : WX}
theorem PG.weak {e : Expr} {t t' : TG} (h : PG X e t) (hw : ∀ v σ H Q, t' v σ H Q → t v σ H Q) : PG X e t' := ⟨fun pins s σ H v u Q I r q => h.run pins s σ H v u Q I r (hw v σ H Q q)⟩
theorem PGs.weak {e : List Expr} {t t' : TGs} (h : PGs X e t) (hw : ∀ v σ H Q, t' v σ H Q → t v σ H Q) : PGs X e t' := ⟨fun pins s σ H v u Q I r q => h.run pins s σ H v u Q I r (hw v σ H Q q)⟩
theorem PG.or {e : Expr} {t t' : TG} (h : PG X e t) (h' : PG X e t') : PG X e (fun v σ H Q => t v σ H Q ∨ t' v σ H Q) := ⟨fun pins s σ H v u Q I r q => q.elim (h.run pins s σ H v u Q I r) (h'.run pins s σ H v u Q I r)⟩
mutual
def ptN : Pt → List Nat
  | .name i => [i]
  | .tup ps => ptNs ps
def ptNs : List Pt → List Nat
  | [] => []
  | p :: ps => ptN p ++ ptNs ps
end
def Agr (vs : List Nat) (σ σ' : L2.St) : Prop := σ'.length = σ.length ∧ ∀ i, i ∉ vs → σ'[i]? = σ[i]?
theorem Agr.refl (vs : List Nat) (σ : L2.St) : Agr vs σ σ := ⟨rfl, fun _ _ => rfl⟩
theorem Agr.trans {vs us : List Nat} {a b c : L2.St} (h : Agr vs a b) (h' : Agr us b c) : Agr (vs ++ us) a c := ⟨h'.1.trans h.1, fun i hi => by
  rw [List.mem_append, not_or] at hi
  exact (h'.2 i hi.2).trans (h.2 i hi.1)⟩
theorem Agr.wipe {vs us : List Nat} {a b : L2.St} (h : Agr vs a b) (hs : ∀ i ∈ vs, i ∈ us) : wipe b us = wipe a us := by
  apply List.ext_getElem?
  intro i
  by_cases hi : i ∈ us
  · have k : ∀ (σ : L2.St) (us : List Nat), i ∈ us → (L2.wipe σ us)[i]? = if i < σ.length then some none else none := by
      intro σ us
      induction us with
      | nil => intro hm; simp at hm
      | cons v vs ih =>
        intro hm
        unfold L2.wipe
        by_cases hv : v = i
        · subst hv
          rw [List.getElem?_set_self']
          by_cases hl : v < σ.length
          · rw [if_pos hl, List.getElem?_eq_getElem (by rw [wipe_length]; exact hl)]; rfl
          · rw [if_neg hl, List.getElem?_eq_none (by rw [wipe_length]; omega)]; rfl
        · rw [List.getElem?_set_ne hv]
          exact ih (by rcases List.mem_cons.mp hm with z | z; exact absurd z.symm hv; exact z)
    rw [k b us hi, k a us hi, h.1]
  · rw [wipe_out hi, wipe_out hi]
    exact h.2 i fun z => hi (hs i z)
def gPt (g : G) (p : Pt) : TG := fun v σ H Q => ∃ ρ M env w env', RelEn g.K ρ H env σ ∧ Sim g ρ M H ∧ RelW g.K ρ H w v ∧ bindPt M p w env = some env' ∧ ∀ σ', RelEn g.K ρ H env' σ' → Agr (ptN p) σ σ' → Q σ' H
def gPts (g : G) (ps : List Pt) : TGs := fun vs σ H Q => ∃ ρ M env ws env', RelEn g.K ρ H env σ ∧ Sim g ρ M H ∧ RelWs g.K ρ H ws vs ∧ bindPts M ps ws env = some env' ∧ ∀ σ', RelEn g.K ρ H env' σ' → Agr (ptNs ps) σ σ' → Q σ' H
theorem sd_gname {i : Nat} {x : Str} {pos : Pos} (hN : X.N.Nodup) (hi : X.N[i]? = some x) (hx : Loc X.env.scope x) (hf : X.fn x = true ∨ X.env.scope.names.lookup x = some .local) : PG X (.Name x pos) (gPt g (.name i)) := by
  refine PG.weak (pg_name hN hi hx hf) fun v σ H Q ⟨ρ, M, env, w, env', a, b, r, e, q⟩ => ?_
  simp only [bindPt, Option.some.injEq] at e
  subst e
  refine q _ (a.set r) ⟨by simp, fun j hj => ?_⟩
  rw [List.getElem?_set_ne]
  exact fun z => hj (by simp [ptN, z])
theorem sd_gnil : PGs X [] (gPts g []) := by
  refine PGs.weak pgs_nil fun vs σ H Q ⟨ρ, M, env, ws, env', a, b, r, e, q⟩ => ?_
  cases ws with
  | nil =>
    simp only [bindPts, Option.some.injEq] at e
    simp only [RelWs] at r
    subst e
    exact ⟨r, q _ a (Agr.refl _ _)⟩
  | cons w ws => simp [bindPts] at e
theorem sd_gcons {x : Expr} {xs : List Expr} {p : Pt} {ps : List Pt} (h1 : PG X x (gPt g p)) (h2 : PGs X xs (gPts g ps)) (hs : (assignEach (x :: xs) X.env).map (·.2) = assign x X.env :: (assignEach xs X.env).map (·.2)) : PGs X (x :: xs) (gPts g (p :: ps)) := by
  refine PGs.weak (pgs_cons h1 h2 hs) fun vs σ H Q ⟨ρ, M, env, ws, env', a, b, r, e, q⟩ => ?_
  cases ws with
  | nil => simp [bindPts] at e
  | cons w ws =>
    simp only [RelWs] at r
    obtain ⟨u, us, rfl, r1, r2⟩ := r
    simp only [bindPts] at e
    split at e
    · rename_i env1 e1
      exact ⟨u, us, rfl, ρ, M, env, w, env1, a, b, r1, e1, fun σ1 a1 g1 => ⟨ρ, M, env1, ws, env', a1, b, r2, e, fun σ2 a2 g2 => q σ2 a2 (by simp only [ptNs]; exact g1.trans g2)⟩⟩
    · cases e
theorem bindPts_len {M : Hm} : ∀ {ps : List Pt} {ws : List Mi.W} {env env' : En}, bindPts M ps ws env = some env' → ps.length = ws.length
  | [], [], _, _, _ => rfl
  | [], _ :: _, _, _, h => by simp [bindPts] at h
  | _ :: _, [], _, _, h => by simp [bindPts] at h
  | p :: ps, w :: ws, env, env', h => by
    simp only [bindPts] at h
    split at h
    · simp [bindPts_len h]
    · cases h
theorem sd_gtup {xs : List Expr} {ps : List Pt} {k : Nat} {pos : Pos} (gx : GX g X) (hc : X.calm = true) (h : PGs X xs (gPts g ps)) (hn : (assignEach xs X.env).length = ps.length) (hst : (assignEach xs X.env).findIdx? (·.1) = none) : PG X (.Tuple xs k pos) (gPt g (.tup ps)) := by
  refine PG.weak (Mi.PG.or (pg_tup hc h hn hst) (pg_lst hc h hn hst)) fun v σ H Q ⟨ρ, M, env, w, env', a, b, r, e, q⟩ => ?_
  simp only [bindPt] at e
  split at e
  · rename_i ws e1
    have hl := bindPts_len e
    have fin : ∀ us, RelWs g.K ρ H ws us → us.length = ps.length ∧ gPts g ps us σ H Q := fun us r' => ⟨by rw [← relWs_len r', hl], ρ, M, env, ws, env', a, b, r', e, fun σ2 a2 g2 => q σ2 a2 (by simp only [ptN]; exact g2)⟩
    unfold seqOf at e1
    split at e1
    · rename_i ys
      obtain ⟨p, us, rfl, s1, r1⟩ := tup_rel (ws := ws) r (by simpa [tupItems] using e1)
      obtain ⟨f1, f2⟩ := fin us r1
      exact .inl ⟨p, us, rfl, by rw [← gx.K]; exact s1, f1, f2⟩
    · rename_i ys
      obtain ⟨p, us, rfl, s1, r1⟩ := tup_rel (ws := ws) r (by simpa [tupItems] using e1)
      obtain ⟨f1, f2⟩ := fin us r1
      exact .inl ⟨p, us, rfl, by rw [← gx.K]; exact s1, f1, f2⟩
    · rename_i n
      split at e1
      · rename_i ys ey
        cases e1
        obtain ⟨p, us, rfl, h1, h2, h3⟩ := sim_lst b r ey
        obtain ⟨f1, f2⟩ := fin us h3
        exact .inr ⟨p, us, rfl, .inl (.inl h2), f1, f2⟩
      · cases e1
    · rename_i ys
      cases e1
      obtain ⟨p, us, rfl, h2, h3⟩ := fl_rel r
      obtain ⟨f1, f2⟩ := fin us ((relPs_of _ _).mpr h3)
      exact .inr ⟨p, us, rfl, by rw [← gx.K]; exact h2, f1, f2⟩
    · cases e1
  · cases e
theorem sd_asg {tg e : Expr} {p : Pt} {pos : Pos} {f : En → Hm → R Mi.W} (he : PE X e (tE g W f)) (hg : PG X tg (gPt g p)) (hs : swapsWithSole [tg] e pos.line X.env = pure false) (hw : swappedStores [tg] e X.env = pure none)
    (h1 : (assignEach [tg] X.env).map (·.2) = [assign tg X.env]) : PS X (.Assign [tg] e pos) (tS g W fun env M => (tidy M (f env M)).toS env fun w M1 => match bindPt M1 p w env with
      | some env' => .nx env' M1
      | none => .bad) := by
  refine PS.weak (ps_asg he hg hs hw h1) fun D σ H h => ?_
  refine (toS_tE (k := fun env w M1 => match bindPt M1 p w env with
      | some env' => .nx env' M1
      | none => .bad) h).mono fun v H1 ⟨ρ1, M1, env, w, a, b, r, q⟩ => ?_
  split at q
  · rename_i env' e1
    exact ⟨ρ1, M1, env, w, env', a, b, r, e1, fun σ' a' _ => q ρ1 H1 σ' (Stp.refl _ _) b a'⟩
  · exact q.elim
theorem sd_setn {e : Expr} {i : Nat} {x : Str} {pos pos' : Pos} {f : En → Hm → R Mi.W} (hN : X.N.Nodup) (hi : X.N[i]? = some x) (hx : Loc X.env.scope x) (he : PE X e (tE g W f)) (hs : swapsWith e (some (.Name x pos')) pos.line X.env = pure false) (hf : X.fn x = true ∨ X.env.scope.names.lookup x = some .local) :
    PS X (.Assign [.Name x pos'] e pos) (tS g W fun env M => (tidy M (f env M)).toS env fun w M1 => match bindPt M1 (.name i) w env with
      | some env' => .nx env' M1
      | none => .bad) := by
  refine PS.weak (ps_set hN hi hx he hs hf) fun D σ H h => ?_
  refine (toS_tE (k := fun env w M1 => match bindPt M1 (.name i) w env with
      | some env' => .nx env' M1
      | none => .bad) h).mono fun v H1 ⟨ρ1, M1, env, w, a, b, r, q⟩ => ?_
  simp only [bindPt] at q
  exact q ρ1 H1 _ (Stp.refl _ _) b (a.set r)
theorem PE.tidied {e : Expr} {f : En → Hm → R Mi.W} (h : PE X e (tE g W f)) : PE X e (tE g W fun env M => tidy M (f env M)) := PE.weak h fun _ _ _ q => q.tidy
theorem sd_par {i j : Nat} {x y : Str} {a b : Expr} {fa fb : En → Hm → R Mi.W} {px py pt : Pos} {kt k2 pt2} {pos : Pos} (hc : X.calm = true) (hN : X.N.Nodup) (hi : X.N[i]? = some x) (hj : X.N[j]? = some y) (hij : i ≠ j)
    (hx : X.env.scope.names.lookup x = some .local) (hy : X.env.scope.names.lookup y = some .local) (ha : PE X a (tE g W fa)) (hb : PE X b (tE g W fb)) (hst : starEach [a, b] X.env = (false, eval a X.env) :: starEach [b] X.env) (hst2 : starEach [b] X.env = (false, eval b X.env) :: starEach [] X.env)
    (hw : swappedStores [.Tuple [.Name x px, .Name y py] kt pt] (.Tuple [a, b] k2 pt2) X.env = pure (some [x, y])) :
    PS X (.Assign [.Tuple [.Name x px, .Name y py] kt pt] (.Tuple [a, b] k2 pt2) pos) (tS g W fun env M => (tidy M (fa env M)).toS env fun w M1 => (tidy M1 (fb env M1)).toS env fun u M2 => .nx ((env.set i (some w)).set j (some u)) M2) := by
  refine PS.weak (ps_par hc hN hi hj hij hx hy (sd_cons (Mi.PE.tidied ha) (sd_cons (Mi.PE.tidied hb) sd_nil hst2) hst) hw rfl) fun D σ H ⟨ρ, M, env, a1, b1, c1⟩ => ?_
  refine ⟨ρ, M, env, a1, b1, ?_⟩
  dsimp only at c1 ⊢
  have q1 := PostS.toS a1 c1
  cases hr : tidy M (fa env M) with
  | bad => rw [hr] at q1; exact q1
  | err cc fs M1 => rw [hr] at q1; exact q1
  | ok w M1 =>
    rw [hr] at c1
    dsimp only [R.toS_ok, R.bnd_ok] at c1 ⊢
    have q2 := PostS.toS a1 c1
    cases hr2 : tidy M1 (fb env M1) with
    | bad => rw [hr2] at q2; exact q2
    | err cc fs M2 => rw [hr2] at q2; exact q2
    | ok u M2 =>
      rw [hr2] at c1
      dsimp only [R.toS_ok, R.bnd_ok] at c1 ⊢
      intro ρ' H' vs t s r
      have r' : RelWs g.K ρ' H' [w, u] vs := r
      simp only [RelWs] at r'
      obtain ⟨v1, rr, rfl, r1, v2, rr2, rfl, r2, rfl⟩ := r'
      exact ⟨v1, v2, rfl, c1 ρ' H' _ t s (((a1.later t).set r1).set r2)⟩

theorem whlL_succ (c : En → Hm → R Mi.W) (f : En → Hm → RS) (n : Nat) (env : En) (M : Hm) : whlL c f (n + 1) env M = (c env M).toS env fun b M1 => match b with
    | .p (.bl true) => match f env M1 with
      | .nx σ2 M2 => whlL c f n σ2 M2
      | .bk σ2 M2 => .nx σ2 M2
      | r => r
    | .p (.bl false) => .nx env M1
    | _ => .bad := rfl
theorem sd_whl {c : Expr} {body : List Stmt} {f : En → Hm → R Mi.W} {fb : En → Hm → RS} {pos : Pos} (hp : PassesOwn (model X.prog X.w) X.A X.env X.xe) (hc : PT X c (tB' g W f)) (hb : PSs X body (tS g W fb)) (n : Nat) :
    PS X (.While c body [] pos) (tS g W fun env M => whlL (fun env M => tidy M (f env M)) fb n env M) := by
  refine PS.weak (ps_while hp hc hb) fun D σ H ⟨ρ, M, env, a, b, q⟩ => ?_
  refine ⟨fun m σ H => ∃ ρ M env, RelEn g.K ρ H env σ ∧ Sim g ρ M H ∧ PostS g W ρ H (whlL (fun env M => tidy M (f env M)) fb m env M) D, ⟨n, ρ, M, env, a, b, q⟩, ?_⟩
  rintro m σ H ⟨ρ, M, env, a, b, q⟩
  cases m with
  | zero => exact q.elim
  | succ m =>
    refine (test_tB (f := f) (D := D) (k := fun env b M1 => if b = true then (match fb env M1 with
      | .nx σ2 M2 => whlL (fun env M => tidy M (f env M)) fb m σ2 M2
      | .bk σ2 M2 => .nx σ2 M2
      | r => r) else .nx env M1) ⟨ρ, M, env, a, b, ?_⟩).mono fun d H1 ⟨ρ1, M1, env1, a1, b1, q1⟩ => ?_
    · rw [whlL_succ] at q
      dsimp only at q ⊢
      cases hr : tidy M (f env M) with
      | bad => rw [hr] at q; exact q
      | err cc fs M1 => rw [hr] at q; exact q
      | ok w M1 =>
        rw [hr] at q
        cases w with
        | p x =>
          cases x with
          | bl d => cases d <;> exact q
          | _ => exact q
        | _ => exact q
    · cases d with
      | false => exact q1 ρ1 H1 σ (Stp.refl _ _) b1 a1
      | true =>
        rw [if_pos rfl] at q1
        rw [if_pos rfl]
        refine ⟨fun σ' H' => ∃ ρ M env, RelEn g.K ρ H' env σ' ∧ Sim g ρ M H' ∧ PostS g W ρ H' (whlL (fun env M => tidy M (f env M)) fb m env M) D, fun σ' H' h => ⟨m, Nat.lt_succ_self _, h⟩, ρ1, M1, env1, a1, b1, ?_⟩
        cases hf : fb env1 M1 with
        | nx env2 M2 =>
          rw [hf] at q1
          exact fun ρ' H' σ' t s r => ⟨ρ', M2, env2, r, s, PostS.later t q1⟩
        | bk env2 M2 => rw [hf] at q1; exact q1
        | rt w M2 => rw [hf] at q1; exact q1
        | er cc fs env2 M2 => rw [hf] at q1; exact q1
        | bad => rw [hf] at q1; exact q1

structure Src (g : G) (J : It) (its : List Mi.W) (ok : Hm → Bool) (Live : List Addr → Hm → Hp → Prop) : Prop where
  step : ∀ {ρ M H ρ' M' H'}, Live ρ M H → Sim g ρ M H → Stp ρ H ρ' H' → Sim g ρ' M' H' → ok M' = true → Live ρ' M' H'
  go : ∀ {ρ M H} (i : Nat), Live ρ M H → Sim g ρ M H → i < its.length → J.go i H ∧ ∀ x H', J.yld i H x H' → Same H H' ∧ ∃ w, its[i]? = some w ∧ RelW g.K ρ H' w x
  stop : ∀ {ρ M H} (i : Nat), Live ρ M H → Sim g ρ M H → its.length ≤ i → J.stop i H
theorem Src.same {J : It} {its : List Mi.W} {ok : Hm → Bool} {Live : List Addr → Hm → Hp → Prop} (s : Src g J its ok Live) {ρ M H H'} (l : Live ρ M H) (si : Sim g ρ M H) (h : Same H H') (hok : ok M = true) : Live ρ M H' := s.step l si (Stp.same h) (si.same h) hok
def PostI (g : G) (W : WX) (σ : L2.St) (ρ : List Addr) (M : Hm) (H : Hp) (k : Ik) (r : R (List Mi.W)) (R : It → Hp → Prop) : Prop := match r with
  | .ok ws M1 => match itemsOf k ws M1 with
    | some its => ∀ J H1 ρ1 Live, Stp ρ H ρ1 H1 → Sim g ρ1 (srcH M its M1) H1 → Src g J its (stays ((pinsOf ws).filter (· < (srcH M its M1).length)) (srcH M its M1)) Live → Live ρ1 (srcH M its M1) H1 → R J H1
    | none => False
  | .err c fs M' => ∀ ρ' H' d, Stp ρ H ρ' H' → Sim g ρ' M' H' → ExOk g H' c fs d → ∃ C, g.cad c = some C ∧ W (.ref C) d σ H'
  | .bad => False
def tI' (g : G) (W : WX) (k : Ik) (f : En → Hm → R (List Mi.W)) : TI := fun σ H R => ∃ ρ M env, RelEn g.K ρ H env σ ∧ Sim g ρ M H ∧ PostI g W σ ρ M H k (f env M) R
theorem stays_self (pins : List Nat) (M : Hm) : stays pins M M = true := by
  unfold stays
  rw [List.all_eq_true]
  intro k _
  simp
theorem sd_for {tg iter : Expr} {body : List Stmt} {p : Pt} {k : Ik} {fs : En → Hm → R (List Mi.W)} {fb : En → Hm → RS} {pos : Pos} (hp : PassesOwn (model X.prog X.w) X.A X.env X.xe) (hc : X.calm = true) (hi : PI X tg iter (tI' g W k fs)) (hg : PG X tg (gPt g p)) (hb : PSs X body (tS g W fb))
    (hs : ∀ x, foldedSetIterable iter X.env x = pure x) :
    PS X (.For tg iter body [] pos) (tS g W fun env M => match fs env M with
      | .ok ws M1 => match itemsOf k ws M1 with
        | some its => forL p fb (stays ((pinsOf ws).filter (· < (srcH M its M1).length)) (srcH M its M1)) its env (srcH M its M1)
        | none => .bad
      | .err c fs M1 => .er c fs env M1
      | .bad => .bad) := by
  refine PS.weak (ps_for hp hc hi hg hb hs) fun D σ H ⟨ρ, M, env, a, b, q⟩ => ⟨ρ, M, env, a, b, ?_⟩
  dsimp only at q
  cases hr : fs env M with
  | bad => rw [hr] at q; exact q
  | err c fs M1 => rw [hr] at q; exact fun ρ' H' d t s x => q ρ' H' σ d t s (a.later t) x
  | ok ws M1 =>
    rw [hr] at q
    dsimp only at q
    split at q
    · rename_i its e
      dsimp only [PostI]
      rw [e]
      dsimp only
      intro J H1 ρ1 Live t s S l
      obtain ⟨ok, hok⟩ : ∃ ok, ok = stays ((pinsOf ws).filter (· < (srcH M its M1).length)) (srcH M its M1) := ⟨_, rfl⟩
      have ok0 : ok (srcH M its M1) = true := by rw [hok]; exact stays_self _ _
      rw [← hok] at S q
      refine ⟨fun i m σ H => m = its.length - i ∧ i ≤ its.length ∧ ∃ ρ M env, RelEn g.K ρ H env σ ∧ Sim g ρ M H ∧ Live ρ M H ∧ ok M = true ∧ PostS g W ρ H (forL p fb ok (its.drop i) env M) D,
        ⟨its.length, by simp, Nat.zero_le _, ρ1, _, env, a.later t, s, l, ok0, by rw [List.drop_zero]; exact PostS.later t q⟩, ?_⟩
      rintro i m σ2 H2 ⟨rfl, hi', ρ2, M2, env2, a2, b2, l2, ok2, q2⟩
      by_cases hlt : i < its.length
      · obtain ⟨g1, g2⟩ := S.go i l2 b2 hlt
        refine .inr ⟨g1, fun σ' H' => ∃ ρ M env, RelEn g.K ρ H' env σ' ∧ Sim g ρ M H' ∧ Live ρ M H' ∧ ok M = true ∧ PostS g W ρ H' (forL p fb ok (its.drop (i + 1)) env M) D, fun σ' H' h => ⟨its.length - (i + 1), by omega, rfl, hlt, h⟩, fun x H' y => ?_⟩
        obtain ⟨sm, w, e1, r1⟩ := g2 x H' y
        rw [List.drop_eq_getElem_cons hlt] at q2
        have e1' : its[i] = w := by rw [List.getElem?_eq_getElem hlt] at e1; exact Option.some.inj e1
        rw [e1'] at q2
        unfold forL at q2
        have b3 := b2.same sm
        have t3 : Stp ρ2 H2 ρ2 H' := Stp.same sm
        split at q2
        · rename_i env3 e3
          refine ⟨ρ2, M2, env2, w, env3, a2.later t3, b3, r1, e3, fun σ' a3 _ => ⟨ρ2, M2, env3, a3, b3, ?_⟩⟩
          have l3 := S.same l2 b2 sm ok2
          cases hf : fb env3 M2 with
          | nx env4 M4 =>
            rw [hf] at q2
            dsimp only at q2
            split at q2
            · rename_i ok4
              exact fun ρ' H4 σ4 t4 s4 r4 => ⟨ρ', M4, env4, r4, s4, S.step l3 b3 t4 s4 ok4, ok4, PostS.later (t3.trans t4) q2⟩
            · exact q2.elim
          | bk env4 M4 => rw [hf] at q2; exact fun ρ' H4 σ4 t4 s4 r4 => q2 ρ' H4 σ4 (t3.trans t4) s4 r4
          | rt w4 M4 => rw [hf] at q2; exact fun ρ' H4 σ4 t4 s4 r4 => q2 ρ' H4 σ4 (t3.trans t4) s4 r4
          | er c4 fs4 env4 M4 => rw [hf] at q2; exact fun ρ' H4 σ4 d4 t4 s4 r4 => q2 ρ' H4 σ4 d4 (t3.trans t4) s4 r4
          | bad => rw [hf] at q2; exact q2.elim
        · exact q2.elim
      · have e1 : its.drop i = [] := List.drop_eq_nil_of_le (by omega)
        rw [e1] at q2
        exact .inl ⟨S.stop i l2 b2 (by omega), q2 ρ2 H2 σ2 (Stp.refl _ _) b2 a2⟩
    · exact q.elim
end
end Mi

namespace Mi
open PySem PySem.Spec PyProof.Rows L2

section
variable {X : Cx} {g : G} {W : WX}
theorem PI.weak {tg e : Expr} {t t' : TI} (h : PI X tg e t) (hw : ∀ σ H Q, t' σ H Q → t σ H Q) : PI X tg e t' := ⟨fun pins s σ H Q I q => h.run pins s σ H Q I (hw σ H Q q)⟩
theorem PI.or {tg e : Expr} {t t' : TI} (h : PI X tg e t) (h' : PI X tg e t') : PI X tg e (fun σ H Q => t σ H Q ∨ t' σ H Q) := ⟨fun pins s σ H Q I q => q.elim (h.run pins s σ H Q I) (h'.run pins s σ H Q I)⟩
def Clean (K : PySem.W.Frag) (H : Hp) : Prop := ∀ a us, KL K a us → H a = none
theorem Inv.clean {pins : List (Addr × Obj)} {σ : L2.St} {H : Hp} {s : Shared} (I : Inv X pins σ H s) : Clean X.K H := fun a us ⟨o, its, n, h, _⟩ => (I.bs a o (I.ok.mod.kin a o h)).2
theorem PE.clean {e : Expr} {t : TE} (h : PE X e t) : PE X e (fun σ H Q => t σ H fun v H1 => Clean X.K H1 → Q v H1) :=
  ⟨fun pins s σ H Q I q => thn (h.run pins s σ H _ I q) fun u s1 ⟨v, H1, I1, r, q1⟩ => ⟨v, H1, I1, r, q1 (Inv.clean I1)⟩⟩
theorem PA.clean {e : List Expr} {t : TA} (h : PA X e t) : PA X e (fun σ H Q => t σ H fun v H1 => Clean X.K H1 → Q v H1) :=
  ⟨fun pos pins s σ H Q I q => thn (h.run pos pins s σ H _ I q) fun u s1 ⟨v, H1, I1, r, q1⟩ => ⟨v, H1, I1, r, q1 (Inv.clean I1)⟩⟩

def LiveL (g : G) (a : Addr) (its : List Mi.W) (pins : List Nat) (M0 : Hm) (ρ : List Addr) (M : Hm) (H : Hp) : Prop :=
  (∃ k, k ∈ pins ∧ ρ[k]? = some a ∧ M[k]? = M0[k]? ∧ M0[k]? = some (.lst its)) ∨ ∃ ps us, its = ps.map .p ∧ ((H a = some (.lst us) ∧ a ∉ ρ) ∨ (∃ o, H a = some (.frz o (.lst us))) ∨ KL g.K a us) ∧ RelPs g.K H ps us
theorem LiveL.sq {a : Addr} {its : List Mi.W} {pins : List Nat} {M0 : Hm} {ρ : List Addr} {M : Hm} {H : Hp} (s : Sim g ρ M H) (l : LiveL g a its pins M0 ρ M H) : ∃ us, SqL g.K H a us ∧ RelWs g.K ρ H its us := by
  rcases l with ⟨k, _, h1, h2, h3⟩ | ⟨ps, us, rfl, h1, h3⟩
  · rw [h3] at h2
    obtain ⟨p, us, e, q1, q2, q3⟩ := sim_lst s (v := .ref a) (by simp only [RelW]; exact ⟨a, h1, rfl⟩) h2
    cases e
    exact ⟨us, .inl (.inl q2), q3⟩
  · refine ⟨us, ?_, (relPs_of ps us).mpr h3⟩
    rcases h1 with ⟨h1, _⟩ | h1 | h1
    · exact .inl (.inl h1)
    · exact .inl (.inr h1)
    · exact .inr h1
theorem LiveL.step {a : Addr} {its : List Mi.W} {pins : List Nat} {M0 : Hm} {ρ ρ' : List Addr} {M M' : Hm} {H H' : Hp} (l : LiveL g a its pins M0 ρ M H) (t : Stp ρ H ρ' H') (ok : stays pins M0 M' = true) : LiveL g a its pins M0 ρ' M' H' := by
  rcases l with ⟨k, hk, h1, h2, h3⟩ | ⟨ps, us, rfl, h1, h3⟩
  · refine .inl ⟨k, hk, pre_get t.pre h1, ?_, h3⟩
    unfold stays at ok
    rw [List.all_eq_true] at ok
    simpa using ok k hk
  · refine .inr ⟨ps, us, rfl, ?_, RelPs.mono t.tk _ _ h3⟩
    rcases h1 with ⟨h1, h2⟩ | ⟨o, h1⟩ | h1
    · refine .inl ⟨t.keep a _ h1 (.inl h2), fun hm => ?_⟩
      rcases t.new a hm with z | z
      · exact h2 z
      · rw [h1] at z; cases z
    · exact .inr (.inl ⟨o, t.keep a _ h1 (.inr trivial)⟩)
    · exact .inr (.inr h1)
theorem src_list {a : Addr} {its : List Mi.W} {pins : List Nat} {M0 : Hm} : Src g (Itl g.K a) its (stays pins M0) (LiveL g a its pins M0) where
  step := fun l _ t _ ok => l.step t ok
  go := fun i l s hi => by
    obtain ⟨us, h1, h2⟩ := l.sq s
    obtain ⟨u, h3, h4⟩ := relWs_get h2 (List.getElem?_eq_getElem hi)
    refine ⟨⟨us, u, h1, h3⟩, fun x H' ⟨e, y⟩ => ?_⟩
    subst e
    refine ⟨Same.refl _, _, List.getElem?_eq_getElem hi, ?_⟩
    have := y us h1
    rw [h3] at this
    cases this
    exact h4
  stop := fun i l s hi => by
    obtain ⟨us, h1, h2⟩ := l.sq s
    exact ⟨us, h1, by rw [← relWs_len h2]; exact hi⟩
theorem live_start {ρ ρ' : List Addr} {M M' : Hm} {H H' : Hp} {k : Nat} {a : Addr} {its : List Mi.W} (s0 : Sim g ρ M H) (t : Stp ρ H ρ' H') (s : Sim g ρ' M' H') (ha : ρ'[k]? = some a) (hm : M'[k]? = some (.lst its)) :
    ∃ ρ1, Stp ρ H ρ1 H' ∧ Sim g ρ1 (srcH M its M') H' ∧ LiveL g a its (([k]).filter (· < (srcH M its M').length)) (srcH M its M') ρ1 (srcH M its M') H' := by
  have hk' : k < M'.length := by
    exact (List.getElem?_eq_some_iff.mp hm).1
  unfold srcH
  split
  · rename_i c
    obtain ⟨e, hp⟩ := c
    have sc := Sim.cut s0 t s e
    refine ⟨ρ, stp_cut t, sc, ?_⟩
    by_cases hk : k < M.length
    · have hm' : M[k]? = M'[k]? := by
        have : (M'.take M.length)[k]? = M[k]? := by rw [e]
        rw [← this, List.getElem?_take]
        simp [hk]
      refine .inl ⟨k, by simp [hk], ?_, rfl, by rw [hm']; exact hm⟩
      obtain ⟨b, hb⟩ : ∃ b, ρ[k]? = some b := ⟨_, List.getElem?_eq_getElem (by rw [s0.len]; exact hk)⟩
      have := pre_get t.pre hb
      rw [ha] at this
      cases this
      exact hb
    · obtain ⟨ps, hps⟩ := Option.isSome_iff_exists.mp hp
      have hits := pures_some hps
      refine .inr ⟨ps, ?_⟩
      obtain ⟨b, hb, us, h2, h3⟩ := s.ob k _ hm
      rw [ha] at hb
      cases hb
      subst hits
      refine ⟨us, rfl, .inl ⟨h2, fun hmem => ?_⟩, (relPs_of ps us).mp h3⟩
      obtain ⟨j, hj⟩ := List.getElem?_of_mem hmem
      have hj' : j < M.length := by rw [← s0.len]; exact (List.getElem?_eq_some_iff.mp hj).1
      have := s.nd j k a (pre_get t.pre hj) ha
      omega
  · refine ⟨ρ', t, s, .inl ⟨k, by simp [hk'], ha, rfl, hm⟩⟩

theorem src_tup {a : Addr} {its : List Mi.W} {ok : Hm → Bool} : Src g (Itt g.K a) its ok (fun ρ _ H => ∃ us, SqT g.K H a us ∧ RelWs g.K ρ H its us) where
  step := fun ⟨us, h1, h2⟩ _ t _ _ => ⟨us, sqT_mono t.tk h1, RelWs.mono t.pre t.tk _ _ h2⟩
  go := fun i ⟨us, h1, h2⟩ s hi => by
    obtain ⟨u, h3, h4⟩ := relWs_get h2 (List.getElem?_eq_getElem hi)
    refine ⟨⟨us, u, h1, h3⟩, fun x H' ⟨e, y⟩ => ?_⟩
    subst e
    refine ⟨Same.refl _, _, List.getElem?_eq_getElem hi, ?_⟩
    have := y us h1
    rw [h3] at this
    cases this
    exact h4
  stop := fun i ⟨us, h1, h2⟩ s hi => ⟨us, h1, by rw [← relWs_len h2]; exact hi⟩
theorem src_str {x : Str} {ok : Hm → Bool} : Src g (Its x) (signsOf x) ok (fun _ _ _ => True) where
  step := fun _ _ _ _ _ => trivial
  go := fun i _ s hi => by
    have hi' : i < x.cps.size := by simpa [signsOf] using hi
    refine ⟨hi', fun v H' ⟨e, c, y, z⟩ => ?_⟩
    subst e z
    refine ⟨Same.refl _, .p (.str ⟨#[c]⟩), ?_, by simp [RelW, RelP]⟩
    unfold signsOf
    rw [List.getElem?_map, Array.getElem?_toList, y]
    rfl
  stop := fun i _ s hi => by
    have hi' : x.cps.size ≤ i := by simpa [signsOf] using hi
    exact hi'
theorem src_rng {lo : Int} {n : Nat} {ok : Hm → Bool} : Src g (Itr lo n) (rangeL lo n 1) ok (fun _ _ _ => True) where
  step := fun _ _ _ _ _ => trivial
  go := fun i _ s hi => by
    have hi' : i < n := by simpa [rangeL] using hi
    refine ⟨hi', fun v H' ⟨e, y⟩ => ?_⟩
    subst e y
    refine ⟨Same.refl _, .p (.int (lo + (i : Nat) * 1)), ?_, by simp [RelW, RelP]⟩
    simp [rangeL, hi']
  stop := fun i _ s hi => by
    have hi' : n ≤ i := by simpa [rangeL] using hi
    exact hi'
theorem srcH_self (M : Hm) (its : List Mi.W) : srcH M its M = M := by
  unfold srcH
  split <;> rfl
theorem start_any {ρ ρ' : List Addr} {M M' : Hm} {H H' : Hp} {its : List Mi.W} (s0 : Sim g ρ M H) (t : Stp ρ H ρ' H') (s : Sim g ρ' M' H') : ∃ ρ1, Stp ρ H ρ1 H' ∧ Sim g ρ1 (srcH M its M') H' ∧ ((pures its).isSome ∨ ρ1 = ρ') := by
  unfold srcH
  split
  · rename_i c
    exact ⟨ρ, stp_cut t, Sim.cut s0 t s c.1, .inl c.2⟩
  · exact ⟨ρ', t, s, .inr rfl⟩
theorem relWs_old {K : PySem.W.Frag} {ρ ρ1 : List Addr} {H : Hp} {its : List Mi.W} {us : List V} (h : (pures its).isSome ∨ ρ1 = ρ) (r : RelWs K ρ H its us) : RelWs K ρ1 H its us := by
  rcases h with h | rfl
  · obtain ⟨ps, e⟩ := Option.isSome_iff_exists.mp h
    have := pures_some e
    subst this
    exact (relPs_of ps us).mpr ((relPs_of ps us).mp r)
  · exact r
theorem sd_srcVal {tg iter : Expr} {f : En → Hm → R Mi.W} (gx : GX g X) (he : PE X iter (tE g W f)) : PI X tg iter (tI' g W .val fun env M => (f env M).bnd fun w M1 => .ok [w] M1) := by
  refine PI.weak (PI.or (pi_list he) (PI.or (pi_tup he) (pi_str he))) fun σ H Rq ⟨ρ, M, env, a, b, c⟩ => ?_
  dsimp only at c
  cases hr : f env M with
  | bad => rw [hr] at c; exact c.elim
  | err cc fs M1 => rw [hr] at c; exact .inl ⟨ρ, M, env, a, b, by rw [hr]; exact c⟩
  | ok w M1 =>
    rw [hr] at c
    dsimp only [R.bnd_ok, PostI] at c
    cases w with
    | p x =>
      cases x with
      | str x =>
        refine .inr (.inr ⟨ρ, M, env, a, b, ?_⟩)
        rw [hr]
        intro ρ' H' v t s r
        have r' : RelW g.K ρ' H' (.p (.str x)) v := r
        simp only [RelW, RelP] at r'
        simp only [itemsOf] at c
        by_cases hl : x.length ≤ big
        · rw [if_pos hl] at c
          obtain ⟨ρ1, t1, s1, _⟩ := start_any (its := signsOf x) b t s
          exact ⟨x, r', c _ H' ρ1 _ t1 s1 src_str trivial⟩
        · rw [if_neg hl] at c
          exact c.elim
      | tup xs =>
        refine .inr (.inl ⟨ρ, M, env, a, b, ?_⟩)
        rw [hr]
        intro ρ' H' v t s r
        obtain ⟨p, us, rfl, h1, h2⟩ := tup_rel (ws := xs.map .p) (show RelW g.K ρ' H' _ v from r) rfl
        obtain ⟨ρ1, t1, s1, h3⟩ := start_any (its := xs.map .p) b t s
        refine ⟨p, rfl, ⟨us, by rw [← gx.K]; exact h1⟩, ?_⟩
        rw [← gx.K]
        exact c _ H' ρ1 _ t1 s1 src_tup ⟨us, h1, relWs_old h3 h2⟩
      | _ => simp [itemsOf, seqOf] at c
    | tup ws =>
      refine .inr (.inl ⟨ρ, M, env, a, b, ?_⟩)
      rw [hr]
      intro ρ' H' v t s r
      obtain ⟨p, us, rfl, h1, h2⟩ := tup_rel (ws := ws) (show RelW g.K ρ' H' _ v from r) rfl
      obtain ⟨ρ1, t1, s1, h3⟩ := start_any (its := ws) b t s
      refine ⟨p, rfl, ⟨us, by rw [← gx.K]; exact h1⟩, ?_⟩
      rw [← gx.K]
      exact c _ H' ρ1 _ t1 s1 src_tup ⟨us, h1, relWs_old h3 h2⟩
    | fl xs =>
      refine .inl ⟨ρ, M, env, a, b, ?_⟩
      rw [hr]
      intro ρ' H' v t s r
      obtain ⟨p, us, rfl, h1, h2⟩ := fl_rel (show RelW g.K ρ' H' _ v from r)
      obtain ⟨ρ1, t1, s1, h3⟩ := start_any (its := xs.map .p) b t s
      refine ⟨p, rfl, ⟨us, by rw [← gx.K]; exact h1⟩, ?_⟩
      rw [← gx.K]
      have r3 : RelW g.K ρ' H' (.fl xs) (.ref p) := r
      simp only [RelW] at r3
      obtain ⟨p2, us2, e2, h4, h5⟩ := r3
      cases e2
      exact c _ H' ρ1 _ t1 s1 src_list (.inr ⟨xs, us2, rfl, .inr h4, h5⟩)
    | ref k =>
      refine .inl ⟨ρ, M, env, a, b, ?_⟩
      rw [hr]
      intro ρ' H' v t s r
      have r' : RelW g.K ρ' H' (.ref k) v := r
      simp only [itemsOf, seqOf] at c
      have r2 := r'
      simp only [RelW] at r2
      obtain ⟨p, hp, rfl⟩ := r2
      split at c
      · rename_i its e
        split at e
        · rename_i xs ey
          cases e
          obtain ⟨p', us, e1, q1, q2, q3⟩ := sim_lst s r' ey
          cases e1
          obtain ⟨ρ1, t1, s1, l1⟩ := live_start (its := its) b t s hp ey
          refine ⟨p, rfl, ⟨us, .inl (.inl q2)⟩, ?_⟩
          rw [← gx.K]
          exact c _ H' ρ1 _ t1 s1 src_list l1
        · cases e
      · exact c.elim
theorem rngOk_iff {i : Int} (h : rngOk i = true) : -(2 ^ 62) ≤ i ∧ i < 2 ^ 62 := by
  unfold rngOk at h
  simpa [Bool.and_eq_true] using h
theorem sd_srcRng1 {tg e : Expr} {p pos : Pos} {fs : En → Hm → R (List Mi.W)} (hg : Gl X "range") (hm : X.mg "range" = none) (ha : PA X [e] (tA g W fs)) (hs : starEach [e] X.env = [(false, eval e X.env)]) (hlen : ∀ env M ws M1, fs env M = .ok ws M1 → ws.length = 1) :
    PI X tg (.Call (.Name "range" p) [e] [] pos) (tI' g W .rng fs) := by
  refine PI.weak (pi_range1 hg hm ha hs) fun σ H Rq ⟨ρ, M, env, a, b, c⟩ => ⟨ρ, M, env, a, b, ?_⟩
  cases hr : fs env M with
  | bad => rw [hr] at c; exact c.elim
  | err cc fs M1 => rw [hr] at c; exact c
  | ok ws M1 =>
    rw [hr] at c
    have hl := hlen _ _ _ _ hr
    intro ρ' H' vs t s r
    have r' : RelWs g.K ρ' H' ws vs := r
    match ws, hl with
    | [w], _ =>
      simp only [RelWs] at r'
      obtain ⟨u, _, rfl, r1, rfl⟩ := r'
      cases w with
      | p x =>
        cases x with
        | int j =>
          simp only [RelW, RelP] at r1
          simp only [PostI, itemsOf] at c
          by_cases ho : rngOk j = true
          · rw [if_pos ho] at c
            obtain ⟨o1, o2⟩ := rngOk_iff ho
            obtain ⟨ρ1, t1, s1, _⟩ := start_any (its := rangeL 0 j.toNat 1) b t s
            exact ⟨j, by rw [r1], o1, o2, c _ H' ρ1 _ t1 s1 src_rng trivial⟩
          · rw [if_neg ho] at c
            exact c.elim
        | _ => simp [PostI, itemsOf] at c
      | _ => simp [PostI, itemsOf] at c
theorem sd_srcRng2 {tg e e2 : Expr} {p pos : Pos} {fs : En → Hm → R (List Mi.W)} (hg : Gl X "range") (hm : X.mg "range" = none) (ha : PA X [e, e2] (tA g W fs)) (hs : starEach [e, e2] X.env = [(false, eval e X.env), (false, eval e2 X.env)]) (hs2 : starEach [e2] X.env = [(false, eval e2 X.env)]) (hlen : ∀ env M ws M1, fs env M = .ok ws M1 → ws.length = 2) :
    PI X tg (.Call (.Name "range" p) [e, e2] [] pos) (tI' g W .rng fs) := by
  refine PI.weak (pi_range2 hg hm ha hs hs2) fun σ H Rq ⟨ρ, M, env, a, b, c⟩ => ⟨ρ, M, env, a, b, ?_⟩
  cases hr : fs env M with
  | bad => rw [hr] at c; exact c.elim
  | err cc fs M1 => rw [hr] at c; exact c
  | ok ws M1 =>
    rw [hr] at c
    have hl := hlen _ _ _ _ hr
    intro ρ' H' vs t s r
    have r' : RelWs g.K ρ' H' ws vs := r
    match ws, hl with
    | [w, w2], _ =>
      simp only [RelWs] at r'
      obtain ⟨u, _, rfl, r1, u2, _, rfl, r2, rfl⟩ := r'
      cases w with
      | p x =>
        cases x with
        | int i =>
          cases w2 with
          | p y =>
            cases y with
            | int j =>
              simp only [RelW, RelP] at r1 r2
              simp only [PostI, itemsOf] at c
              by_cases ho : (rngOk i && rngOk j) = true
              · rw [if_pos ho] at c
                rw [Bool.and_eq_true] at ho
                obtain ⟨o1, o2⟩ := rngOk_iff ho.1
                obtain ⟨o3, o4⟩ := rngOk_iff ho.2
                obtain ⟨ρ1, t1, s1, _⟩ := start_any (its := rangeL i (j - i).toNat 1) b t s
                exact ⟨i, j, by rw [r1, r2], ⟨o1, o2, o3, o4⟩, c _ H' ρ1 _ t1 s1 src_rng trivial⟩
              · rw [if_neg ho] at c
                exact c.elim
            | _ => simp [PostI, itemsOf] at c
          | _ => simp [PostI, itemsOf] at c
        | _ => simp [PostI, itemsOf] at c
      | _ => simp [PostI, itemsOf] at c
end
end Mi

namespace Mi
open PySem PySem.Spec PyProof.Rows L2

def OpB (g : G) (r : List V → Hp → VK → Prop) (f : List Mi.W → Hm → R Mi.W) : Prop :=
  ∀ (W : WX) (σ : L2.St) (ρ : List Addr) (M : Hm) (H : Hp) (ws : List Mi.W) (vs : List V) (Q : VK), Sim g ρ M H → RelWs g.K ρ H ws vs → PostE g W σ ρ H (f ws M) (relW g) Q → r vs H Q
section
variable {X : Cx} {g : G} {W : WX}
theorem CallR.or {f : Value} {r r' : List V → Hp → VK → Prop} (h : CallR X f r) (h' : CallR X f r') : CallR X f (fun x H Q => r x H Q ∨ r' x H Q) := by
  intro pins s σ H xs us Q I r q
  exact q.elim (h pins s σ H xs us Q I r) (h' pins s σ H xs us Q I r)
theorem sd_callB {id : String} {r : List V → Hp → VK → Prop} {f : List Mi.W → Hm → R Mi.W} {fs : En → Hm → R (List Mi.W)} {x : Str} {p pos : Pos} {e : Expr} {es : List Expr} (hc : CallR X (.builtin id) r) (ho : OpB g r f) (hg : Gl X x) (hm : X.mg x = none) (hv : bootBuiltins x = some (.builtin id)) (ha : PA X (e :: es) (tA g W fs))
    (hn : x ≠ "__name__") (hdb : (x == ("__debug__" : Str)) = false) (he : starEach (e :: es) X.env = (false, eval e X.env) :: starEach es X.env) (hpl : (backTo pos (starEach es X.env)).any (·.1) = false) :
    PE X (.Call (.Name x p) (e :: es) [] pos) (tE g W fun env M => (fs env M).bnd fun ws M1 => f ws M1) :=
  PE.weak (pe_callB hc hg hm hv ha hn hdb he hpl) fun σ H Q h => (tI.bnd (rel1 := relWs g) (k := fun _ ws M1 => f ws M1) h).mono fun vs H1 ⟨ρ1, M1, env, ws, a, b, c, d⟩ => ho W σ ρ1 M1 H1 ws vs Q b c d
theorem sd_callTy {T : String} {r : List V → Hp → VK → Prop} {f : List Mi.W → Hm → R Mi.W} {fs : En → Hm → R (List Mi.W)} {x : Str} {p pos : Pos} {e : Expr} {es : List Expr} (hc : CallR X (.type T) r) (ho : OpB g r f) (hg : Gl X x) (hm : X.mg x = none) (hv : bootBuiltins x = some (.type T)) (ha : PA X (e :: es) (tA g W fs))
    (hn : x ≠ "__name__") (hdb : (x == ("__debug__" : Str)) = false) (he : starEach (e :: es) X.env = (false, eval e X.env) :: starEach es X.env) (hpl : (backTo pos (starEach es X.env)).any (·.1) = false) :
    PE X (.Call (.Name x p) (e :: es) [] pos) (tE g W fun env M => (fs env M).bnd fun ws M1 => f ws M1) :=
  PE.weak (pe_callTy hc hg hm hv ha hn hdb he hpl) fun σ H Q h => (tI.bnd (rel1 := relWs g) (k := fun _ ws M1 => f ws M1) h).mono fun vs H1 ⟨ρ1, M1, env, ws, a, b, c, d⟩ => ho W σ ρ1 M1 H1 ws vs Q b c d
theorem ws1 {K : PySem.W.Frag} {ρ : List Addr} {H : Hp} {w : Mi.W} {vs : List V} (r : RelWs K ρ H [w] vs) : ∃ v, vs = [v] ∧ RelW K ρ H w v := by
  simp only [RelWs] at r
  obtain ⟨u, _, rfl, r1, rfl⟩ := r
  exact ⟨u, rfl, r1⟩
theorem ws2 {K : PySem.W.Frag} {ρ : List Addr} {H : Hp} {w w' : Mi.W} {vs : List V} (r : RelWs K ρ H [w, w'] vs) : ∃ v v', vs = [v, v'] ∧ RelW K ρ H w v ∧ RelW K ρ H w' v' := by
  simp only [RelWs] at r
  obtain ⟨u, _, rfl, r1, u2, _, rfl, r2, rfl⟩ := r
  exact ⟨u, u2, rfl, r1, r2⟩

def rLenT (g : G) : List V → Hp → VK → Prop := fun xs H Q => ∃ a es, xs = [.ref a] ∧ H a = some (dicO g.P g.w a es) ∧ Keyed g H es ∧ Q (.int es.length) H
theorem call_lenT (gx : GX g X) : CallR X (.builtin "len") (rLenT g) := by
  intro pins s σ H xs us Q I r ⟨a, es, h1, h2, h3, q⟩
  subst h1
  obtain ⟨u, rfl, rx⟩ := vals1 r
  cases rx
  exact dg_len gx I h2 h3 fun t s' I' => ⟨.int es.length, _, I', ⟨t, rfl⟩, q⟩
def rLenA (g : G) (K : PySem.W.Frag) : List V → Hp → VK → Prop := fun xs H Q => (∃ x n, xs = [x] ∧ LenV K x H n ∧ Q (.int n) H) ∨ (∃ d kvs, xs = [.ref d] ∧ H d = some (.dK kvs) ∧ Q (.int kvs.length) H) ∨ rLenT g xs H Q
theorem relKs_len {ρ : List Addr} {H : Hp} : ∀ {kvs : List (P × Mi.W)} {ks : List (Key × V)}, RelKs g.K ρ H kvs ks → kvs.length = ks.length
  | [], ks, h => by simp only [RelKs] at h; subst h; rfl
  | q :: r, ks, h => by
    simp only [RelKs] at h
    obtain ⟨k, v, t, rfl, _, _, h3⟩ := h
    simp [relKs_len h3]
theorem relTs_len {ρ : List Addr} {H : Hp} : ∀ {kvs : List (P × Mi.W)} {ks : List (NestedKey × Addr × V)}, RelTs g.K ρ H kvs ks → kvs.length = ks.length
  | [], ks, h => by simp only [RelTs] at h; subst h; rfl
  | q :: r, ks, h => by
    simp only [RelTs] at h
    obtain ⟨k, b, v, t, rfl, _, _, _, h3⟩ := h
    simp [relTs_len h3]
theorem os_len (hK : g.K = X.K) : OpB g (rLenA g X.K) lenF := by
  intro W σ ρ M H ws vs Q s r q
  unfold lenF at q
  split at q
  · rename_i w
    obtain ⟨v, rfl, r1⟩ := ws1 r
    obtain ⟨x, hx, q⟩ := post_ofO q
    rw [Option.map_eq_some_iff] at hx
    obtain ⟨n, hx, rfl⟩ := hx
    have fin : Q (.int n) H := post_p s q (by simp [RelP])
    unfold lenV at hx
    split at hx
    · split at hx
      · rename_i x hl
        cases hx
        simp only [RelW, RelP] at r1
        subst r1
        exact .inl ⟨_, _, rfl, ⟨by rw [← big_line]; exact hl, rfl⟩, fin⟩
      · cases hx
    · cases hx
      obtain ⟨p, us, rfl, h1, h2⟩ := tup_rel r1 rfl
      exact .inl ⟨_, _, rfl, .inr ⟨us, by rw [← hK]; exact h1, by rw [← relWs_len h2, List.length_map]⟩, fin⟩
    · cases hx
      obtain ⟨p, us, rfl, h1, h2⟩ := tup_rel r1 rfl
      exact .inl ⟨_, _, rfl, .inr ⟨us, by rw [← hK]; exact h1, by rw [← relWs_len h2]⟩, fin⟩
    · cases hx
      obtain ⟨p, us, rfl, h2, h3⟩ := fl_rel r1
      exact .inl ⟨_, _, rfl, .inl ⟨us, by rw [← hK]; exact h2, by rw [← relWs_len ((relPs_of (ρ := ρ) _ _).mpr h3), List.length_map]⟩, fin⟩
    · split at hx
      · rename_i xs e
        cases hx
        obtain ⟨p, us, rfl, _, h2, h3⟩ := sim_lst s r1 e
        exact .inl ⟨_, _, rfl, .inl ⟨us, .inl (.inl h2), by rw [← relWs_len h3]⟩, fin⟩
      · rename_i kvs e
        cases hx
        obtain ⟨p, rfl, _, h2⟩ := sim_dic s r1 e
        rcases h2 with ⟨ks, h2, h3⟩ | ⟨es, h2, h3⟩
        · exact .inr (.inl ⟨p, ks, rfl, h2, by rw [← relKs_len h3]; exact fin⟩)
        · exact .inr (.inr ⟨p, es, rfl, h2, relTs_keyed h3, by rw [← relTs_len h3]; exact fin⟩)
      · cases hx
    · cases hx
  · exact q.elim
theorem os_abs : OpB g (fun xs H Q => ∃ i, xs = [.int i] ∧ Q (.int (if i < 0 then -i else i)) H) absF := by
  intro W σ ρ M H ws vs Q s r q
  unfold absF at q
  split at q
  · obtain ⟨v, rfl, r1⟩ := ws1 r
    obtain ⟨x, hx, q⟩ := post_ofO q
    unfold absW at hx
    split at hx
    · rename_i i
      cases hx
      simp only [RelW, RelP] at r1
      exact ⟨i, by rw [r1], post_p s q (by simp [RelP])⟩
    · cases hx
  · exact q.elim

def Ty.nm : Ty → Option String
  | .int => some "int"
  | .bool => some "bool"
  | .str => some "str"
  | .tuple => some "tuple"
  | .list => some "list"
  | _ => none
def nmOf (M : Hm) : Mi.W → Option String
  | .p .non => some "NoneType"
  | .p (.bl _) => some "bool"
  | .p (.int _) => some "int"
  | .p (.str _) => some "str"
  | .p (.tup _) => some "tuple"
  | .tup _ => some "tuple"
  | .fl _ => some "list"
  | .ref k => match M[k]? with
    | some (.lst _) => some "list"
    | some (.dic _) => some "dict"
    | _ => none
theorem sqT_ty {K : PySem.W.Frag} {H : Hp} {a : Addr} {us : List V} (h : SqT K H a us) : TyX K H (.ref a) (.type "tuple") := by
  rcases h with (h | ⟨o, h⟩) | ⟨o, its, n, hk, hc, _⟩
  · exact .base (.tup h)
  · exact .fTuple h
  · exact .kTuple hk hc
theorem ty_of {ρ : List Addr} {M : Hm} {H : Hp} {w : Mi.W} {v : V} {n : String} (s : Sim g ρ M H) (r : RelW g.K ρ H w v) (h : nmOf M w = some n) : TyX g.K H v (.type n) ∨ (n = "dict" ∧ ∃ a es, v = .ref a ∧ H a = some (dicO g.P g.w a es)) := by
  unfold nmOf at h
  split at h
  · cases h; simp only [RelW, RelP] at r; subst r; exact .inl (.base .non)
  · cases h; simp only [RelW, RelP] at r; subst r; exact .inl (.base (.bl _))
  · cases h; simp only [RelW, RelP] at r; subst r; exact .inl (.base (.int _))
  · cases h; simp only [RelW, RelP] at r; subst r; exact .inl (.base (.str _))
  · cases h
    obtain ⟨p, us, rfl, h1, h2⟩ := tup_rel r rfl
    exact .inl (sqT_ty h1)
  · cases h
    obtain ⟨p, us, rfl, h1, h2⟩ := tup_rel r rfl
    exact .inl (sqT_ty h1)
  · cases h
    obtain ⟨p, us, rfl, h2, h3⟩ := fl_rel r
    rcases h2 with (h2 | ⟨o, h2⟩) | ⟨o, its, n, hk, hc, _⟩
    · exact .inl (.base (.lst h2))
    · exact .inl (.base (.frz h2))
    · exact .inl (.kList hk hc)
  · split at h
    · rename_i xs e
      cases h
      obtain ⟨p, us, rfl, _, h2, h3⟩ := sim_lst s r e
      exact .inl (.base (.lst h2))
    · rename_i kvs e
      cases h
      obtain ⟨p, rfl, _, h2⟩ := sim_dic s r e
      rcases h2 with ⟨ks, h2, _⟩ | ⟨es, h2, _⟩
      · exact .inl (.base (.dK h2))
      · exact .inr ⟨rfl, p, es, rfl, h2⟩
    · cases h
theorem call_isiD (gx : GX g X) : CallR X (.builtin "isinstance") (fun xs H Q => ∃ (a : Addr) (es : List (NestedKey × Addr × V)) (cn : String) (b : Bool), xs = [.ref a, .ty cn] ∧ H a = some (dicO g.P g.w a es) ∧ kitB "dict" cn = some b ∧ Q (.bl b) H) := by
  intro pins s σ H xs us Q I r ⟨a, es, cn, b, h1, h2, h3, q⟩
  subst h1
  obtain ⟨u1, u2, rfl, r1, r2⟩ := vals2 r
  cases r1
  cases (show u2 = Value.type cn from r2)
  obtain ⟨_, _, xs', _, o, ds, ep, z1, z2, _⟩ := dicO_at I h2
  exact PySem.W.kia_one PySem.W.kitx_dict I.kIn ⟨o, z1, z2.1⟩ (kit_ty h3) (fun z => nomatch z) fun tk => ⟨.bl b, H, I.tok tk, rfl, q⟩
theorem call_isiTD (gx : GX g X) : CallR X (.builtin "isinstance") (fun xs H Q => ∃ (a : Addr) (es : List (NestedKey × Addr × V)) (tp : Addr) (cs : List V) (us : List Value) (b : Bool), xs = [.ref a, .ref tp] ∧ H a = some (dicO g.P g.w a es) ∧ H tp = some (.tup cs) ∧ Paired ClsV cs us ∧ PySem.W.kitAny X.K (.type "dict") us = some b ∧ Q (.bl b) H) := by
  intro pins s σ H xs us Q I r ⟨a, es, tp, cs, ws, b, h1, h2, hT, k, e, q⟩
  subst h1
  obtain ⟨u1, u2, rfl, r1, r2⟩ := vals2 r
  cases r1
  cases r2
  obtain ⟨_, _, xs', _, od, ds, ep, z1, z2, _⟩ := dicO_at I h2
  obtain ⟨_, its, rv, o, h3, h4, n, h5⟩ := (show ObjOk X.prog X.w H s.heap tp (.tup cs) from I.hok tp _ hT)
  have e3 := ClsV.all k rv
  subst e3
  obtain ⟨oc, odd, dt, sl⟩ := o
  simp only at h4 h5
  subst h4 h5
  exact PySem.W.kia_tup PySem.W.kitx_dict I.kIn ⟨od, z1, z2.1⟩ h3 e (fun z => nomatch z) fun tk => ⟨.bl b, H, I.tok tk, rfl, q⟩
def cmpTy (n : String) (t : Ty) : Option Bool := match n, t with
  | "NoneType", _ => some false
  | "bool", t => some (decide (t = .int ∨ t = .bool))
  | "int", t => some (decide (t = .int))
  | "str", t => some (decide (t = .str))
  | "tuple", t => some (decide (t = .tuple))
  | "list", t => some (decide (t = .list))
  | "dict", t => some false
  | _, _ => none
theorem isTy_nm {Q : Pg} {M : Hm} {w : Mi.W} {t : Ty} {c : String} {b : Bool} (hc : t.nm = some c) (h : isTy Q M t w = some b) : ∃ n, nmOf M w = some n ∧ kitB n c = some b := by
  have key : ∀ n, (n = "NoneType" ∨ n = "bool" ∨ n = "int" ∨ n = "str" ∨ n = "tuple" ∨ n = "list" ∨ n = "dict") → cmpTy n t = some b → kitB n c = some b := by
    intro n hn e
    cases t <;> simp only [Ty.nm, Option.some.injEq] at hc <;> first
      | (subst hc
         rcases hn with rfl | rfl | rfl | rfl | rfl | rfl | rfl <;> (simp only [cmpTy, Option.some.injEq] at e; subst e; decide +kernel))
      | cases hc
  unfold isTy at h
  split at h
  · exact ⟨_, rfl, key _ (by simp) (by simpa [cmpTy] using h)⟩
  · exact ⟨_, rfl, key _ (by simp) (by simpa [cmpTy] using h)⟩
  · exact ⟨_, rfl, key _ (by simp) (by simpa [cmpTy] using h)⟩
  · exact ⟨_, rfl, key _ (by simp) (by simpa [cmpTy] using h)⟩
  · exact ⟨_, rfl, key _ (by simp) (by simpa [cmpTy] using h)⟩
  · exact ⟨_, rfl, key _ (by simp) (by simpa [cmpTy] using h)⟩
  · exact ⟨_, rfl, key _ (by simp) (by simpa [cmpTy] using h)⟩
  · split at h
    · rename_i e
      exact ⟨"list", by simp only [nmOf, e], key _ (by simp) (by simpa [cmpTy] using h)⟩
    · rename_i e
      refine ⟨"dict", by simp only [nmOf, e], key _ (by simp) ?_⟩
      split at h <;> first
        | exact h
        | cases h
    · split at h
      · cases hc
      · cases hc
      · cases h
    · cases h
end
end Mi

namespace Mi
open PySem PySem.Spec PyProof.Rows L2 HT
section
variable {prog : Program} {w : World} {A : Around} {E : Value → Shared → Prop} {s : Shared}
theorem places_rev (n : Nat) : Builtin.Slice.slicePlaces ((n : Int) - 1) (-1) (-1) = n := by
  unfold Builtin.Slice.slicePlaces
  rw [if_neg (by decide)]
  by_cases h : 0 < n
  · rw [if_pos (by omega)]
    simp
  · have : n = 0 := by omega
    subst this
    rfl
theorem applied_rev {sl : Addr} {vs : Value} {n : Nat} {Q : Int × Int × Nat → Shared → Prop} (hs : s.heap.IsSliceOf sl .none .none vs) (ps : IsPart vs (some (-1))) (h : Q ((n : Int) - 1, -1, n) s) : wpAny (model prog w) A (Builtin.Slice.sliceApplied (.ref sl) (pure (n : Int))) Q E s := by
  obtain ⟨os, hos, hcs, hds⟩ := id hs
  unfold Builtin.Slice.sliceApplied Builtin.Slice.sliceFields
  refine wpAny_bind (wpAny_bind (wpAny_field hos hds (x := .none) rfl (wpAny_bind (wpAny_field hos hds (x := .none) rfl (wpAny_bind (wpAny_field hos hds (x := vs) rfl (wpAny_pure ?_)))))))
  refine wpAny_bind (slicePart_ ps ?_)
  show wpAny _ _ (if ((-1 : Int) == 0) = true then _ else _) _ _ s
  rw [if_neg (by decide)]
  refine wpAny_bind (slicePart_none (wpAny_bind (slicePart_none (wpAny_bind (wpAny_pure ?_)))))
  have e : Builtin.Slice.sliceAdjust none none (-1) (n : Int) = ((n : Int) - 1, -1) := rfl
  show wpAny _ _ (match Builtin.Slice.sliceAdjust none none (-1) (n : Int) with | (lo, hi) => pure (lo, (-1 : Int), Builtin.Slice.slicePlaces lo hi (-1))) _ _ s
  rw [e]
  dsimp only
  rw [places_rev]
  exact wpAny_pure h
theorem pick_rev (xs : Array Value) : ((List.range xs.size).filterMap fun (k : Nat) => xs[((xs.size : Int) - 1 + (k : Int) * (-1)).toNat]?).toArray = xs.toList.reverse.toArray := by
  rw [← PySem.W.krv_all xs, ← List.filterMap_reverse, ← PySem.W.krv_range xs.size, List.filterMap_map]
  congr 1
  have key : ∀ l : List Nat, (∀ k ∈ l, k < xs.size) → l.filterMap (fun (k : Nat) => xs[((xs.size : Int) - 1 + (k : Int) * (-1)).toNat]?) = l.filterMap ((fun x => xs[x]?) ∘ fun k => xs.size - 1 - k) := by
    intro l hl
    induction l with
    | nil => rfl
    | cons k l ih =>
      have hk := hl k List.mem_cons_self
      have e : ((xs.size : Int) - 1 + (k : Int) * (-1)).toNat = xs.size - 1 - k := by omega
      rw [List.filterMap_cons, List.filterMap_cons, ih fun j hj => hl j (List.mem_cons_of_mem _ hj), e]
      rfl
  exact key _ fun k hk => List.mem_range.mp hk
theorem getItem_tuple_rev {t sl : Addr} {items : Array Value} {vs : Value} {Q : Value → Shared → Prop} (ht : IsTup s.heap t items) (hs : s.heap.IsSliceOf sl .none .none vs) (ps : IsPart vs (some (-1)))
    (h : Q (.ref s.heap.objs.size) { s with heap := s.heap.push { cls := .type "tuple", data := .seq items.toList.reverse.toArray } })
    (hsz : items.size ≤ sizeLine) : wpAny (model prog w) A (getItem (.ref t) (.ref sl)) Q E s := by
  have hok : sizeOk (.seq items.toList.reverse.toArray) := by
    show items.toList.reverse.toArray.size ≤ sizeLine
    simpa using hsz
  obtain ⟨os, hos, hcs, hds⟩ := id hs
  have hT : s.TypeIs (.ref sl) "slice" := ⟨os, hos, hcs⟩
  unfold getItem
  try with_reducible refine wpAny_holding ?_
  first | refine wpAny_bind (wpAny_pure ?_) | skip
  refine wpAny_bind (wpAny_sequenceKey ht.typeIs (by decide) ?_)
  refine wpAny_bind (wpAny_callSpecial?_slot (name := Str.ofString "__getitem__") ht.typeIs PyProof.Rows.slot_tuple_getitem
    (wpAny_call_entry PyProof.Rows.slot_tuple_getitem ht.typeIs entry_tuple_getitem ?_ (args_tuple_getitem _ _)))
  show wpAny _ _ (Builtin.Tuple.tupleItemsOf (.ref t) >>= _) _ _ s
  refine wpAny_bind (tupleItemsOf_ ht ?_)
  refine wpAny_bind (wpAny_typeOf hT ?_)
  rw [if_pos (by decide)]
  refine wpAny_bind (applied_rev hs ps ?_)
  have hno : ¬ ((((items.size : Int) - 1) == 0 && (-1 : Int) == 1 && items.size == items.size) = true) := by
    rw [show ((-1 : Int) == 1) = false from rfl, Bool.and_false, Bool.false_and]
    decide
  show wpAny _ _ (if ((((items.size : Int) - 1) == 0 && (-1 : Int) == 1 && items.size == items.size) = true) then _ else _) _ _ s
  rw [if_neg hno, pick_rev]
  first
    | exact wpAny_bind (m := Builtin.Tuple.tupleExact _) (wpAny_newObj_type (wpAny_pure ⟨_, rfl, wpAny_pure h⟩) hok)
    | exact wpAny_bind (m := Builtin.Tuple.tupleExact _) (wpAny_newObj_type (wpAny_bind (wpAny_pure (wpAny_pure ⟨_, rfl, wpAny_pure h⟩))) hok)
    | exact wpAny_bind (wpAny_bind (m := Builtin.Tuple.tupleExact _) (wpAny_newObj_type (wpAny_pure (wpAny_pure ⟨_, rfl, wpAny_pure h⟩)) hok))
    | exact wpAny_bind (wpAny_bind (m := Builtin.Tuple.tupleExact _) (wpAny_newObj_type (wpAny_pure ⟨_, rfl, wpAny_pure h⟩) hok))
end
section
variable {X : Cx} {g : G} {W : WX}
def tRevA (K : PySem.W.Frag) (te : TE) : TE := fun σ H Q => te σ H fun x H1 => ∃ a xs, x = .ref a ∧ ((SqL K H1 a xs ∧ ∀ p, H1 p = none → Q (.ref p) (upd H1 p (.lst xs.reverse))) ∨ (SqT K H1 a xs ∧ ∀ p, H1 p = none → Q (.ref p) (upd H1 p (.tup xs.reverse))))
theorem pe_revA {e : Expr} {te : TE} {k : Nat} {p1 p2 p3 pos : Pos} (he : PE X e te) : PE X (.Subscript e (.Slice none none (some (.UnaryOp .USub (.Constant (.int 1) k p1) p2)) p3) pos) (tRevA X.K te) := by
  refine ⟨fun pins s σ H Q I h => ?_⟩
  refine Subscript_ (thn (he.run pins s σ H _ I h) fun v s1 ⟨x, H1, I1, r1, a, xs, ex, h1⟩ => ?_)
  subst ex
  cases r1
  have one : PO X (some (.UnaryOp .USub (.Constant (.int 1) k p1) p2)) (tPart (tUn (rU fun i => .int (-i)) (tC (.int 1)))) := po_some (pe_un un_neg pe_int)
  rw [show wpAny (model X.prog X.w) X.A _ _ _ _ = wpAny (model X.prog X.w) X.A _ _ _ _ from rfl]
  refine wpAny_Slice ?_
  rw [evalPart_none]
  refine wpAny_pure (wpAny_pure ?_)
  refine thn (one.run pins s1 σ H1 (fun o H4 => o = some (-1) ∧ H4 = H1) I1 ⟨1, rfl, -1, rfl, rfl, rfl⟩) fun vs s4 ⟨o, H4, I4, ps, eo, e4⟩ => ?_
  subst eo e4
  have I5 : Inv X pins σ H4 { s4 with heap := s4.heap.push { cls := .type "slice", data := .fields #[.none, .none, vs] } } := I4.kept (t' := s4.toks) fun b ob q => Heap.get?_push_of_some _ q
  show wpAny (model X.prog X.w) X.A (subscriptTail e (.Slice none none (some (.UnaryOp .USub (.Constant (.int 1) k p1) p2)) p3) (.ref a) (.ref s4.heap.objs.size)) (EP X pins σ Q) X.xe { s4 with heap := s4.heap.push { cls := .type "slice", data := .fields #[.none, .none, vs] } }
  rcases h1 with ⟨hx, q⟩ | ⟨hx, q⟩
  · obtain ⟨its, r, ht, hz⟩ := I5.list hx
    have hlen := r.length
    refine tail_any (ops := [.ref a, .ref s4.heap.objs.size]) ht.isList.typeIs (PySem.slot_list_getitem.lookup) ?_ (by with_unfolding_all rfl)
    refine wpAny_getItem_list_slice ht.isList (Heap.IsSliceOf.new _ .none .none vs) .none .none ps (by decide) ?_ (by rw [List.size_toArray]; omega)
    rw [PySem.W.krv_pick]
    refine ⟨.ref _, _, I5.laid (t' := s4.toks) (o := .lst xs.reverse) (fun b ob q => Heap.get?_push_of_some _ q) (Nat.le_refl _) ?_, rfl, q _ (I5.hok.fresh (Nat.le_refl _))⟩
    exact ⟨by rw [List.length_reverse]; exact hz, _, 0, r.reverse, Heap.get?_push_size _ rfl⟩
  · obtain ⟨its, r, ht, hz⟩ := I5.tuple hx
    have hlen := r.length
    refine tail_any (ops := [.ref a, .ref s4.heap.objs.size]) ht.typeIs (PyProof.Rows.slot_tuple_getitem.lookup) ?_ (by with_unfolding_all rfl)
    refine getItem_tuple_rev ht (Heap.IsSliceOf.new _ .none .none vs) ps ?_ (by rw [List.size_toArray]; omega)
    refine ⟨.ref _, _, I5.laid (t' := s4.toks) (o := .tup xs.reverse) (fun b ob q => Heap.get?_push_of_some _ q) (Nat.le_refl _) ?_, rfl, q _ (I5.hok.fresh (Nat.le_refl _))⟩
    exact ⟨by rw [List.length_reverse]; exact hz, _, r.reverse, ⟨_, Heap.get?_push_size _ rfl, rfl, _, rfl⟩⟩
theorem relWs_rev {K : PySem.W.Frag} {ρ : List Addr} {H : Hp} : ∀ {ws : List Mi.W} {us : List V}, RelWs K ρ H ws us → RelWs K ρ H ws.reverse us.reverse
  | [], us, h => by simp only [RelWs] at h; subst h; simp [RelWs]
  | w :: ws, us, h => by
    simp only [RelWs] at h
    obtain ⟨u, r, rfl, h1, h2⟩ := h
    rw [List.reverse_cons, List.reverse_cons]
    refine relWs_append (relWs_rev h2) ?_
    simp only [RelWs]
    exact ⟨u, [], rfl, h1, rfl⟩
theorem sd_rvs {fa : En → Hm → R Mi.W} {a : Expr} {k : Nat} {p1 p2 p3 pos : Pos} (gx : GX g X) (ha : PE X a (tE g W fa)) : PE X (.Subscript a (.Slice none none (some (.UnaryOp .USub (.Constant (.int 1) k p1) p2)) p3) pos) (tE g W fun env M => (fa env M).bnd fun x M1 => rvsV x M1) := by
  refine PE.weak (pe_revA ha) fun σ H Q h => ?_
  refine (tI.bnd (rel1 := relW g) (k := fun _ x M1 => rvsV x M1) h).mono fun v H1 ⟨ρ1, M1, env, x, a1, b1, c1, d1⟩ => ?_
  rw [← gx.K]
  have tup : ∀ ws, tupItems x = some ws → rvsV x M1 = .ok (mkTup ws.reverse) M1 → ∃ a xs, v = .ref a ∧ ((SqL g.K H1 a xs ∧ ∀ p, H1 p = none → Q (.ref p) (upd H1 p (.lst xs.reverse))) ∨ (SqT g.K H1 a xs ∧ ∀ p, H1 p = none → Q (.ref p) (upd H1 p (.tup xs.reverse)))) := fun ws hw e => by
    rw [e] at d1
    obtain ⟨p, us, rfl, h1, h2⟩ := tup_rel c1 hw
    refine ⟨p, us, rfl, .inr ⟨h1, fun q hq => ?_⟩⟩
    have tk := TK.same (same_upd (o := .tup us.reverse) hq)
    exact d1 ρ1 _ _ (Stp.same (same_upd hq)) (b1.same (same_upd hq)) (relW_mkTup (.inl (.inl upd_same)) (RelWs.mono (List.prefix_refl _) tk _ _ (relWs_rev h2)))
  unfold rvsV at d1
  split at d1
  · rename_i k
    split at d1
    · rename_i xs e
      obtain ⟨p, us, rfl, _, h2, h3⟩ := sim_lst b1 c1 e
      exact ⟨p, us, rfl, .inl ⟨.inl (.inl h2), fun q hq => post_newL b1 d1 hq (relWs_rev h3)⟩⟩
    · exact d1.elim
  · rename_i xs
    obtain ⟨p, us, rfl, h1, h2⟩ := fl_rel c1
    exact ⟨p, us, rfl, .inl ⟨h1, fun q hq => post_newL b1 d1 hq (by rw [← List.map_reverse, List.map_reverse]; exact relWs_rev ((relPs_of _ _).mpr h2))⟩⟩
  · rename_i h1 h2
    cases e : tupItems x with
    | none => rw [e] at d1; exact d1.elim
    | some ws => exact tup ws e (by unfold rvsV; split <;> simp_all)
end
end Mi

namespace Mi
open PySem PySem.Spec PyProof.Rows L2
section
variable {X : Cx} {g : G} {W : WX}
theorem zipW_len : ∀ xs ys : List Mi.W, (zipW xs ys).length = min xs.length ys.length
  | [], ys => by simp [zipW]
  | _ :: _, [] => by simp [zipW]
  | a :: s, b :: t => by simp [zipW, zipW_len s t]
theorem zipW_get : ∀ (xs ys : List Mi.W) (i : Nat), i < (zipW xs ys).length → ∃ x y, xs[i]? = some x ∧ ys[i]? = some y ∧ (zipW xs ys)[i]? = some (mkTup [x, y])
  | [], ys, i, h => by simp [zipW] at h
  | _ :: _, [], i, h => by simp [zipW] at h
  | a :: s, b :: t, 0, h => ⟨a, b, rfl, rfl, rfl⟩
  | a :: s, b :: t, i + 1, h => by
    simp only [zipW, List.length_cons] at h
    obtain ⟨x, y, h1, h2, h3⟩ := zipW_get s t i (by omega)
    exact ⟨x, y, by simpa using h1, by simpa using h2, by simpa [zipW] using h3⟩
theorem enumW_len : ∀ (n : Nat) (xs : List Mi.W), (enumW n xs).length = xs.length
  | _, [] => rfl
  | n, x :: xs => by simp [enumW, enumW_len (n + 1) xs]
theorem enumW_get : ∀ (n : Nat) (xs : List Mi.W) (i : Nat), i < xs.length → ∃ x, xs[i]? = some x ∧ (enumW n xs)[i]? = some (mkTup [.p (.int ((n + i : Nat) : Int)), x])
  | n, [], i, h => by simp at h
  | n, x :: xs, 0, h => ⟨x, rfl, rfl⟩
  | n, x :: xs, i + 1, h => by
    obtain ⟨y, h1, h2⟩ := enumW_get (n + 1) xs i (by simpa using h)
    refine ⟨y, by simpa using h1, ?_⟩
    simp only [enumW, List.getElem?_cons_succ, h2]
    rw [show n + 1 + i = n + (i + 1) by omega]
theorem pures_mk2 {x y : Mi.W} {p : P} (h : mkTup [x, y] = .p p) : ∃ a b, x = .p a ∧ y = .p b := by
  unfold mkTup at h
  cases e : pures [x, y] with
  | none => rw [e] at h; cases h
  | some xs =>
    have := pures_some e
    cases xs with
    | nil => simp at this
    | cons a r =>
      cases r with
      | nil => simp at this
      | cons b r2 =>
        simp only [List.map_cons, List.cons.injEq] at this
        exact ⟨a, b, this.1, this.2.1⟩
theorem pures_cons_some {w : Mi.W} {ws : List Mi.W} : (pures (w :: ws)).isSome = true ↔ (∃ p, w = .p p) ∧ (pures ws).isSome = true := by
  cases w <;> simp [pures]
theorem pures_zip : ∀ {xs ys : List Mi.W}, xs.length = ys.length → (pures (zipW xs ys)).isSome = true → (pures xs).isSome = true ∧ (pures ys).isSome = true
  | [], [], _, _ => ⟨rfl, rfl⟩
  | [], _ :: _, h, _ => by simp at h
  | _ :: _, [], h, _ => by simp at h
  | a :: s, b :: t, hl, h => by
    simp only [zipW] at h
    obtain ⟨⟨p, hp⟩, h'⟩ := pures_cons_some.mp h
    obtain ⟨x, y, rfl, rfl⟩ := pures_mk2 hp
    obtain ⟨h1, h2⟩ := pures_zip (by simpa using hl) h'
    exact ⟨pures_cons_some.mpr ⟨⟨_, rfl⟩, h1⟩, pures_cons_some.mpr ⟨⟨_, rfl⟩, h2⟩⟩
theorem pures_enum : ∀ {n : Nat} {xs : List Mi.W}, (pures (enumW n xs)).isSome = true → (pures xs).isSome = true
  | _, [], _ => rfl
  | n, a :: s, h => by
    simp only [enumW] at h
    obtain ⟨⟨p, hp⟩, h'⟩ := pures_cons_some.mp h
    obtain ⟨x, y, _, rfl⟩ := pures_mk2 hp
    exact pures_cons_some.mpr ⟨⟨_, rfl⟩, pures_enum h'⟩
theorem pures_rev {xs : List Mi.W} (h : (pures xs.reverse).isSome = true) : (pures xs).isSome = true := by
  obtain ⟨ps, e⟩ := Option.isSome_iff_exists.mp h
  have := pures_some e
  have e2 : xs = ps.reverse.map Mi.W.p := by
    rw [← List.reverse_reverse (as := xs), this, List.map_reverse]
  rw [e2, pures_map]
  rfl
def LiveC (g : G) (a : Addr) (xs : List Mi.W) (ks : List Nat) (M0 : Hm) : List Addr → Hm → Hp → Prop := LiveL g a xs ks M0
theorem LiveL.wide {a : Addr} {its : List Mi.W} {pins pins' : List Nat} {M0 : Hm} {ρ : List Addr} {M : Hm} {H : Hp} (hp : ∀ k ∈ pins, k ∈ pins') (l : LiveL g a its pins M0 ρ M H) : LiveL g a its pins' M0 ρ M H := by
  rcases l with ⟨k, h0, h⟩ | h
  · exact .inl ⟨k, hp k h0, h⟩
  · exact .inr h
theorem live_any {ρ ρ' : List Addr} {M M' : Hm} {H H' : Hp} {w : Mi.W} {v : V} {xs its : List Mi.W} (s0 : Sim g ρ M H) (t : Stp ρ H ρ' H') (s : Sim g ρ' M' H') (hw : w.isLst = true) (r : RelW g.K ρ' H' w v) (hq : seqOf M' w = some xs) (hp : (pures its).isSome = true → (pures xs).isSome = true) :
    ∃ a, v = .ref a ∧ ∀ ρ1, ((M'.take M.length = M ∧ (pures its).isSome = true ∧ ρ1 = ρ) ∨ (¬ (M'.take M.length = M ∧ (pures its).isSome = true) ∧ ρ1 = ρ')) →
      LiveL g a xs ((pinsOf [w]).filter (· < (srcH M its M').length)) (srcH M its M') ρ1 (srcH M its M') H' := by
  cases w with
  | p x => simp [Mi.W.isLst] at hw
  | tup ws => simp [Mi.W.isLst] at hw
  | fl ys =>
    simp only [RelW] at r
    obtain ⟨a, us, rfl, h1, h2⟩ := r
    simp only [seqOf, Option.some.injEq] at hq
    subst hq
    exact ⟨a, rfl, fun ρ1 _ => .inr ⟨ys, us, rfl, .inr h1, h2⟩⟩
  | ref k =>
    have r2 := r
    simp only [RelW] at r2
    obtain ⟨a, ha, rfl⟩ := r2
    simp only [seqOf] at hq
    split at hq
    · rename_i zs hm
      cases hq
      have hk' : k < M'.length := (List.getElem?_eq_some_iff.mp hm).1
      refine ⟨a, rfl, fun ρ1 hc => ?_⟩
      rcases hc with ⟨e, hpu, rfl⟩ | ⟨hn, rfl⟩
      · have es : srcH M its M' = M := if_pos ⟨e, hpu⟩
        rw [es]
        by_cases hk : k < M.length
        · have hm' : M[k]? = M'[k]? := by
            have : (M'.take M.length)[k]? = M[k]? := by rw [e]
            rw [← this, List.getElem?_take]
            simp [hk]
          refine .inl ⟨k, by simp [pinsOf, hk], ?_, rfl, by rw [hm']; exact hm⟩
          obtain ⟨b, hb⟩ : ∃ b, ρ1[k]? = some b := ⟨_, List.getElem?_eq_getElem (by rw [s0.len]; exact hk)⟩
          have := pre_get t.pre hb
          rw [ha] at this
          cases this
          exact hb
        · obtain ⟨ps, hps⟩ := Option.isSome_iff_exists.mp (hp hpu)
          have hits := pures_some hps
          refine .inr ⟨ps, ?_⟩
          obtain ⟨b, hb, us, h2, h3⟩ := s.ob k _ hm
          rw [ha] at hb
          cases hb
          subst hits
          refine ⟨us, rfl, .inl ⟨h2, fun hmem => ?_⟩, (relPs_of ps us).mp h3⟩
          obtain ⟨j, hj⟩ := List.getElem?_of_mem hmem
          have hj' : j < M.length := by rw [← s0.len]; exact (List.getElem?_eq_some_iff.mp hj).1
          have := s.nd j k a (pre_get t.pre hj) ha
          omega
      · have es : srcH M its M' = M' := if_neg hn
        rw [es]
        exact .inl ⟨k, by simp [pinsOf, hk'], ha, rfl, hm⟩
    · cases hq
theorem start_two {ρ ρ' : List Addr} {M M' : Hm} {H H' : Hp} {its : List Mi.W} (s0 : Sim g ρ M H) (t : Stp ρ H ρ' H') (s : Sim g ρ' M' H') : ∃ ρ1, Stp ρ H ρ1 H' ∧ Sim g ρ1 (srcH M its M') H' ∧
    ((M'.take M.length = M ∧ (pures its).isSome = true ∧ ρ1 = ρ) ∨ (¬ (M'.take M.length = M ∧ (pures its).isSome = true) ∧ ρ1 = ρ')) := by
  by_cases c : M'.take M.length = M ∧ (pures its).isSome = true
  · refine ⟨ρ, stp_cut t, ?_, .inl ⟨c.1, c.2, rfl⟩⟩
    rw [show srcH M its M' = M from if_pos c]
    exact Sim.cut s0 t s c.1
  · refine ⟨ρ', t, ?_, .inr ⟨c, rfl⟩⟩
    rw [show srcH M its M' = M' from if_neg c]
    exact s
theorem relW_pair {K : PySem.W.Frag} {ρ : List Addr} {H : Hp} {x y : Mi.W} {u v : V} {T : Addr} (hT : H T = none) (h1 : RelW K ρ H x u) (h2 : RelW K ρ H y v) : RelW K ρ (upd H T (.tup [u, v])) (mkTup [x, y]) (.ref T) := by
  have tk := TK.same (same_upd (o := .tup [u, v]) hT)
  refine relW_mkTup (.inl (.inl upd_same)) ?_
  simp only [RelWs]
  exact ⟨u, [v], rfl, RelW.mono (List.prefix_refl _) tk _ _ h1, v, [], rfl, RelW.mono (List.prefix_refl _) tk _ _ h2, rfl⟩
theorem src_zipL {a b : Addr} {xs ys : List Mi.W} {pins : List Nat} {M0 : Hm} : Src g (Itz g.K a b) (zipW xs ys) (stays pins M0) (fun ρ M H => LiveL g a xs pins M0 ρ M H ∧ LiveL g b ys pins M0 ρ M H) where
  step := fun ⟨l1, l2⟩ _ t _ ok => ⟨l1.step t ok, l2.step t ok⟩
  go := fun i ⟨l1, l2⟩ s hi => by
    obtain ⟨us, h1, h2⟩ := l1.sq s
    obtain ⟨vs, k1, k2⟩ := l2.sq s
    obtain ⟨x, y, ex, ey, e⟩ := zipW_get xs ys i hi
    obtain ⟨u, h3, h4⟩ := relWs_get h2 ex
    obtain ⟨v, k3, k4⟩ := relWs_get k2 ey
    refine ⟨⟨us, vs, u, v, h1, k1, h3, k3⟩, fun z H' hy => ?_⟩
    obtain ⟨T, u', v', rfl, hT, rfl, f1, f2⟩ := hy
    have := f1 us h1
    rw [h3] at this
    cases this
    have := f2 vs k1
    rw [k3] at this
    cases this
    exact ⟨same_upd hT, _, e, relW_pair hT h4 k4⟩
  stop := fun i ⟨l1, l2⟩ s hi => by
    obtain ⟨us, h1, h2⟩ := l1.sq s
    obtain ⟨vs, k1, k2⟩ := l2.sq s
    rw [zipW_len] at hi
    refine ⟨us, vs, h1, k1, ?_⟩
    rw [← relWs_len h2, ← relWs_len k2]
    omega
abbrev LiveT (g : G) (a : Addr) (its : List Mi.W) (ρ : List Addr) (H : Hp) : Prop := ∃ us, SqT g.K H a us ∧ RelWs g.K ρ H its us
theorem src_zipT {a b : Addr} {xs ys : List Mi.W} {ok : Hm → Bool} : Src g (RZ.ItzT g.K a b) (zipW xs ys) ok (fun ρ _ H => LiveT g a xs ρ H ∧ LiveT g b ys ρ H) where
  step := fun ⟨⟨us, h1, h2⟩, ⟨vs, k1, k2⟩⟩ _ t _ ok => ⟨⟨us, sqT_mono t.tk h1, RelWs.mono t.pre t.tk _ _ h2⟩, ⟨vs, sqT_mono t.tk k1, RelWs.mono t.pre t.tk _ _ k2⟩⟩
  go := fun i ⟨⟨us, h1, h2⟩, ⟨vs, k1, k2⟩⟩ s hi => by
    obtain ⟨x, y, ex, ey, e⟩ := zipW_get xs ys i hi
    obtain ⟨u, h3, h4⟩ := relWs_get h2 ex
    obtain ⟨v, k3, k4⟩ := relWs_get k2 ey
    refine ⟨⟨us, vs, u, v, h1, k1, h3, k3⟩, fun z H' hy => ?_⟩
    obtain ⟨T, u', v', rfl, hT, rfl, f1, f2⟩ := hy
    have := f1 us h1
    rw [h3] at this
    cases this
    have := f2 vs k1
    rw [k3] at this
    cases this
    exact ⟨same_upd hT, _, e, relW_pair hT h4 k4⟩
  stop := fun i ⟨⟨us, h1, h2⟩, ⟨vs, k1, k2⟩⟩ s hi => by
    rw [zipW_len] at hi
    refine ⟨us, vs, h1, k1, ?_⟩
    rw [← relWs_len h2, ← relWs_len k2]
    omega
theorem src_enum {a : Addr} {xs : List Mi.W} {pins : List Nat} {M0 : Hm} : Src g (Ite g.K a) (enumW 0 xs) (stays pins M0) (LiveL g a xs pins M0) where
  step := fun l _ t _ ok => l.step t ok
  go := fun i l s hi => by
    rw [enumW_len] at hi
    obtain ⟨us, h1, h2⟩ := l.sq s
    obtain ⟨x, ex, e⟩ := enumW_get 0 xs i hi
    obtain ⟨u, h3, h4⟩ := relWs_get h2 ex
    refine ⟨⟨us, u, h1, h3⟩, fun z H' hy => ?_⟩
    obtain ⟨T, u', rfl, hT, rfl, f1⟩ := hy
    have := f1 us h1
    rw [h3] at this
    cases this
    refine ⟨same_upd hT, _, e, relW_pair hT ?_ h4⟩
    simp [RelW, RelP]
  stop := fun i l s hi => by
    rw [enumW_len] at hi
    obtain ⟨us, h1, h2⟩ := l.sq s
    exact ⟨us, h1, by rw [← relWs_len h2]; exact hi⟩
theorem src_revL {a : Addr} {xs : List Mi.W} {n : Nat} {pins : List Nat} {M0 : Hm} (hn : n = xs.length) : Src g (Itv g.K a n) xs.reverse (stays pins M0) (LiveL g a xs pins M0) where
  step := fun l _ t _ ok => l.step t ok
  go := fun i l s hi => by
    rw [List.length_reverse] at hi
    subst hn
    obtain ⟨us, h1, h2⟩ := l.sq s
    have hj : xs.length - 1 - i < xs.length := by omega
    obtain ⟨u, h3, h4⟩ := relWs_get h2 (List.getElem?_eq_getElem hj)
    refine ⟨⟨hi, us, u, h1, h3⟩, fun z H' ⟨e, y⟩ => ?_⟩
    subst e
    have := y us h1
    rw [h3] at this
    cases this
    exact ⟨Same.refl _, _, by rw [List.getElem?_reverse hi, List.getElem?_eq_getElem hj], h4⟩
  stop := fun i l s hi => by
    rw [List.length_reverse] at hi
    subst hn
    exact hi
theorem src_revT {a : Addr} {xs : List Mi.W} {n : Nat} {ok : Hm → Bool} (hn : n = xs.length) : Src g (RT.ItvT g.K a n) xs.reverse ok (fun ρ _ H => LiveT g a xs ρ H) where
  step := fun ⟨us, h1, h2⟩ _ t _ ok => ⟨us, sqT_mono t.tk h1, RelWs.mono t.pre t.tk _ _ h2⟩
  go := fun i ⟨us, h1, h2⟩ s hi => by
    rw [List.length_reverse] at hi
    subst hn
    have hj : xs.length - 1 - i < xs.length := by omega
    obtain ⟨u, h3, h4⟩ := relWs_get h2 (List.getElem?_eq_getElem hj)
    refine ⟨⟨hi, us, u, h1, h3⟩, fun z H' ⟨e, y⟩ => ?_⟩
    subst e
    have := y us h1
    rw [h3] at this
    cases this
    exact ⟨Same.refl _, _, by rw [List.getElem?_reverse hi, List.getElem?_eq_getElem hj], h4⟩
  stop := fun i ⟨us, h1, h2⟩ s hi => by
    rw [List.length_reverse] at hi
    subst hn
    exact hi
theorem live_t {ρ ρ' ρ1 : List Addr} {M M' : Hm} {H' : Hp} {w : Mi.W} {v : V} {xs its : List Mi.W} (hw : w.isLst = false) (r : RelW g.K ρ' H' w v) (hq : seqOf M' w = some xs) (hp : (pures its).isSome = true → (pures xs).isSome = true)
    (hc : (M'.take M.length = M ∧ (pures its).isSome = true ∧ ρ1 = ρ) ∨ (¬ (M'.take M.length = M ∧ (pures its).isSome = true) ∧ ρ1 = ρ')) : ∃ a, v = .ref a ∧ LiveT g a xs ρ1 H' := by
  have key : ∃ a us, v = .ref a ∧ SqT g.K H' a us ∧ RelWs g.K ρ' H' xs us := by
    cases w with
    | p x =>
      cases x with
      | tup ys => simp only [seqOf, Option.some.injEq] at hq; subst hq; exact tup_rel r rfl
      | _ => simp [seqOf] at hq
    | tup ws => simp only [seqOf, Option.some.injEq] at hq; subst hq; exact tup_rel r rfl
    | fl ys => simp [Mi.W.isLst] at hw
    | ref k => simp [Mi.W.isLst] at hw
  obtain ⟨a, us, rfl, h1, h2⟩ := key
  refine ⟨a, rfl, us, h1, relWs_old ?_ h2⟩
  rcases hc with ⟨_, h, _⟩ | ⟨_, h⟩
  · exact .inl (hp h)
  · exact .inr h

theorem zip_types {a b : Mi.W} (h : zipTyp a b = true) : (a.isLst = true ∧ b.isLst = true) ∨ (a.isLst = false ∧ b.isLst = false) := by
  cases a with
  | p x => cases x <;> cases b with
    | p y => cases y <;> simp_all [zipTyp, Mi.W.isLst]
    | _ => simp_all [zipTyp, Mi.W.isLst]
  | tup ws => cases b with
    | p y => cases y <;> simp_all [zipTyp, Mi.W.isLst]
    | _ => simp_all [zipTyp, Mi.W.isLst]
  | ref k => cases b with
    | p y => cases y <;> simp_all [zipTyp, Mi.W.isLst]
    | _ => simp_all [zipTyp, Mi.W.isLst]
  | fl k => cases b with
    | p y => cases y <;> simp_all [zipTyp, Mi.W.isLst]
    | _ => simp_all [zipTyp, Mi.W.isLst]
theorem pins2 (a b : Mi.W) : ∀ k, (k ∈ pinsOf [a] → k ∈ pinsOf [a, b]) ∧ (k ∈ pinsOf [b] → k ∈ pinsOf [a, b]) := by
  intro k
  cases a <;> cases b <;> simp_all [pinsOf]
theorem pins_mono {ks ks' : List Nat} (h : ∀ k ∈ ks, k ∈ ks') (n : Nat) : ∀ k ∈ ks.filter (· < n), k ∈ ks'.filter (· < n) := by
  intro k hk
  rw [List.mem_filter] at hk ⊢
  exact ⟨h k hk.1, hk.2⟩
theorem sd_srcZip {e e2 : Expr} {p pos tpos : Pos} {elts : List Expr} {kk : Nat} {fs : En → Hm → R (List Mi.W)} (gx : GX g X) (hg : Gl X "zip") (hm : X.mg "zip" = none) (ha : PA X [e, e2] (tA g W fs))
    (hs : starEach [e, e2] X.env = (false, eval e X.env) :: starEach [e2] X.env) (hpl : (backTo pos (starEach [e2] X.env)).any (·.1) = false) (hlen : ∀ env M ws M1, fs env M = .ok ws M1 → ws.length = 2) :
    PI X (.Tuple elts kk tpos) (.Call (.Name "zip" p) [e, e2] [] pos) (tI' g W .zip fs) := by
  refine PI.weak (RZ.pi_zipA hg hm ha hs hpl) fun σ H Rq ⟨ρ, M, env, a, b, c⟩ => ⟨ρ, M, env, a, b, ?_⟩
  cases hr : fs env M with
  | bad => rw [hr] at c; exact c.elim
  | err cc fs M1 => rw [hr] at c; exact c
  | ok ws M1 =>
    rw [hr] at c
    have hl := hlen _ _ _ _ hr
    intro ρ' H' vs t s r
    have r' : RelWs g.K ρ' H' ws vs := r
    match ws, hl with
    | [x, y], _ =>
      obtain ⟨u, v, rfl, r1, r2⟩ := ws2 r'
      simp only [PostI, itemsOf] at c
      cases hz : zipTyp x y with
      | false => rw [hz] at c; exact c.elim
      | true =>
        rw [hz] at c
        cases hx : seqOf M1 x with
        | none => rw [hx] at c; exact c.elim
        | some xs =>
          rw [hx] at c
          cases hy : seqOf M1 y with
          | none => rw [hy] at c; exact c.elim
          | some ys =>
            rw [hy] at c
            dsimp only at c
            by_cases hc : xs.length = ys.length ∨ ((pures xs).isSome = true ∧ (pures ys).isSome = true)
            · rw [if_pos hc] at c
              dsimp only at c
              have hp : (pures (zipW xs ys)).isSome = true → (pures xs).isSome = true ∧ (pures ys).isSome = true := fun h => hc.elim (fun e => pures_zip e h) id
              obtain ⟨ρ1, t1, s1, h1⟩ := start_two (its := zipW xs ys) b t s
              rcases zip_types hz with ⟨l1, l2⟩ | ⟨l1, l2⟩
              · obtain ⟨p1, rfl, L1⟩ := live_any (its := zipW xs ys) b t s l1 r1 hx fun h => (hp h).1
                obtain ⟨p2, rfl, L2⟩ := live_any (its := zipW xs ys) b t s l2 r2 hy fun h => (hp h).2
                have L1 := (L1 ρ1 h1).wide (pins_mono (fun k => (pins2 x y k).1) _)
                have L2 := (L2 ρ1 h1).wide (pins_mono (fun k => (pins2 x y k).2) _)
                obtain ⟨us, q1, _⟩ := L1.sq s1
                obtain ⟨us2, q2, _⟩ := L2.sq s1
                rw [← gx.K]
                exact ⟨p1, p2, us, us2, rfl, .inl ⟨q1, q2, c _ H' ρ1 _ t1 s1 src_zipL ⟨L1, L2⟩⟩⟩
              · obtain ⟨p1, rfl, us, q1, z1⟩ := live_t (its := zipW xs ys) l1 r1 hx (fun h => (hp h).1) h1
                obtain ⟨p2, rfl, us2, q2, z2⟩ := live_t (its := zipW xs ys) l2 r2 hy (fun h => (hp h).2) h1
                rw [← gx.K]
                exact ⟨p1, p2, us, us2, rfl, .inr ⟨q1, q2, c _ H' ρ1 _ t1 s1 src_zipT ⟨⟨us, q1, z1⟩, us2, q2, z2⟩⟩⟩
            · rw [if_neg hc] at c
              exact c.elim
theorem sd_srcEnu {e : Expr} {p pos tpos : Pos} {elts : List Expr} {kk : Nat} {fs : En → Hm → R (List Mi.W)} (gx : GX g X) (hg : Gl X "enumerate") (hm : X.mg "enumerate" = none) (ha : PA X [e] (tA g W fs))
    (hs : starEach [e] X.env = [(false, eval e X.env)]) (hlen : ∀ env M ws M1, fs env M = .ok ws M1 → ws.length = 1) :
    PI X (.Tuple elts kk tpos) (.Call (.Name "enumerate" p) [e] [] pos) (tI' g W .enu fs) := by
  refine PI.weak (pi_enum hg hm ha hs) fun σ H Rq ⟨ρ, M, env, a, b, c⟩ => ⟨ρ, M, env, a, b, ?_⟩
  cases hr : fs env M with
  | bad => rw [hr] at c; exact c.elim
  | err cc fs M1 => rw [hr] at c; exact c
  | ok ws M1 =>
    rw [hr] at c
    have hl := hlen _ _ _ _ hr
    intro ρ' H' vs t s r
    have r' : RelWs g.K ρ' H' ws vs := r
    match ws, hl with
    | [x], _ =>
      obtain ⟨u, rfl, r1⟩ := ws1 r'
      simp only [PostI, itemsOf] at c
      by_cases hz : x.isLst = true
      · rw [if_pos hz] at c
        cases hx : seqOf M1 x with
        | none => rw [hx] at c; exact c.elim
        | some xs =>
          rw [hx] at c
          simp only [Option.map_some] at c
          obtain ⟨ρ1, t1, s1, h1⟩ := start_two (its := enumW 0 xs) b t s
          obtain ⟨p1, rfl, L1⟩ := live_any (its := enumW 0 xs) b t s hz r1 hx pures_enum
          have L1 := L1 ρ1 h1
          obtain ⟨us, q1, _⟩ := L1.sq s1
          rw [← gx.K]
          exact ⟨p1, us, rfl, q1, c _ H' ρ1 _ t1 s1 src_enum L1⟩
      · rw [if_neg hz] at c
        exact c.elim
theorem sd_srcRev {tg e : Expr} {p pos : Pos} {f : En → Hm → R Mi.W} (gx : GX g X) (hg : Gl X "reversed") (hm : X.mg "reversed" = none) (he : PE X e (tE g W f))
    (hs : starEach [e] X.env = (false, eval e X.env) :: starEach [] X.env) :
    PI X tg (.Call (.Name "reversed" p) [e] [] pos) (tI' g W .rev fun env M => (f env M).bnd fun w M1 => .ok [w] M1) := by
  refine PI.weak (RT.pi_revA hg hm he hs) fun σ H Rq ⟨ρ, M, env, a, b, c⟩ => ⟨ρ, M, env, a, b, ?_⟩
  dsimp only at c
  cases hr : f env M with
  | bad => rw [hr] at c; exact c.elim
  | err cc fs M1 => rw [hr] at c; exact c
  | ok x M1 =>
    rw [hr] at c
    dsimp only [R.bnd_ok, PostI] at c
    intro ρ' H' u t s r
    have r1 : RelW g.K ρ' H' x u := r
    simp only [itemsOf] at c
    cases hx : seqOf M1 x with
    | none => rw [hx] at c; exact c.elim
    | some xs =>
      rw [hx] at c
      simp only [Option.map_some] at c
      obtain ⟨ρ1, t1, s1, h1⟩ := start_two (its := xs.reverse) b t s
      cases hz : x.isLst with
      | true =>
        obtain ⟨p1, rfl, L1⟩ := live_any (its := xs.reverse) b t s hz r1 hx pures_rev
        have L1 := L1 ρ1 h1
        obtain ⟨us, q1, q2⟩ := L1.sq s1
        rw [← gx.K]
        exact ⟨p1, us, rfl, .inl ⟨q1, c _ H' ρ1 _ t1 s1 (src_revL (relWs_len q2).symm) L1⟩⟩
      | false =>
        obtain ⟨p1, rfl, us, q1, z1⟩ := live_t (its := xs.reverse) hz r1 hx pures_rev h1
        rw [← gx.K]
        exact ⟨p1, us, rfl, .inr ⟨q1, c _ H' ρ1 _ t1 s1 (src_revT (relWs_len z1).symm) ⟨us, q1, z1⟩⟩⟩
end
end Mi

namespace Mi
open PySem PySem.Spec PyProof.Rows L2

def spOf (g : G) (f : List Mi.W → Hm → R Mi.W) (n : Nat) : Sp := fun vs H Q E =>
  ∃ ρ M ws, Sim g ρ M H ∧ RelWs g.K ρ H ws vs ∧ ws.length = n ∧ PostE g (fun c d _ H => E c d H) [] ρ H (f ws M) (relW g) Q
section
variable {X : Cx} {g : G} {W : WX}
structure CallOk (X : Cx) (g : G) (f : List Mi.W → Hm → R Mi.W) (x : Str) : Prop where
  ex : ∃ (fa : Addr) (fd : FuncData) (ps : List Str) (k : Nat), X.mg x = some (.ref fa) ∧ PySem.W.keepIn X.K (.ref fa) = true ∧ Binds X.K fd ps [] ∧ FnOk X.prog X.w X.K X.mg X.base (L2.CX X.prog X.w) k fa fd ps (spOf g f ps.length) ∧ Room k X.A ∧ ∀ ws M, f ws M = .bad ∨ ws.length = ps.length
theorem post_sp {σ : L2.St} {ρ : List Addr} {H : Hp} {f : List Mi.W → Hm → R Mi.W} {ws : List Mi.W} {M : Hm} {vs : List V} {Q : VK} {n : Nat} (hl : ∀ ws M, f ws M = .bad ∨ ws.length = n) (s : Sim g ρ M H) (r : RelWs g.K ρ H ws vs) (q : PostE g W σ ρ H (f ws M) (relW g) Q) : spOf g f n vs H Q (WE W σ) := by
  refine ⟨ρ, M, ws, s, r, ?_, ?_⟩
  · rcases hl ws M with h | h
    · rw [h] at q; exact q.elim
    · exact h
  · cases h : f ws M with
    | bad => rw [h] at q; exact q.elim
    | ok w M1 => rw [h] at q; exact q
    | err c fs M1 => rw [h] at q; exact q
theorem sd_call {f : List Mi.W → Hm → R Mi.W} {fs : En → Hm → R (List Mi.W)} {x : Str} {p pos : Pos} {e : Expr} {es : List Expr} (tk : Takes X W) (co : CallOk X g f x) (hg : Gl X x) (ha : PA X (e :: es) (tA g W fs)) (hdb : (x == ("__debug__" : Str)) = false)
    (he : starEach (e :: es) X.env = (false, eval e X.env) :: starEach es X.env) (hpl : (backTo pos (starEach es X.env)).any (·.1) = false) :
    PE X (.Call (.Name x p) (e :: es) [] pos) (tE g W fun env M => (fs env M).bnd fun ws M1 => f ws M1) := by
  obtain ⟨fa, fd, ps, k, hm, hk, hb, F, hr, hl⟩ := co.ex
  refine PE.weak (pe_callS F hr hg hm hk hb (passAt tk) ha hdb he hpl) fun σ H Q h => ?_
  exact (tI.bnd (rel1 := relWs g) (k := fun _ ws M1 => f ws M1) h).mono fun vs H1 ⟨ρ1, M1, env, ws, a, b, c, d⟩ => post_sp hl b c d
theorem sd_call0 {f : List Mi.W → Hm → R Mi.W} {x : Str} {p pos : Pos} (tk : Takes X W) (co : CallOk X g f x) (hg : Gl X x) (hdb : (x == ("__debug__" : Str)) = false) :
    PE X (.Call (.Name x p) [] [] pos) (tE g W fun env M => (R.ok [] M).bnd fun ws M1 => f ws M1) := by
  obtain ⟨fa, fd, ps, k, hm, hk, hb, F, hr, hl⟩ := co.ex
  refine ⟨fun pins s σ H Q I ⟨ρ, M, env, a, b, c⟩ => ?_⟩
  refine wpAny_Call_Name_kw (ld_glob I hg hm ?_ hdb)
  exact PySem.W.callWith_K0 I.kIn hk (run_fnS (us := []) (vs := []) (E := WE W) F hr hb (passAt tk σ) I .nil (post_sp (W := W) hl b (by simp [RelWs]) c))

def tyStr (t : Ty) : Str := match t.nm with
  | some n => Str.ofString n
  | none => Str.ofString ""
theorem boot_ty {t : Ty} {n : String} (h : t.nm = some n) : bootBuiltins (tyStr t) = some (.type n) := by
  cases t <;> simp only [Ty.nm, Option.some.injEq] at h <;> first
    | (subst h; exact PyProof.Rows.boot_int)
    | (subst h; exact PyProof.Rows.boot_bool)
    | (subst h; exact PyProof.Rows.boot_str)
    | (subst h; exact PyProof.Rows.boot_tuple)
    | (subst h; exact PyProof.Rows.boot_list)
    | cases h
theorem str_ne {x y : Str} (h : (x == y) = false) : x ≠ y := fun e => by rw [e] at h; simp at h
theorem pe_tyN {t : Ty} {n : String} {pos : Pos} (h : t.nm = some n) (hg : Gl X (tyStr t)) (hm : X.mg (tyStr t) = none) : PE X (.Name (tyStr t) pos) (tC (.ty n)) := by
  refine pe_bltn hg hm (boot_ty h) rfl ?_ ?_ <;> cases t <;> simp only [Ty.nm] at h <;> first
    | cases h; done
    | (exact str_ne (by decide +kernel))
    | decide +kernel
theorem sd_isi1 {Q : Pg} {fa : En → Hm → R Mi.W} {t : Ty} {n : String} {e : Expr} {p p2 pos : Pos} (gx : GX g X) (hn : t.nm = some n) (hg : Gl X "isinstance") (hm : X.mg "isinstance" = none) (hg2 : Gl X (tyStr t)) (hm2 : X.mg (tyStr t) = none) (ha : PE X e (tE g W fa))
    (he : starEach [e, .Name (tyStr t) p2] X.env = (false, eval e X.env) :: starEach [.Name (tyStr t) p2] X.env) :
    PE X (.Call (.Name "isinstance" p) [e, .Name (tyStr t) p2] [] pos) (tE g W fun env M => (fa env M).bnd fun w M1 => ofB (isTys Q M1 w [t]) M1) := by
  have hp : PA X [e, .Name (tyStr t) p2] _ := pa_cons ha (pa_cons (pe_tyN hn hg2 hm2) pa_nil) he
  refine PE.weak (pe_callB (CallR.or call_isi (call_isiD gx)) hg hm PyProof.Rows.boot_isinstance hp (by decide) (by decide) he rfl) fun σ H Q' h => ?_
  refine (tI.bnd (rel1 := relW g) (k := fun _ w M1 => ofB (isTys Q M1 w [t]) M1) h).mono fun v H1 ⟨ρ1, M1, env, w, a, b, c, d⟩ => ?_
  obtain ⟨x, hx, q⟩ := post_ofB d
  have ht : isTy Q M1 t w = some x := by
    simp only [isTys] at hx
    split at hx
    · rename_i e; cases hx; exact e
    · rename_i e; cases hx; exact e
    · cases hx
  obtain ⟨m, h1, h2⟩ := isTy_nm hn ht
  rcases ty_of b c h1 with h3 | ⟨rfl, p3, es3, rfl, h3⟩
  · exact .inl ⟨v, .ty n, .type m, .type n, x, rfl, .ty n, by rw [← gx.K]; exact h3, kit_ty h2, post_p b q (by simp [RelP])⟩
  · exact .inr ⟨p3, es3, n, x, rfl, h3, h2, post_p b q (by simp [RelP])⟩
inductive TysX (X : Cx) : List Ty → List Expr → List V → List Value → TA → Prop
  | nil : TysX X [] [] [] [] tNil
  | cons {t : Ty} {n : String} {ts : List Ty} {es : List Expr} {cs : List V} {us : List Value} {r : TA} {p : Pos} (hn : t.nm = some n) (hg2 : Gl X (tyStr t)) (hm2 : X.mg (tyStr t) = none) (h : TysX X ts es cs us r) : TysX X (t :: ts) (.Name (tyStr t) p :: es) (.ty n :: cs) (.type n :: us) (tCons (tC (.ty n)) r)
theorem TysX.pa {ts : List Ty} {es : List Expr} {cs : List V} {us : List Value} {r : TA} (h : TysX X ts es cs us r) : PA X es r := by
  induction h with
  | nil => exact pa_nil
  | cons hn hg2 hm2 _ ih => exact pa_cons (pe_tyN hn hg2 hm2) ih rfl
theorem TysX.cls {ts : List Ty} {es : List Expr} {cs : List V} {us : List Value} {r : TA} (h : TysX X ts es cs us r) : Paired ClsV cs us := by
  induction h with
  | nil => exact .nil
  | cons hn hg2 hm2 _ ih => exact .cons (.ty _) ih
theorem TysX.len {ts : List Ty} {es : List Expr} {cs : List V} {us : List Value} {r : TA} (h : TysX X ts es cs us r) : cs.length = ts.length := by
  induction h with
  | nil => rfl
  | cons hn hg2 hm2 _ ih => simp [ih]
theorem TysX.run {ts : List Ty} {es : List Expr} {cs : List V} {us : List Value} {r : TA} (h : TysX X ts es cs us r) : ∀ (σ : L2.St) (H : Hp) (Q : List V → Hp → Prop), Q cs H → r σ H Q := by
  induction h with
  | nil => exact fun σ H Q q => q
  | cons hn hg2 hm2 _ ih => exact fun σ H Q q => ih σ H _ q
theorem TysX.any {K : PySem.W.Frag} {Q : Pg} {M : Hm} {w : Mi.W} {m : String} {ts : List Ty} {es : List Expr} {cs : List V} {us : List Value} {r : TA} (h : TysX X ts es cs us r) (hm : nmOf M w = some m) : ∀ {b : Bool}, isTys Q M w ts = some b → PySem.W.kitAny K (.type m) us = some b := by
  induction h with
  | nil => intro b e; simp only [isTys] at e; exact e
  | cons hn hg2 hm2 _ ih =>
    intro b e
    simp only [isTys] at e
    split at e
    · rename_i e1
      cases e
      obtain ⟨m', h1, h2⟩ := isTy_nm hn e1
      rw [hm] at h1; cases h1
      exact kitAny_cons (kit_ty h2) (fun z => by cases z) fun _ => rfl
    · rename_i e1
      obtain ⟨m', h1, h2⟩ := isTy_nm hn e1
      rw [hm] at h1; cases h1
      exact kitAny_cons (kit_ty h2) (fun _ => ih e) fun z => by cases z
    · cases e
theorem isTys_nm {Q : Pg} {M : Hm} {w : Mi.W} {ts : List Ty} {es : List Expr} {cs : List V} {us : List Value} {r : TA} (h : TysX X ts es cs us r) (h0 : ts ≠ []) {b : Bool} (e : isTys Q M w ts = some b) : ∃ m, nmOf M w = some m := by
  cases h with
  | nil => exact absurd rfl h0
  | cons hn hg2 hm2 _ =>
    simp only [isTys] at e
    split at e
    · rename_i e1
      obtain ⟨m', h1, h2⟩ := isTy_nm hn e1
      exact ⟨m', h1⟩
    · rename_i e1
      obtain ⟨m', h1, h2⟩ := isTy_nm hn e1
      exact ⟨m', h1⟩
    · cases e
theorem sd_isiT {Q : Pg} {fa : En → Hm → R Mi.W} {ts : List Ty} {es : List Expr} {cs : List V} {us : List Value} {r : TA} {e : Expr} {k : Nat} {p p2 pos : Pos} (gx : GX g X) (h0 : ts ≠ []) (hl : ts.length ≤ 1000) (hT : TysX X ts es cs us r) (hg : Gl X "isinstance") (hm : X.mg "isinstance" = none) (ha : PE X e (tE g W fa))
    (he : starEach [e, .Tuple es k p2] X.env = (false, eval e X.env) :: starEach [.Tuple es k p2] X.env) :
    PE X (.Call (.Name "isinstance" p) [e, .Tuple es k p2] [] pos) (tE g W fun env M => (fa env M).bnd fun w M1 => ofB (isTys Q M1 w ts) M1) := by
  have hp : PA X [e, .Tuple es k p2] _ := pa_cons ha (pa_cons (pe_tup hT.pa) pa_nil) he
  refine PE.weak (pe_callB (CallR.or call_isiT (call_isiTD gx)) hg hm PyProof.Rows.boot_isinstance hp (by decide) (by decide) he rfl) fun σ H Q' h => ?_
  refine (tI.bnd (rel1 := relW g) (k := fun _ w M1 => ofB (isTys Q M1 w ts) M1) h).mono fun v H1 ⟨ρ1, M1, env, w, a, b, c, d⟩ => ?_
  refine hT.run σ H1 _ ⟨by rw [hT.len, ← big_line]; exact Nat.le_trans hl (by decide), fun tp hp => ?_⟩
  obtain ⟨x, hx, q⟩ := post_ofB d
  obtain ⟨m, hm'⟩ := isTys_nm hT h0 hx
  have b' := b.same (same_upd (o := .tup cs) hp)
  have c' : RelW g.K ρ1 (upd H1 tp (.tup cs)) w v := RelW.mono (List.prefix_refl _) (TK.same (same_upd hp)) _ _ c
  have fin := q ρ1 _ _ (Stp.same (same_upd (o := .tup cs) hp)) b' (show RelW g.K ρ1 _ (.p (.bl x)) (.bl x) by simp [RelW, RelP])
  rcases ty_of b' c' hm' with h3 | ⟨rfl, p3, es3, rfl, h3⟩
  · exact .inl ⟨v, tp, cs, .type m, us, x, rfl, upd_same, hT.cls, by rw [← gx.K]; exact h3, hT.any hm' hx, fin⟩
  · exact .inr ⟨p3, es3, tp, cs, us, x, rfl, h3, upd_same, hT.cls, hT.any hm' hx, fin⟩
end
end Mi

namespace Mi
open PySem PySem.Spec PyProof.Rows L2

section
variable {g : G} {ρ ρ' : List Addr} {M M' : Hm} {H H' : Hp}
theorem Sim.off {D : Addr} {u : HO} (s : Sim g ρ M H) (hD : D ∉ ρ) (hs : ∀ v, H D = some v → ¬ Still v) : Sim g ρ M (upd H D u) := by
  have tk : TK H (upd H D u) := fun b v e' st => by
    rw [upd_ne (fun z => by subst z; exact hs v e' st)]; exact e'
  refine ⟨s.len, s.nd, fun i o e => ?_⟩
  obtain ⟨a, h1, h2⟩ := s.ob i o e
  exact ⟨a, h1, OkO.mono (List.prefix_refl _) tk h2 (upd_ne fun z => hD (z ▸ List.mem_of_getElem? h1))⟩
theorem tk_off {D : Addr} {u : HO} (hs : ∀ v, H D = some v → ¬ Still v) : TK H (upd H D u) := fun b v e' st => by
  rw [upd_ne (fun z => by subst z; exact hs v e' st)]; exact e'
theorem Stp.off {D : Addr} {u : HO} (t : Stp ρ H ρ' H') (hD : H D = none) : Stp ρ H ρ' (upd H' D u) :=
  ⟨t.pre, t.new, fun b o e q => by rw [upd_ne fun z => by subst z; rw [hD] at e; cases e]; exact t.keep b o e q⟩
theorem Stp.none {D : Addr} (t : Stp ρ H ρ' H') (hD : H' D = none) (hr : D ∉ ρ') : H D = Option.none := by
  cases e : H D with
  | none => rfl
  | some o =>
    have := t.keep D o e (.inl fun z => hr (t.pre.subset z))
    rw [hD] at this
    cases this
end
def condF (cs : List (En → Hm → R Mi.W)) (σ : En) (M : Hm) : R Mi.W := match cs with
  | [] => .ok (.p (.bl true)) M
  | [c] => tidy M (c σ M)
  | _ => .bad
def lcF (pt : Pt) (own : List Nat) (cs : List (En → Hm → R Mi.W)) (fe : En → Hm → R Mi.W) (σ : En) : Mi.W → Hm → R (Option Mi.W) := fun w M3 => match bindPt M3 pt w (own.foldr (fun i s => s.set i none) σ) with
  | some σ' => (condF cs σ' M3).bnd fun b M4 => match b with
    | .p (.bl true) => (tidy M4 (fe σ' M4)).bnd fun v M5 => .ok (some v) M5
    | .p (.bl false) => .ok none M4
    | _ => .bad
  | none => .bad
section
variable {X : Cx} {g : G} {W : WX}
abbrev W0 : WX := fun _ _ _ _ => False
theorem relEn_wipe {K : PySem.W.Frag} {ρ : List Addr} {H : Hp} {env : En} {σ : L2.St} (h : RelEn K ρ H env σ) : ∀ vs : List Nat, RelEn K ρ H (vs.foldr (fun i s => s.set i none) env) (wipe σ vs)
  | [] => h
  | v :: vs => (relEn_wipe h vs).wipe1
theorem post_tidyT {σ : L2.St} {ρ : List Addr} {M : Hm} {H : Hp} {r : R Mi.W} {Q : Bool → Hp → Prop} (s0 : Sim g ρ M H) (h : PostE g W σ ρ H (testR (tidy M r)) relE Q) : PostE g W σ ρ H (testR r) relE Q := by
  cases r with
  | bad => exact h
  | err c fs M1 =>
    simp only [tidy] at h
    split at h
    · rename_i e
      exact fun ρ' H' d t s x => h ρ H' d (stp_cut t) (Sim.cut s0 t s e) x
    · exact h
  | ok w M1 =>
    cases w with
    | p x =>
      rw [tidy_p] at h
      cases x with
      | bl d =>
        intro ρ' H' v t s e
        cases e
        split at h
        · rename_i e
          exact h ρ H' d (stp_cut t) (Sim.cut s0 t s e) rfl
        · exact h ρ' H' d t s rfl
      | _ => split at h <;> exact h.elim
    | ref n =>
      obtain ⟨n', M', e⟩ := tidy_ref (M0 := M) (M1 := M1) (n := n)
      rw [e] at h
      exact h.elim
    | tup ws =>
      rw [tidy_tup] at h
      exact h.elim
    | fl ws =>
      obtain ⟨M', e⟩ := tidy_fl (M0 := M) (M1 := M1) (xs := ws)
      rw [e] at h
      exact h.elim
inductive CondX (X : Cx) (g : G) : List Expr → List (En → Hm → R Mi.W) → Prop
  | nil : CondX X g [] []
  | one {c : Expr} {f : En → Hm → R Mi.W} (h : PT X c (tB' g W0 f)) : CondX X g [c] [f]
theorem cond_ok {ifs : List Expr} {cs : List (En → Hm → R Mi.W)} (h : CondX X g ifs cs) : PTs X ifs (fun σ H Q => ∃ ρ M env, RelEn g.K ρ H env σ ∧ Sim g ρ M H ∧ PostE g W0 σ ρ H (testR (condF cs env M)) relE Q) := by
  cases h with
  | nil => exact ⟨fun pins s σ H Q I ⟨ρ, M, env, a, b, c⟩ => pts_nil.run pins s σ H Q I (c ρ H true (Stp.refl _ _) b rfl)⟩
  | one h => exact ⟨fun pins s σ H Q I ⟨ρ, M, env, a, b, c⟩ => (pts_one h).run pins s σ H Q I ⟨ρ, M, env, a, b, post_tidyT b c⟩⟩
def lcV (p : Pt) (own : List Nat) (k : Ik) (fs : En → Hm → R (List Mi.W)) (cs : List (En → Hm → R Mi.W)) (fe : En → Hm → R Mi.W) : En → Hm → R Mi.W := fun env M => (fs env M).bnd fun ws M1 => match itemsOf k ws M1 with
      | some its => lcL (lcF p own cs fe env) (stays ((pinsOf ws).filter (· < (srcH M its M1).length)) (srcH M its M1)) its [] (srcH M its M1)
      | none => .bad
def tCond (g : G) (cs : List (En → Hm → R Mi.W)) : TT := fun σ H Q => ∃ ρ M env, RelEn g.K ρ H env σ ∧ Sim g ρ M H ∧ PostE g W0 σ ρ H (testR (condF cs env M)) relE Q
theorem lc_read {ownS : List (Str × Nat)} {p : Pt} {k : Ik} {fs : En → Hm → R (List Mi.W)} {cs : List (En → Hm → R Mi.W)} {fe : En → Hm → R Mi.W} (hown : ∀ i ∈ ptN p, i ∈ ownS.map (·.2)) {σ : L2.St} {H : Hp} {Q : VK}
    (h : tE g W (lcV p (ownS.map (·.2)) k fs cs fe) σ H Q) : tLc (tI' g W k fs) (gPt g p) (tCond g cs) (tE g W0 fe) (ownS.map (·.2)) σ H Q := by
  obtain ⟨ρ, M, env, a, b, q⟩ := h
  refine ⟨ρ, M, env, a, b, ?_⟩
  unfold lcV at q
  cases hr : fs env M with
  | bad => rw [hr] at q; exact q
  | err c fs M1 => rw [hr] at q; exact q
  | ok ws M1 =>
    rw [hr, Mi.R.bnd_ok] at q
    split at q
    · rename_i its e
      dsimp only [PostI]
      rw [e]
      dsimp only
      intro J H1 ρ1 Live t s S l D hD
      obtain ⟨okf, hok⟩ : ∃ okf, okf = stays ((pinsOf ws).filter (· < (srcH M its M1).length)) (srcH M its M1) := ⟨_, rfl⟩
      have ok0 : okf (srcH M its M1) = true := by rw [hok]; exact stays_self _ _
      rw [← hok] at S q
      have D1 : D ∉ ρ1 := s.out hD
      refine ⟨fun i m H => m = its.length - i ∧ i ≤ its.length ∧ ∃ ρ M accW accV, Stp ρ1 H1 ρ H ∧ Sim g ρ M H ∧ okf M = true ∧ H D = some (.lst accV) ∧ D ∉ ρ ∧ RelWs g.K ρ H accW accV ∧ PostE g W σ ρ1 H1 (lcL (lcF p (ownS.map (·.2)) cs fe env) okf (its.drop i) accW M) (relW g) Q,
        ⟨its.length, by simp, Nat.zero_le _, ρ1, _, [], [], (Stp.refl _ _).off hD, s.same (same_upd hD), ok0, upd_same, D1, by simp [RelWs], by rw [List.drop_zero]; exact PostE.later t q⟩, ?_⟩
      rintro i m H2 ⟨rfl, hi', ρ2, M2, accW, accV, t2, s2, ok2, hD2, nD2, ra, q2⟩
      have l2 := S.step l s t2 s2 ok2
      by_cases hlt : i < its.length
      · obtain ⟨g1, g2⟩ := S.go i l2 s2 hlt
        refine .inr ⟨g1, fun H' => ∃ ρ M accW accV, Stp ρ1 H1 ρ H' ∧ Sim g ρ M H' ∧ okf M = true ∧ H' D = some (.lst accV) ∧ D ∉ ρ ∧ RelWs g.K ρ H' accW accV ∧ PostE g W σ ρ1 H1 (lcL (lcF p (ownS.map (·.2)) cs fe env) okf (its.drop (i + 1)) accW M) (relW g) Q, fun H' h => ⟨its.length - (i + 1), by omega, rfl, hlt, h⟩, fun x H' y => ?_⟩
        obtain ⟨sm, w, e1, r1⟩ := g2 x H' y
        rw [List.drop_eq_getElem_cons hlt] at q2
        have e1' : its[i] = w := by rw [List.getElem?_eq_getElem hlt] at e1; exact Option.some.inj e1
        rw [e1'] at q2
        unfold lcL at q2
        have t3 : Stp ρ2 H2 ρ2 H' := Stp.same sm
        have s3 := s2.same sm
        have aw := relEn_wipe (a.later ((t.trans t2).trans t3)) (ownS.map (·.2))
        cases hb : bindPt M2 p w ((ownS.map (·.2)).foldr (fun i s => s.set i none) env) with
        | none =>
          unfold lcF at q2
          rw [hb] at q2
          exact q2.elim
        | some env' =>
          unfold lcF at q2
          rw [hb] at q2
          dsimp only at q2
          refine ⟨ρ2, M2, _, w, env', aw, s3, r1, hb, fun σ2 a2 ag => ⟨?_, ρ2, M2, env', a2, s3, ?_⟩⟩
          · have := ag.wipe hown
            rw [this]
            apply List.ext_getElem?
            intro j
            by_cases hj : j ∈ ownS.map (·.2)
            · have k : ∀ (σ : L2.St), (L2.wipe σ (ownS.map (·.2)))[j]? = if j < σ.length then some none else none := by
                intro σ
                have : ∀ (us : List Nat), j ∈ us → (L2.wipe σ us)[j]? = if j < σ.length then some none else none := by
                  intro us
                  induction us with
                  | nil => intro hm; simp at hm
                  | cons v vs ih =>
                    intro hm
                    unfold L2.wipe
                    by_cases hv : v = j
                    · subst hv
                      rw [List.getElem?_set_self']
                      by_cases hl : v < σ.length
                      · rw [if_pos hl, List.getElem?_eq_getElem (by rw [wipe_length]; exact hl)]; rfl
                      · rw [if_neg hl, List.getElem?_eq_none (by rw [wipe_length]; omega)]; rfl
                    · rw [List.getElem?_set_ne hv]
                      exact ih (by rcases List.mem_cons.mp hm with z | z; exact absurd z.symm hv; exact z)
                exact this _ hj
              rw [k, k, wipe_length]
            · rw [wipe_out hj]
          · cases hcd : condF cs env' M2 with
            | bad => rw [hcd] at q2; exact q2.elim
            | err _ _ _ => rw [hcd] at q2; exact q2.elim
            | ok bw M4 =>
              rw [hcd, Mi.R.bnd_ok] at q2
              cases bw with
              | p bx =>
                cases bx with
                | bl d =>
                  intro ρ4 H4 v4 t4 s4 e4
                  cases e4
                  have tt4 : Stp ρ1 H1 ρ4 H4 := t2.trans (t3.trans t4)
                  have hD3 : H' D = some (.lst accV) := sm D _ hD2
                  have hD4 : H4 D = some (.lst accV) := t4.keep D _ hD3 (.inl nD2)
                  have nD4 : D ∉ ρ4 := fun z => by
                    rcases t4.new D z with z | z
                    · exact nD2 z
                    · rw [hD3] at z; cases z
                  have ra4 : RelWs g.K ρ4 H4 accW accV := RelWs.mono (t3.trans t4).pre (t3.trans t4).tk _ _ ra
                  cases d with
                  | false =>
                    rw [if_neg (by decide)]
                    dsimp only at q2
                    split at q2
                    · rename_i ok4
                      exact ⟨ρ4, M4, accW, accV, tt4, s4, ok4, hD4, nD4, ra4, q2⟩
                    · exact q2.elim
                  | true =>
                    rw [if_pos rfl]
                    dsimp only at q2
                    cases hel : tidy M4 (fe env' M4) with
                    | bad => rw [hel] at q2; exact q2.elim
                    | err _ _ _ => rw [hel] at q2; exact q2.elim
                    | ok yw M5 =>
                      rw [hel, Mi.R.bnd_ok] at q2
                      dsimp only at q2
                      refine ⟨ρ4, M4, env', a2.later t4, s4, post_tidy s4 ?_⟩
                      rw [hel]
                      intro ρ5 H5 y5 t5 s5 r5
                      have hD5 : H5 D = some (.lst accV) := t5.keep D _ hD4 (.inl nD4)
                      have nD5 : D ∉ ρ5 := fun z => by
                        rcases t5.new D z with z | z
                        · exact nD4 z
                        · rw [hD4] at z; cases z
                      have ra5 : RelWs g.K ρ5 H5 accW accV := RelWs.mono t5.pre t5.tk _ _ ra4
                      have nst : ∀ v, H5 D = some v → ¬ Still v := fun v e st => by rw [hD5] at e; cases e; exact st
                      split at q2
                      · rename_i hok5
                        rw [Bool.and_eq_true, decide_eq_true_eq] at hok5
                        refine ⟨accV, hD5, by rw [← relWs_len ra5, ← big_line]; exact hok5.2, ρ5, M5, accW ++ [yw], accV ++ [y5], (tt4.trans t5).off hD, s5.off nD5 nst, hok5.1, upd_same, nD5, ?_, q2⟩
                        refine relWs_append (RelWs.mono (List.prefix_refl _) (tk_off nst) _ _ ra5) ?_
                        simp only [RelWs]
                        exact ⟨y5, [], rfl, RelW.mono (List.prefix_refl _) (tk_off nst) _ _ r5, rfl⟩
                      · exact q2.elim
                | _ => exact q2.elim
              | _ => exact q2.elim
      · have e1 : its.drop i = [] := List.drop_eq_nil_of_le (by omega)
        rw [e1] at q2
        refine .inl ⟨S.stop i l2 s2 (by omega), ?_⟩
        have st : Stp ρ1 H1 (ρ2 ++ [D]) H2 := ⟨t2.pre.trans (List.prefix_append _ _), fun b hb => by
          rcases List.mem_append.mp hb with z | z
          · exact t2.new b z
          · have : b = D := by simpa using z
            subst this
            exact .inr hD, t2.keep⟩
        refine q2 (ρ2 ++ [D]) H2 _ st (s2.adopt nD2 ⟨accV, hD2, RelWs.mono (List.prefix_append _ _) (TK.refl _) _ _ ra⟩) ?_
        exact rel_last s2 _
    · exact q.elim
theorem sd_lc {elt tg iter : Expr} {ifs : List Expr} {scope : Scope} {ownS : List (Str × Nat)} {pos : Pos} {p : Pt} {k : Ik} {fs : En → Hm → R (List Mi.W)} {cs : List (En → Hm → R Mi.W)} {fe : En → Hm → R Mi.W} (hc : X.calm = true) (hN : X.N.Nodup) (hi : PI X tg iter (tI' g W k fs)) (ok : BlkOk X.N X.env.scope scope ownS)
    (hg : ∀ (s : Shared) (H : Hp) (C : Addr) (cl : List (Str × Addr)) (fp : List Addr), PG (X.blk s H scope (compEnvC scope cl C X.env) fp) tg (gPt g p)) (ht : ∀ (s : Shared) (H : Hp) (C : Addr) (cl : List (Str × Addr)) (fp : List Addr), CondX (X.blk s H scope (compEnvC scope cl C X.env) fp) g ifs cs)
    (he : ∀ (s : Shared) (H : Hp) (C : Addr) (cl : List (Str × Addr)) (fp : List Addr), PE (X.blk s H scope (compEnvC scope cl C X.env) fp) elt (tE g W0 fe)) (hs : ∀ x, foldedSetIterable iter X.env x = pure x) (hown : ∀ i ∈ ptN p, i ∈ ownS.map (·.2)) :
    PE X (.ListComp elt [⟨tg, iter, ifs, 0⟩] scope pos) (tE g W (lcV p (ownS.map (·.2)) k fs cs fe)) :=
  PE.weak (pe_lc hc hN hi ok hg (fun s H C cl fp => cond_ok (ht s H C cl fp)) he hs) fun σ H Q h => lc_read hown h
theorem sd_setLc {i : Nat} {y : Str} {py : Pos} {elt tg iter : Expr} {ifs : List Expr} {scope : Scope} {ownS : List (Str × Nat)} {pos spos : Pos} {p : Pt} {k : Ik} {fs : En → Hm → R (List Mi.W)} {cs : List (En → Hm → R Mi.W)} {fe : En → Hm → R Mi.W} (hc : X.calm = true) (hN : X.N.Nodup) (hy : X.N[i]? = some y) (hyl : X.env.scope.names.lookup y = some .local)
    (hsw : swapsWith (.ListComp elt [⟨tg, iter, ifs, 0⟩] scope pos) (some (.Name y py)) spos.line X.env = pure true) (hi : PI X tg iter (tI' g W k fs)) (ok : BlkOk X.N X.env.scope scope ownS)
    (hg : ∀ (s : Shared) (H : Hp) (C : Addr) (cl : List (Str × Addr)) (fp : List Addr), PG (X.blk s H scope (compEnvC scope cl C X.env) fp) tg (gPt g p)) (ht : ∀ (s : Shared) (H : Hp) (C : Addr) (cl : List (Str × Addr)) (fp : List Addr), CondX (X.blk s H scope (compEnvC scope cl C X.env) fp) g ifs cs)
    (he : ∀ (s : Shared) (H : Hp) (C : Addr) (cl : List (Str × Addr)) (fp : List Addr), PE (X.blk s H scope (compEnvC scope cl C X.env) fp) elt (tE g W0 fe)) (hs : ∀ x, foldedSetIterable iter X.env x = pure x) (hown : ∀ i ∈ ptN p, i ∈ ownS.map (·.2)) :
    PS X (.Assign [.Name y py] (.ListComp elt [⟨tg, iter, ifs, 0⟩] scope pos) spos) (tS g W fun env M => (tidy M (lcV p (ownS.map (·.2)) k fs cs fe env M)).toS env fun w M1 => match bindPt M1 (.name i) w env with
      | some env' => .nx env' M1
      | none => .bad) := by
  refine PS.weak (ps_setLc hc hN hy hyl hsw hi ok hg (fun s H C cl fp => cond_ok (ht s H C cl fp)) he hs) fun D σ H h => ?_
  refine lc_read hown ((toS_tE (f := lcV p (ownS.map (·.2)) k fs cs fe) (k := fun env w M1 => match bindPt M1 (.name i) w env with
      | some env' => .nx env' M1
      | none => .bad) h).mono fun v H1 ⟨ρ1, M1, env, w, a, b, r, q⟩ => ?_)
  simp only [bindPt] at q
  exact q ρ1 H1 _ (Stp.refl _ _) b (a.set r)
end
end Mi

namespace Mi
open PySem PySem.Spec PyProof.Rows L2

def RT.nm : RT → String
  | .list => "list"
  | .str => "str"
  | .dict => "dict"
def OpM (g : G) (r : V → List V → Hp → VK → Prop) (f : Mi.W → List Mi.W → Hm → R Mi.W) : Prop :=
  ∀ (W : WX) (σ : L2.St) (ρ : List Addr) (M : Hm) (H : Hp) (w : Mi.W) (ws : List Mi.W) (v : V) (vs : List V) (Q : VK), Sim g ρ M H → RelW g.K ρ H w v → RelWs g.K ρ H ws vs → PostE g W σ ρ H (f w ws M) (relW g) Q → r v vs H Q
def mF (fo : En → Hm → R Mi.W) (fs : En → Hm → R (List Mi.W)) (m : Mt) (T : RT) : En → Hm → R Mi.W := fun env M => (fo env M).bnd fun w M1 => if rcv M1 w = some T then (fs env M1).bnd fun ws M2 => mthV m T w ws M2 else .bad
def mAll (fo : En → Hm → R Mi.W) (fs : En → Hm → R (List Mi.W)) (m : Mt) : En → Hm → R Mi.W := fun env M => (fo env M).bnd fun w M1 => match rcv M1 w with
    | some T => if mthOk m T then (fs env M1).bnd fun ws M2 => mthV m T w ws M2 else .bad
    | none => .bad
section
variable {X : Cx} {g : G} {W : WX} {fo : En → Hm → R Mi.W} {fs : En → Hm → R (List Mi.W)}
theorem PE.or {e : Expr} {t t' : TE} (h : PE X e t) (h' : PE X e t') : PE X e (fun σ H Q => t σ H Q ∨ t' σ H Q) := ⟨fun pins s σ H Q I q => q.elim (h.run pins s σ H Q I) (h'.run pins s σ H Q I)⟩
theorem mAll_to {m : Mt} {σ : L2.St} {H : Hp} {Q : VK} (T0 : RT) (h : tE g W (mAll fo fs m) σ H Q) : tE g W (mF fo fs m T0) σ H Q ∨ ∃ T, mthOk m T = true ∧ tE g W (mF fo fs m T) σ H Q := by
  obtain ⟨ρ, M, env, a, b, c⟩ := h
  unfold mAll at c
  cases hr : fo env M with
  | bad => rw [hr] at c; exact c.elim
  | err cc f M1 =>
    rw [hr] at c
    refine .inl ⟨ρ, M, env, a, b, ?_⟩
    unfold mF
    rw [hr]
    exact c
  | ok w M1 =>
    rw [hr, Mi.R.bnd_ok] at c
    cases hT : rcv M1 w with
    | none => rw [hT] at c; exact c.elim
    | some T =>
      rw [hT] at c
      dsimp only at c
      by_cases ho : mthOk m T = true
      · rw [if_pos ho] at c
        refine .inr ⟨T, ho, ρ, M, env, a, b, ?_⟩
        unfold mF
        rw [hr, Mi.R.bnd_ok, if_pos hT]
        exact c
      · rw [if_neg ho] at c
        exact c.elim
theorem rcv_list {ρ : List Addr} {M : Hm} {H : Hp} {w : Mi.W} {v : V} (s : Sim g ρ M H) (r : RelW g.K ρ H w v) (h : rcv M w = some .list) : tyV g.K "list" v H := by
  unfold rcv at h
  split at h
  · cases h
  · split at h
    · rename_i xs e
      obtain ⟨p, us, rfl, _, h2, _⟩ := sim_lst s r e
      exact .inl ⟨rfl, us, .inl (.inl h2)⟩
    · cases h
    · cases h
  · cases h
theorem rcv_str {ρ : List Addr} {M : Hm} {H : Hp} {w : Mi.W} {v : V} (r : RelW g.K ρ H w v) (h : rcv M w = some .str) : tyV g.K "str" v H := by
  unfold rcv at h
  split at h
  · simp only [RelW, RelP] at r
    subst r
    rfl
  · split at h <;> cases h
  · cases h
theorem sd_bm {m : Mt} {T : RT} {name : Str} {id : String} {r : V → List V → Hp → VK → Prop} {o e : Expr} {es : List Expr} {apos cpos : Pos} (hK : g.K = X.K) (hT : ∀ {ρ : List Addr} {M : Hm} {H : Hp} {w : Mi.W} {v : V}, Sim g ρ M H → RelW g.K ρ H w v → rcv M w = some T → tyV g.K T.nm v H)
    (pa : PlainAttrs T.nm) (slot : Slot T.nm name id) (hty : typeOf (.builtin id) = pure (.type "method_descriptor")) (hm : MtR X id r) (hf : OpM g r (mthV m T)) (ho : PE X o (tE g W fo)) (ha : PA X (e :: es) (tA g W fs))
    (hbase : attributeBase o name X.env (eval o X.env) = eval o X.env) (hfew : ((backTo cpos (starEach (e :: es) X.env)).all (fun x => !x.1) && (backToKw cpos (keywordEach [] X.env)).all (fun x => x.1.isSome)
      && decide ((e :: es).length + ([] : List Keyword).length + (if ([] : List Keyword).isEmpty then 0 else 1) < 30)) = true)
    (hline : (apos.endLine == cpos.line) = true) (hs : starEach (e :: es) X.env = (false, eval e X.env) :: starEach es X.env) (hplain : (backTo cpos (starEach es X.env)).any (·.1) = false) :
    PE X (.Call (.Attribute o name apos) (e :: es) [] cpos) (tE g W (mF fo fs m T)) := by
  refine PE.weak (pe_bm pa slot hty hm ho ha hbase hfew hline hs hplain) fun σ H Q h => ?_
  refine (tI.bnd (rel1 := relW g) (k := fun env w M1 => if rcv M1 w = some T then (fs env M1).bnd fun ws M2 => mthV m T w ws M2 else .bad) h).mono fun v H1 ⟨ρ1, M1, env, w, a, b, c, d⟩ => ?_
  split at d
  · rename_i hr
    refine ⟨by rw [← hK]; exact hT b c hr, ρ1, M1, env, a, b, (PostE.bnd (rel1 := relWs g) d).mono fun us H2 ⟨ρ2, M2, ws, a2, b2, c2, d2⟩ => ?_⟩
    exact hf W σ ρ2 M2 H2 w ws v us Q b2 (RelW.mono a2.pre a2.tk _ _ c) c2 d2
  · exact d.elim
theorem sd_bm0 {m : Mt} {T : RT} {name : Str} {id : String} {r : V → List V → Hp → VK → Prop} {o : Expr} {apos cpos : Pos} (hK : g.K = X.K) (hT : ∀ {ρ : List Addr} {M : Hm} {H : Hp} {w : Mi.W} {v : V}, Sim g ρ M H → RelW g.K ρ H w v → rcv M w = some T → tyV g.K T.nm v H)
    (pa : PlainAttrs T.nm) (slot : Slot T.nm name id) (hty : typeOf (.builtin id) = pure (.type "method_descriptor")) (hm : MtR X id r) (hf : OpM g r (mthV m T)) (ho : PE X o (tE g W fo))
    (hbase : attributeBase o name X.env (eval o X.env) = eval o X.env) (hline : (apos.endLine == cpos.line) = true) :
    PE X (.Call (.Attribute o name apos) [] [] cpos) (tE g W (mF fo (fun _ M => .ok [] M) m T)) := by
  refine PE.weak (pe_bm0 pa slot hty hm ho hbase hline) fun σ H Q h => ?_
  refine (tI.bnd (rel1 := relW g) (k := fun env w M1 => if rcv M1 w = some T then (R.ok [] M1).bnd fun ws M2 => mthV m T w ws M2 else .bad) h).mono fun v H1 ⟨ρ1, M1, env, w, a, b, c, d⟩ => ?_
  split at d
  · rename_i hr
    exact ⟨by rw [← hK]; exact hT b c hr, hf W σ ρ1 M1 H1 w [] v [] Q b c (by simp [RelWs]) d⟩
  · exact d.elim

theorem post_set {σ : L2.St} {ρ : List Addr} {M : Hm} {H : Hp} {Q : VK} {k : Nat} {p : Addr} {xs : List Mi.W} {us0 us : List V} {w : Mi.W} {v : V} (s : Sim g ρ M H) (hp : ρ[k]? = some p) (h0 : H p = some (.lst us0)) (r : RelWs g.K ρ H xs us) (rw_ : RelW g.K ρ H w v) (q : PostE g W σ ρ H (.ok w (M.set k (.lst xs))) (relW g) Q) : Q v (upd H p (.lst us)) := by
  have hs : ∀ v, H p = some v → ¬ Still v := fun v e st => by rw [h0] at e; cases e; exact st
  have t := stp_write (u := .lst us) (List.mem_of_getElem? hp) hs
  exact q ρ _ v t (s.write hp hs ⟨us, upd_same, RelWs.mono t.pre t.tk _ _ r⟩) (RelW.mono t.pre t.tk _ _ rw_)
theorem om_append : OpM g rAppend appendF := by
  intro W σ ρ M H w ws v vs Q s rw_ rs q
  unfold appendF at q
  split at q
  · split at q
    · rename_i xs e
      split at q
      · rename_i hl
        obtain ⟨p, us, rfl, h1, h2, h3⟩ := sim_lst s rw_ e
        obtain ⟨y, rfl, ry⟩ := ws1 rs
        refine ⟨p, us, y, rfl, rfl, h2, by rw [← relWs_len h3, ← big_line]; exact hl, post_set s h1 h2 (relWs_append h3 rs) (by simp [RelW, RelP]) q⟩
      · exact q.elim
    · exact q.elim
  · exact q.elim
theorem om_clear : OpM g rClear clearF := by
  intro W σ ρ M H w ws v vs Q s rw_ rs q
  unfold clearF at q
  split at q
  · split at q
    · rename_i xs e
      obtain ⟨p, us, rfl, h1, h2, h3⟩ := sim_lst s rw_ e
      simp only [RelWs] at rs
      exact ⟨p, us, rfl, rs, h2, post_set s h1 h2 (by simp [RelWs]) (by simp [RelW, RelP]) q⟩
    · exact q.elim
  · exact q.elim
theorem om_extend : OpM g rExtend extendF := by
  intro W σ ρ M H w ws v vs Q s rw_ rs q
  unfold extendF at q
  split at q
  · split at q
    · rename_i xs ys e e2
      split at q
      · rename_i hl
        obtain ⟨p, us, rfl, h1, h2, h3⟩ := sim_lst s rw_ e
        obtain ⟨y, rfl, ry⟩ := ws1 rs
        obtain ⟨p2, us2, rfl, h4, h5, h6⟩ := sim_lst s ry e2
        exact ⟨p, p2, us, us2, rfl, rfl, h2, h5, by rw [← relWs_len h3, ← relWs_len h6, ← big_line]; exact hl, post_set s h1 h2 (relWs_append h3 h6) (by simp [RelW, RelP]) q⟩
      · exact q.elim
    · exact q.elim
  · exact q.elim
theorem relWs_dropLast {K : PySem.W.Frag} {ρ : List Addr} {H : Hp} {ws : List Mi.W} {us : List V} (h : RelWs K ρ H ws us) : RelWs K ρ H ws.dropLast us.dropLast := by
  rw [List.dropLast_eq_take, List.dropLast_eq_take, relWs_len h]
  exact relWs_take _ h
theorem om_pop : OpM g rPop popF := by
  intro W σ ρ M H w ws v vs Q s rw_ rs q
  unfold popF at q
  split at q
  · split at q
    · rename_i xs e
      split at q
      · rename_i y ey
        obtain ⟨p, us, rfl, h1, h2, h3⟩ := sim_lst s rw_ e
        simp only [RelWs] at rs
        obtain ⟨u, h4, h5⟩ := relWs_get h3 ey
        exact ⟨p, us, u, rfl, rs, h2, by rw [← relWs_len h3]; exact h4, post_set s h1 h2 (relWs_dropLast h3) h5 q⟩
      · exact q.elim
    · exact q.elim
  · exact q.elim
end
end Mi

namespace Mi
open PySem PySem.Spec PyProof.Rows L2

def leB (x y : P × V) : Bool := !ltP y.1 x.1
theorem leB_eq (x y : P × V) : PySem.W.dataLe false (fun b : P × V => b.1.toD) x y = leB x y := rfl
def rSortD (K : PySem.W.Frag) : List V → Hp → VK → Prop := fun vs H Q => ∃ (a : Addr) (bs : List (P × V)), vs = [V.ref a] ∧ SqL K H a (bs.map (·.2)) ∧ (∀ b ∈ bs, Dp K H b.2 b.1.toD ∧ b.1.toD.depth ≤ 100) ∧
  PySem.W.AllAlike (bs.map fun b => b.1.toD) ∧ PySem.W.Sortable (bs.map fun b => b.1.toD) ∧ bs.length ≤ sizeLine ∧ ∀ p, H p = none → Q (.ref p) (upd H p (.lst ((bs.mergeSort leB).map (·.2))))
theorem each_vals : ∀ {bs : List (P × V)} {us : List Value}, Vals (bs.map (·.2)) us → PySem.W.EachIs (fun (v : Value) (b : P × V) => L2.RelV b.2 v) us bs
  | [], _, .nil => .nil
  | _ :: _, _, .cons r h => .cons r (each_vals h)
theorem vals_each : ∀ {bs : List (P × V)} {us : List Value}, PySem.W.EachIs (fun (v : Value) (b : P × V) => L2.RelV b.2 v) us bs → Vals (bs.map (·.2)) us
  | _, _, .nil => .nil
  | _, _, .cons r h => .cons r (vals_each h)
theorem each_dp {X : Cx} {pins : List (Addr × Obj)} {σ : L2.St} {H : Hp} {s : Shared} (I : Inv X pins σ H s) : ∀ {bs : List (P × V)} {us : List Value}, (∀ b ∈ bs, Dp X.K H b.2 b.1.toD) → Vals (bs.map (·.2)) us → PySem.W.EachIs (fun (v : Value) (b : P × V) => ∃ as, Reads s.heap v b.1.toD as) us bs
  | [], _, _, .nil => .nil
  | b :: bs, _, h, .cons r t => .cons (Dp.reads I _ _ _ (h b List.mem_cons_self) r) (each_dp I (fun c hc => h c (List.mem_cons_of_mem _ hc)) t)
section
variable {X : Cx} {g : G} {W : WX}
theorem cr_sortD (hu : X.A.units + 200 < cLine) : CallR X (.builtin "sorted") (rSortD X.K) := by
  intro pins s σ H vs us Q I r ⟨a, bs, h1, h2, h3, h4, h5, h6, q⟩
  subst h1
  obtain ⟨its, rv, hl, _⟩ := I.list h2
  rw [Vals.ref1 r]
  refine PySem.W.sorted_data (enc := fun b : P × V => b.1.toD) hl.isList (each_vals rv) (each_dp I (fun b hb => (h3 b hb).1) rv) h4 h5 h6 (fun b hb => by have := (h3 b hb).2; omega) fun out ho eo => ?_
  obtain ⟨ep, he'⟩ := PyProof.Rows.sortedAll_at s.heap its out.toArray
  have hv := vals_each eo
  have hlen : ((bs.mergeSort leB).map (·.2)).length ≤ sizeLine := by rw [List.length_map, List.length_mergeSort]; exact h6
  exact ⟨.ref _, upd H (s.heap.objs.size + 1) (.lst ((bs.mergeSort leB).map (·.2))), I.laid (t' := s.toks) (fun _ _ => PyProof.Rows.sortedAll_old) (Nat.le_succ _) ⟨hlen, out, ep, hv, he'⟩, rfl, q _ (I.hok.fresh (Nat.le_succ _))⟩
theorem zip_snd {α β : Type} : ∀ (xs : List α) (us : List β), xs.length = us.length → (xs.zip us).map (·.2) = us ∧ (xs.zip us).map (·.1) = xs
  | [], [], _ => ⟨rfl, rfl⟩
  | [], _ :: _, h => by simp at h
  | _ :: _, [], h => by simp at h
  | x :: xs, u :: us, h => by
    obtain ⟨h1, h2⟩ := zip_snd xs us (by simpa using h)
    exact ⟨by rw [List.zip_cons_cons, List.map_cons, h1], by rw [List.zip_cons_cons, List.map_cons, h2]⟩
theorem relPs_zip {K : PySem.W.Frag} {H : Hp} : ∀ {xs : List P} {us : List V}, RelPs K H xs us → ∀ b ∈ xs.zip us, RelP K H b.1 b.2
  | [], us, _, b, hb => by simp at hb
  | x :: xs, us, h, b, hb => by
    simp only [RelPs] at h
    obtain ⟨u, r, rfl, h1, h2⟩ := h
    rw [List.zip_cons_cons] at hb
    rcases List.mem_cons.mp hb with rfl | hb
    · exact h1
    · exact relPs_zip h2 b hb
theorem relPs_pairs {K : PySem.W.Frag} {H : Hp} : ∀ {l : List (P × V)}, (∀ b ∈ l, RelP K H b.1 b.2) → RelPs K H (l.map (·.1)) (l.map (·.2))
  | [], _ => by simp [RelPs]
  | b :: l, h => by
    simp only [List.map_cons, RelPs]
    exact ⟨b.2, l.map (·.2), rfl, h b List.mem_cons_self, relPs_pairs fun c hc => h c (List.mem_cons_of_mem _ hc)⟩
theorem pures_len {ws : List Mi.W} {xs : List P} (h : pures ws = some xs) : ws.length = xs.length := by rw [pures_some h, List.length_map]
theorem lst_pure {ρ : List Addr} {M : Hm} {H : Hp} {w : Mi.W} {v : V} {xs : List P} (s : Sim g ρ M H) (r : RelW g.K ρ H w v) (h : pureLst M w = some xs) : ∃ p us, v = .ref p ∧ SqL g.K H p us ∧ RelPs g.K H xs us := by
  unfold pureLst at h
  split at h
  · cases h; exact fl_rel r
  · split at h
    · rename_i ws e
      obtain ⟨p, us, rfl, _, h2, h3⟩ := sim_lst s r e
      have := pures_some h
      subst this
      exact ⟨p, us, rfl, .inl (.inl h2), (relPs_of _ _).mp h3⟩
    · cases h
  · cases h
theorem alike_of {xs : List P} (h : allAlike xs = true) : ∀ x ∈ xs, ∀ y ∈ xs, PySem.W.alike x.toD y.toD = true ∧ x.toD ≠ .none := by
  unfold allAlike at h
  rw [List.all_eq_true] at h
  intro x hx y hy
  have := h x hx
  rw [List.all_eq_true] at this
  have := this y hy
  unfold alikeP at this
  rw [Bool.and_eq_true] at this
  refine ⟨this.1, fun e => ?_⟩
  cases x <;> simp_all [P.toD]
theorem sortable_of {xs : List P} (h : sortable xs = true) : PySem.W.Sortable (xs.map P.toD) := by
  unfold sortable at h
  rw [Bool.or_eq_true, List.all_eq_true, List.all_eq_true] at h
  rcases h with h | h
  · refine .inl fun d hd => ?_
    obtain ⟨x, hx, rfl⟩ := List.mem_map.mp hd
    have := h x hx
    cases x with
    | tup l =>
      cases l with
      | nil => simp [P.isTup] at this
      | cons a l => exact ⟨a.toD, P.toDs l, by simp [P.toD, P.toDs]⟩
    | _ => simp [P.isTup] at this
  · refine .inr fun d hd => ?_
    obtain ⟨x, hx, rfl⟩ := List.mem_map.mp hd
    have := h x hx
    cases x <;> simp_all [P.isAtom, P.toD]
theorem os_sorted : OpB g (fun xs H Q => (∃ (a : Addr) (us : List V), xs = [V.ref a] ∧ SqL g.K H a us ∧ sizeLine < us.length) ∨ rSortD g.K xs H Q) sortedLF := by
  intro W σ ρ M H ws vs Q s r q
  unfold sortedLF at q
  split at q
  · rename_i w
    obtain ⟨v, rfl, r1⟩ := ws1 r
    split at q
    · rename_i xs e
      split at q
      · rename_i hc
        rw [Bool.and_eq_true, Bool.and_eq_true] at hc
        obtain ⟨p, us, rfl, h1, h2⟩ := lst_pure s r1 e
        have hl : xs.length = us.length := by
          have := relWs_len ((relPs_of (ρ := ρ) xs us).mpr h2)
          simpa using this
        obtain ⟨z1, z2⟩ := zip_snd xs us hl
        by_cases hz : us.length ≤ sizeLine
        · refine .inr ⟨p, xs.zip us, rfl, by rw [z1]; exact h1, fun b hb => ⟨dp_P _ _ (relPs_zip h2 b hb), ?_⟩, ?_, ?_, ?_, fun a ha => ?_⟩
          · have hd := hc.1.2
            unfold depthOk at hd
            rw [List.all_eq_true] at hd
            simpa using hd b.1 (List.of_mem_zip hb).1
          · have : ((xs.zip us).map fun b => b.1.toD) = xs.map P.toD := by rw [show ((xs.zip us).map fun b => b.1.toD) = ((xs.zip us).map (·.1)).map P.toD by rw [List.map_map]; rfl, z2]
            rw [this]
            intro d hd d' hd'
            obtain ⟨x, hx, rfl⟩ := List.mem_map.mp hd
            obtain ⟨y, hy, rfl⟩ := List.mem_map.mp hd'
            exact (alike_of hc.1.1 x hx y hy).1
          · have : ((xs.zip us).map fun b => b.1.toD) = xs.map P.toD := by rw [show ((xs.zip us).map fun b => b.1.toD) = ((xs.zip us).map (·.1)).map P.toD by rw [List.map_map]; rfl, z2]
            rw [this]
            exact sortable_of hc.2
          · rw [List.length_zip, hl, Nat.min_self]; exact hz
          · have hs : sortP xs = ((xs.zip us).mergeSort leB).map (·.1) := by
              unfold sortP
              have e := List.map_mergeSort (r := leB) (s := fun x y => !ltP y x) (f := Prod.fst) (l := xs.zip us) (fun a _ b _ => rfl)
              rw [e]
              rw [show List.map Prod.fst (xs.zip us) = xs from z2]
            refine post_newL s q ha ?_
            rw [hs]
            refine (relPs_of _ _).mpr (relPs_pairs fun b hb => relPs_zip h2 b (List.mem_mergeSort.mp hb))
        · exact .inl ⟨p, us, rfl, h1, by omega⟩
      · exact q.elim
    · exact q.elim
  · exact q.elim
theorem cr_long : CallR X (.builtin "sorted") (fun xs H Q => ∃ (a : Addr) (us : List V), xs = [V.ref a] ∧ SqL X.K H a us ∧ sizeLine < us.length) := by
  intro pins s σ H vs us Q I r ⟨a, ys, _, h2, h3⟩
  obtain ⟨_, _, _, h4⟩ := I.list h2
  omega

theorem seq_rel {ρ : List Addr} {M : Hm} {H : Hp} {w : Mi.W} {v : V} {ws : List Mi.W} (s : Sim g ρ M H) (r : RelW g.K ρ H w v) (h : seqOf M w = some ws) : ∃ p us, v = .ref p ∧ RelWs g.K ρ H ws us ∧ (SqL g.K H p us ∨ SqT g.K H p us) := by
  unfold seqOf at h
  split at h
  · cases h
    obtain ⟨p, us, rfl, h1, h2⟩ := tup_rel r rfl
    exact ⟨p, us, rfl, h2, .inr h1⟩
  · cases h
    obtain ⟨p, us, rfl, h1, h2⟩ := tup_rel r rfl
    exact ⟨p, us, rfl, h2, .inr h1⟩
  · split at h
    · rename_i xs e
      cases h
      obtain ⟨p, us, rfl, _, h2, h3⟩ := sim_lst s r e
      exact ⟨p, us, rfl, h3, .inl (.inl (.inl h2))⟩
    · cases h
  · cases h
    obtain ⟨p, us, rfl, h1, h2⟩ := fl_rel r
    exact ⟨p, us, rfl, (relPs_of _ _).mpr h2, .inl h1⟩
  · cases h
theorem os_list : OpB g (fun xs H Q => ∃ p ys, xs = [.ref p] ∧ (SqL g.K H p ys ∨ SqT g.K H p ys) ∧ ∀ l, H l = none → Q (.ref l) (upd H l (.lst ys))) listF := by
  intro W σ ρ M H ws vs Q s r q
  unfold listF at q
  split at q
  · obtain ⟨v, rfl, r1⟩ := ws1 r
    split at q
    · rename_i xs e
      obtain ⟨p, us, rfl, h1, h2⟩ := seq_rel s r1 e
      exact ⟨p, us, rfl, h2, fun l hl => post_newL s q hl h1⟩
    · exact q.elim
  · exact q.elim
theorem os_tuple : OpB g (fun xs H Q => ∃ p ys, xs = [.ref p] ∧ ((SqL g.K H p ys ∧ ∀ l, H l = none → Q (.ref l) (upd H l (.tup ys))) ∨ (SqT g.K H p ys ∧ Q (.ref p) H))) tupleF := by
  intro W σ ρ M H ws vs Q s r q
  unfold tupleF at q
  split at q
  · obtain ⟨v, rfl, r1⟩ := ws1 r
    split at q
    · rename_i xs e
      obtain ⟨p, us, rfl, h1, h2⟩ := seq_rel s r1 e
      rcases h2 with h2 | h2
      · refine ⟨p, us, rfl, .inl ⟨h2, fun l hl => ?_⟩⟩
        have tk := TK.same (same_upd (o := .tup us) hl)
        exact q ρ _ _ (Stp.same (same_upd hl)) (s.same (same_upd hl)) (relW_mkTup (.inl (.inl upd_same)) (RelWs.mono (List.prefix_refl _) tk _ _ h1))
      · exact ⟨p, us, rfl, .inr ⟨h2, post_w s q (relW_mkTup h2 h1)⟩⟩
    · exact q.elim
  · exact q.elim
theorem os_int : OpB g (fun xs H Q => (∃ i, xs = [.int i] ∧ Q (.int i) H) ∨ ∃ k, xs = [.bl k] ∧ Q (.int (if k then 1 else 0)) H) intF := by
  intro W σ ρ M H ws vs Q s r q
  unfold intF at q
  split at q
  · obtain ⟨v, rfl, r1⟩ := ws1 r
    simp only [RelW, RelP] at r1
    subst r1
    exact .inl ⟨_, rfl, post_p s q (by simp [RelP])⟩
  · obtain ⟨v, rfl, r1⟩ := ws1 r
    simp only [RelW, RelP] at r1
    subst r1
    exact .inr ⟨_, rfl, post_p s q (by simp [RelP])⟩
  · exact q.elim
theorem os_str : OpB g (fun xs H Q => ∃ i, xs = [.int i] ∧ i.natAbs.log2 < 1920 ∧ Q (.str (toString i)) H) strF := by
  intro W σ ρ M H ws vs Q s r q
  unfold strF at q
  split at q
  · split at q
    · rename_i hl
      obtain ⟨v, rfl, r1⟩ := ws1 r
      simp only [RelW, RelP] at r1
      subst r1
      exact ⟨_, rfl, hl, post_p s q (by simp [RelP, strInt])⟩
    · exact q.elim
  · exact q.elim

theorem toDs_map : ∀ xs : List P, P.toDs xs = xs.map P.toD
  | [] => rfl
  | x :: xs => by rw [P.toDs, toDs_map xs]; rfl
theorem pure_seq {ρ : List Addr} {M : Hm} {H : Hp} {w : Mi.W} {v : V} {xs : List P} (s : Sim g ρ M H) (r : RelW g.K ρ H w v) (h : pureSeq M w = some xs) : ∃ p us, v = .ref p ∧ (SqL g.K H p us ∨ SqT g.K H p us) ∧ RelPs g.K H xs us := by
  unfold pureSeq at h
  rw [Option.bind_eq_some_iff] at h
  obtain ⟨ws, e, h⟩ := h
  obtain ⟨p, us, rfl, h1, h2⟩ := seq_rel s r e
  have := pures_some h
  subst this
  exact ⟨p, us, rfl, h2, (relPs_of _ _).mp h1⟩
theorem minP_in : ∀ (x : P) (xs : List P), minP x xs ∈ x :: xs
  | x, [] => by simp [minP]
  | x, y :: xs => by
    unfold minP
    split
    · exact List.mem_cons_of_mem _ (minP_in y xs)
    · rcases List.mem_cons.mp (minP_in x xs) with h | h
      · rw [h]; simp
      · exact List.mem_cons_of_mem _ (List.mem_cons_of_mem _ h)
theorem minP_D : ∀ (x : P) (xs : List P), (minP x xs).toD = PySem.W.minD x.toD (xs.map P.toD)
  | x, [] => rfl
  | x, y :: xs => by
    unfold minP PySem.W.minD
    rw [List.map_cons, List.foldl_cons]
    by_cases h : ltP y x = true
    · rw [if_pos h, minP_D y xs]
      have h' : PySem.W.dataLt y.toD x.toD = true := h
      rw [if_pos h']
      rfl
    · rw [if_neg h, minP_D x xs]
      have h' : ¬ PySem.W.dataLt y.toD x.toD = true := h
      rw [if_neg h']
      rfl
theorem maxP_D : ∀ (x : P) (xs : List P), (maxP x xs).toD = PySem.W.maxD x.toD (xs.map P.toD)
  | x, [] => rfl
  | x, y :: xs => by
    unfold maxP PySem.W.maxD
    rw [List.map_cons, List.foldl_cons]
    by_cases h : ltP x y = true
    · rw [if_pos h, maxP_D y xs]
      have h' : PySem.W.dataLt x.toD y.toD = true := h
      rw [if_pos h']
      rfl
    · rw [if_neg h, maxP_D x xs]
      have h' : ¬ PySem.W.dataLt x.toD y.toD = true := h
      rw [if_neg h']
      rfl
mutual
theorem toD_inj : ∀ (x y : P), x.toD = y.toD → x = y
  | .non, y, h => by cases y <;> simp_all [P.toD]
  | .bl _, y, h => by cases y <;> simp_all [P.toD]
  | .int _, y, h => by cases y <;> simp_all [P.toD]
  | .str _, y, h => by cases y <;> simp_all [P.toD]
  | .tup a, y, h => by
    cases y with
    | tup b =>
      simp only [P.toD, PyData.tuple.injEq] at h
      rw [toDs_inj a b h]
    | _ => simp [P.toD] at h
theorem toDs_inj : ∀ (x y : List P), P.toDs x = P.toDs y → x = y
  | [], [], _ => rfl
  | [], _ :: _, h => by simp [P.toDs] at h
  | _ :: _, [], h => by simp [P.toDs] at h
  | a :: s, b :: t, h => by
    simp only [P.toDs, List.cons.injEq] at h
    rw [toD_inj a b h.1, toDs_inj s t h.2]
end
theorem depthAll_le : ∀ {xs : List P}, depthOk xs = true → PyData.depthAll (P.toDs xs) ≤ 100
  | [], _ => by simp [P.toDs, PyData.depthAll]
  | x :: xs, h => by
    unfold depthOk at h
    rw [List.all_cons, Bool.and_eq_true, decide_eq_true_eq] at h
    simp only [P.toDs, PyData.depthAll]
    have := depthAll_le (xs := xs) h.2
    omega
theorem alikeAll_of {xs : List P} (h : allAlike xs = true) : PySem.W.AlikeAll (P.toDs xs) := by
  rw [toDs_map]
  refine ⟨fun d hd d' hd' => ?_, fun d hd => ?_⟩
  · obtain ⟨x, hx, rfl⟩ := List.mem_map.mp hd
    obtain ⟨y, hy, rfl⟩ := List.mem_map.mp hd'
    exact (alike_of h x hx y hy).1
  · obtain ⟨x, hx, rfl⟩ := List.mem_map.mp hd
    exact (alike_of h x hx x hx).2
def rBest (K : PySem.W.Frag) (best : P → List P → P) : List V → Hp → VK → Prop := fun vs H Q => ∃ (a : Addr) (us : List V) (x : P) (xs : List P), vs = [V.ref a] ∧ (SqL K H a us ∨ SqT K H a us) ∧ RelPs K H (x :: xs) us ∧ allAlike (x :: xs) = true ∧ depthOk (x :: xs) = true ∧
  ∀ u, RelP K H (best x xs) u → Q u H
theorem relPs_at {K : PySem.W.Frag} {H : Hp} {xs : List P} {us : List V} (r : RelPs K H xs us) {i : Nat} {u : V} (h : us[i]? = some u) : ∃ y, xs[i]? = some y ∧ RelP K H y u := by
  have r' := (relPs_of (ρ := []) xs us).mpr r
  have hl := relWs_len r'
  have hi : i < xs.length := by
    have := (List.getElem?_eq_some_iff.mp h).1
    rw [List.length_map] at hl
    omega
  obtain ⟨u', h1, h2⟩ := relWs_get r' (show (xs.map Mi.W.p)[i]? = some (.p xs[i]) by rw [List.getElem?_map, List.getElem?_eq_getElem hi]; rfl)
  rw [h] at h1
  cases h1
  exact ⟨xs[i], List.getElem?_eq_getElem hi, by simpa [RelW] using h2⟩
theorem best_fin {pins : List (Addr × Obj)} {σ : L2.St} {H : Hp} {s : Shared} {Q : VK} {us : List V} {its : List Value} {xs : List P} {b : P} (I : Inv X pins σ H s) (rv : Vals us its) (rp : RelPs X.K H xs us) (q : ∀ u, RelP X.K H b u → Q u H) {i : Nat} {v : Value} {h' : Heap} {tk : Nat} {bs : List Addr} (hv : its.toArray[i]? = some v) (r : Reads h' v b.toD bs) (hk : ∀ b o, s.heap.get? b = some o → h'.get? b = some o) :
    EP X pins σ Q v { s with heap := h', toks := tk } := by
  have hv' : its[i]? = some v := by rw [← hv]; simp
  have hl := rv.length
  have hi : i < us.length := by
    have := (List.getElem?_eq_some_iff.mp hv').1
    omega
  obtain ⟨u', hu', ru⟩ := rv.get (List.getElem?_eq_getElem hi)
  rw [hv'] at hu'
  cases hu'
  obtain ⟨y, hy, ry⟩ := relPs_at rp (List.getElem?_eq_getElem hi)
  obtain ⟨as, r2⟩ := Dp.reads I y.toD us[i] v (dp_P y _ ry) ru
  have e := PySem.SeqAt.plain_unique y.toD b.toD v as bs (dp_plain _ _ (dp_P y _ ry)) (PyProof.Rows.Reads.keeps hk r2) r
  rw [toD_inj _ _ e] at ry
  exact ⟨us[i], H, I.kept hk, ru, q _ ry⟩
theorem cr_minD (hc : X.calm = true) (hu : X.A.units + 200 < cLine) : CallR X (.builtin "min") (rBest X.K minP) := by
  intro pins s σ H vs us Q I r ⟨a, ys, x, xs, h1, h2, h3, h4, h5, q⟩
  subst h1
  rw [Vals.ref1 r]
  have hd := depthAll_le h5
  have al := alikeAll_of h4
  rcases h2 with h2 | h2
  · obtain ⟨its, rv, hl, _⟩ := I.list h2
    obtain ⟨as, ra⟩ := Dp.readsAll I _ _ _ (dp_Ps _ _ h3) rv
    refine PySem.W.min_list_data (x := x.toD) (xs := P.toDs xs) (I.ok.hd hc) hl.isList ra al (by have : PyData.depthAll (x.toD :: P.toDs xs) ≤ 100 := hd; omega) fun i v h' tk bs hv rd hk => ?_
    exact best_fin I rv h3 q hv (by rw [minP_D, ← toDs_map]; exact rd) hk
  · obtain ⟨its, rv, hl, _⟩ := I.tuple h2
    obtain ⟨as, ra⟩ := Dp.readsAll I _ _ _ (dp_Ps _ _ h3) rv
    refine PySem.W.min_tuple_data (x := x.toD) (xs := P.toDs xs) (I.ok.hd hc) (show s.heap.IsTuple a its.toArray from hl) ra al (by have : PyData.depthAll (x.toD :: P.toDs xs) ≤ 100 := hd; omega) fun i v h' tk bs hv rd hk => ?_
    exact best_fin I rv h3 q hv (by rw [minP_D, ← toDs_map]; exact rd) hk
theorem cr_maxD (hc : X.calm = true) (hu : X.A.units + 200 < cLine) : CallR X (.builtin "max") (rBest X.K maxP) := by
  intro pins s σ H vs us Q I r ⟨a, ys, x, xs, h1, h2, h3, h4, h5, q⟩
  subst h1
  rw [Vals.ref1 r]
  have hd := depthAll_le h5
  have al := alikeAll_of h4
  rcases h2 with h2 | h2
  · obtain ⟨its, rv, hl, _⟩ := I.list h2
    obtain ⟨as, ra⟩ := Dp.readsAll I _ _ _ (dp_Ps _ _ h3) rv
    refine PySem.W.max_list_data (x := x.toD) (xs := P.toDs xs) (I.ok.hd hc) hl.isList ra al (by have : PyData.depthAll (x.toD :: P.toDs xs) ≤ 100 := hd; omega) fun i v h' tk bs hv rd hk => ?_
    exact best_fin I rv h3 q hv (by rw [maxP_D, ← toDs_map]; exact rd) hk
  · obtain ⟨its, rv, hl, _⟩ := I.tuple h2
    obtain ⟨as, ra⟩ := Dp.readsAll I _ _ _ (dp_Ps _ _ h3) rv
    refine PySem.W.max_tuple_data (x := x.toD) (xs := P.toDs xs) (I.ok.hd hc) (show s.heap.IsTuple a its.toArray from hl) ra al (by have : PyData.depthAll (x.toD :: P.toDs xs) ≤ 100 := hd; omega) fun i v h' tk bs hv rd hk => ?_
    exact best_fin I rv h3 q hv (by rw [maxP_D, ← toDs_map]; exact rd) hk
theorem os_min : OpB g (fun xs H Q => (∃ i j, xs = [.int i, .int j] ∧ Q (.int (if j < i then j else i)) H) ∨ rBest g.K minP xs H Q) minLF := by
  intro W σ ρ M H ws vs Q s r q
  unfold minLF at q
  split at q
  · obtain ⟨v, v', rfl, r1, r2⟩ := ws2 r
    simp only [RelW, RelP] at r1 r2
    subst r1 r2
    exact .inl ⟨_, _, rfl, post_p s q (by simp [RelP])⟩
  · obtain ⟨v, rfl, r1⟩ := ws1 r
    split at q
    · rename_i x xs e
      split at q
      · rename_i hc
        rw [Bool.and_eq_true] at hc
        obtain ⟨p, us, rfl, h1, h2⟩ := pure_seq s r1 e
        exact .inr ⟨p, us, x, xs, rfl, h1, h2, hc.1, hc.2, fun u hu => post_p s q hu⟩
      · exact q.elim
    · exact q.elim
  · exact q.elim
theorem os_max : OpB g (fun xs H Q => (∃ i j, xs = [.int i, .int j] ∧ Q (.int (if j > i then j else i)) H) ∨ rBest g.K maxP xs H Q) maxLF := by
  intro W σ ρ M H ws vs Q s r q
  unfold maxLF at q
  split at q
  · obtain ⟨v, v', rfl, r1, r2⟩ := ws2 r
    simp only [RelW, RelP] at r1 r2
    subst r1 r2
    exact .inl ⟨_, _, rfl, post_p s q (by simp [RelP])⟩
  · obtain ⟨v, rfl, r1⟩ := ws1 r
    split at q
    · rename_i x xs e
      split at q
      · rename_i hc
        rw [Bool.and_eq_true] at hc
        obtain ⟨p, us, rfl, h1, h2⟩ := pure_seq s r1 e
        exact .inr ⟨p, us, x, xs, rfl, h1, h2, hc.1, hc.2, fun u hu => post_p s q hu⟩
      · exact q.elim
    · exact q.elim
  · exact q.elim
theorem strs_rel {K : PySem.W.Frag} {ρ : List Addr} {H : Hp} : ∀ {ws : List Mi.W} {us : List V} {ys : List Str}, RelWs K ρ H ws us → strsOf ws = some ys → us = ys.map V.str
  | [], us, ys, r, h => by
    simp only [strsOf, Option.some.injEq] at h
    simp only [RelWs] at r
    subst h; subst r; rfl
  | w :: ws, us, ys, r, h => by
    simp only [RelWs] at r
    obtain ⟨u, t, rfl, r1, r2⟩ := r
    cases w with
    | p x =>
      cases x with
      | str x =>
        simp only [strsOf, Option.map_eq_some_iff] at h
        obtain ⟨zs, h1, rfl⟩ := h
        simp only [RelW, RelP] at r1
        rw [List.map_cons, strs_rel r2 h1, r1]
      | _ => simp [strsOf] at h
    | _ => simp [strsOf] at h
theorem om_join : OpM g (fun x xs H Q => ∃ a p, ∃ ys : List Str, x = .str a ∧ xs = [.ref p] ∧ (SqL g.K H p (ys.map V.str) ∨ SqT g.K H p (ys.map V.str)) ∧ (ys.map (·.length)).sum + ys.length * a.length ≤ 16777216 ∧ Q (.str (Txt.join a ys)) H) joinF := by
  intro W σ ρ M H w ws v vs Q s rw_ rs q
  unfold joinF at q
  split at q
  · split at q
    · rename_i ys e
      split at q
      · rename_i hl
        rw [Option.bind_eq_some_iff] at e
        obtain ⟨ws', e1, e2⟩ := e
        obtain ⟨y, rfl, ry⟩ := ws1 rs
        obtain ⟨p, us, rfl, h1, h2⟩ := seq_rel s ry e1
        have := strs_rel h1 e2
        subst this
        simp only [RelW, RelP] at rw_
        exact ⟨_, p, ys, rw_, rfl, h2, hl, post_p s q (by simp [RelP])⟩
      · exact q.elim
    · exact q.elim
  · exact q.elim
theorem om_upper : OpM g (fun x xs H Q => ∃ a, x = .str a ∧ xs = [] ∧ a.length ≤ 5592405 ∧ Q (.str (Txt.upper a)) H) upperF := by
  intro W σ ρ M H w ws v vs Q s rw_ rs q
  unfold upperF at q
  split at q
  · split at q
    · rename_i hl
      simp only [RelW, RelP] at rw_
      simp only [RelWs] at rs
      exact ⟨_, rw_, rs, hl, post_p s q (by simp [RelP])⟩
    · exact q.elim
  · exact q.elim
theorem sd_dct {pos : Pos} : PE X (.Dict [] [] pos) (tE g W fun _ M => newO (.dic []) M) := by
  refine PE.weak pe_dnewK fun σ H Q ⟨ρ, M, env, a, b, c⟩ p hp => ?_
  exact c (ρ ++ [p]) _ _ (stp_push hp) (b.push hp (.inl ⟨[], upd_same, by simp [RelKs]⟩)) (rel_last b _)
end
end Mi

namespace Mi
open PySem PySem.Spec PyProof.Rows L2

section
variable {g : G} {ρ : List Addr} {H : Hp}
theorem relKs_app : ∀ {kvs more : List (P × Mi.W)} {ks ms : List (Key × V)}, RelKs g.K ρ H kvs ks → RelKs g.K ρ H more ms → RelKs g.K ρ H (kvs ++ more) (ks ++ ms)
  | [], more, ks, ms, h, h' => by simp only [RelKs] at h; subst h; simpa using h'
  | q :: r, more, ks, ms, h, h' => by
    simp only [RelKs] at h
    obtain ⟨k, v, t, rfl, h1, h2, h3⟩ := h
    simp only [List.cons_append, RelKs]
    exact ⟨k, v, t ++ ms, rfl, h1, h2, relKs_app h3 h'⟩
theorem relTs_app : ∀ {kvs more : List (P × Mi.W)} {ks ms : List (NestedKey × Addr × V)}, RelTs g.K ρ H kvs ks → RelTs g.K ρ H more ms → RelTs g.K ρ H (kvs ++ more) (ks ++ ms)
  | [], more, ks, ms, h, h' => by simp only [RelTs] at h; subst h; simpa using h'
  | q :: r, more, ks, ms, h, h' => by
    simp only [RelTs] at h
    obtain ⟨k, b, v, t, rfl, h1, h0, h2, h3⟩ := h
    simp only [List.cons_append, RelTs]
    exact ⟨k, b, v, t ++ ms, rfl, h1, h0, h2, relTs_app h3 h'⟩
theorem relKs_any {y : P} {k : Key} (hy : keyK y = some k) : ∀ {kvs : List (P × Mi.W)} {ks : List (Key × V)}, RelKs g.K ρ H kvs ks → (kvs.any (·.1 = y)) = (ks.any fun kv => decide (kv.1 = k))
  | [], ks, h => by simp only [RelKs] at h; subst h; rfl
  | q :: r, ks, h => by
    simp only [RelKs] at h
    obtain ⟨k', v, t, rfl, h1, h2, h3⟩ := h
    rw [List.any_cons, List.any_cons, relKs_any hy h3]
    congr 1
    by_cases e : q.1 = y
    · have : k' = k := by rw [e, hy] at h1; exact (Option.some.inj h1).symm
      simp [e, this]
    · have : k' ≠ k := fun z => e (keyK_inj (z ▸ h1) hy)
      simp [e, this]
theorem relKs_map {y : P} {k : Key} {w : Mi.W} {v : V} (hy : keyK y = some k) (r : RelW g.K ρ H w v) : ∀ {kvs : List (P × Mi.W)} {ks : List (Key × V)}, RelKs g.K ρ H kvs ks → RelKs g.K ρ H (kvs.map fun q => if q.1 = y then (y, w) else q) (ks.map fun kv => if kv.1 = k then (kv.1, v) else kv)
  | [], ks, h => by simp only [RelKs] at h; subst h; simp [RelKs]
  | q :: t, ks, h => by
    simp only [RelKs] at h
    obtain ⟨k', v', t', rfl, h1, h2, h3⟩ := h
    simp only [List.map_cons, RelKs]
    by_cases e : q.1 = y
    · have : k' = k := by rw [e, hy] at h1; exact (Option.some.inj h1).symm
      exact ⟨k', v, _, by simp [this], by simp [e, this, hy], by simp [e]; exact r, relKs_map hy r h3⟩
    · have : k' ≠ k := fun z => e (keyK_inj (z ▸ h1) hy)
      exact ⟨k', v', _, by simp [this], by simp [e, h1], by simp [e]; exact h2, relKs_map hy r h3⟩
theorem relKs_put {y : P} {k : Key} {w : Mi.W} {v : V} {kvs : List (P × Mi.W)} {ks : List (Key × V)} (hy : keyK y = some k) (r : RelW g.K ρ H w v) (h : RelKs g.K ρ H kvs ks) : RelKs g.K ρ H (dput kvs y w) (putK ks k v) := by
  unfold dput putK
  rw [relKs_any hy h]
  by_cases hc : (ks.any fun kv => decide (kv.1 = k)) = true
  · rw [if_pos hc, if_pos hc]
    exact relKs_map hy r h
  · rw [if_neg hc, if_neg hc]
    refine relKs_app h ?_
    simp only [RelKs]
    exact ⟨k, v, [], rfl, hy, r, rfl⟩
theorem relTs_any {y : P} {k : NestedKey} (hy : keyT y = some k) : ∀ {kvs : List (P × Mi.W)} {ks : List (NestedKey × Addr × V)}, RelTs g.K ρ H kvs ks → (kvs.any (·.1 = y)) = (valT ks k).isSome
  | [], ks, h => by simp only [RelTs] at h; subst h; rfl
  | q :: r, ks, h => by
    simp only [RelTs] at h
    obtain ⟨k', b, v, t, rfl, h1, h0, h2, h3⟩ := h
    rw [List.any_cons, relTs_any hy h3]
    unfold valT
    rw [List.find?_cons]
    by_cases e : q.1 = y
    · have : k' = k := by rw [e, hy] at h1; exact (Option.some.inj h1).symm
      simp [e, this]
    · have : k' ≠ k := fun z => e (keyT_inj (z ▸ h1) hy)
      simp [e, this]
theorem relTs_map {y : P} {k : NestedKey} {w : Mi.W} {v : V} (hy : keyT y = some k) (r : RelW g.K ρ H w v) : ∀ {kvs : List (P × Mi.W)} {ks : List (NestedKey × Addr × V)}, RelTs g.K ρ H kvs ks → RelTs g.K ρ H (kvs.map fun q => if q.1 = y then (y, w) else q) (ks.map fun e => if e.1 = k then (e.1, e.2.1, v) else e)
  | [], ks, h => by simp only [RelTs] at h; subst h; simp [RelTs]
  | q :: t, ks, h => by
    simp only [RelTs] at h
    obtain ⟨k', b, v', t', rfl, h1, h0, h2, h3⟩ := h
    simp only [List.map_cons, RelTs]
    by_cases e : q.1 = y
    · have : k' = k := by rw [e, hy] at h1; exact (Option.some.inj h1).symm
      exact ⟨k', b, v, _, by simp [this], by simp [e, this, hy], by simp [e]; rw [← e]; exact h0, by simp [e]; exact r, relTs_map hy r h3⟩
    · have : k' ≠ k := fun z => e (keyT_inj (z ▸ h1) hy)
      exact ⟨k', b, v', _, by simp [this], by simp [e, h1], by simp [e]; exact h0, by simp [e]; exact h2, relTs_map hy r h3⟩
theorem relTs_put {y : P} {k : NestedKey} {b : Addr} {w : Mi.W} {v : V} {kvs : List (P × Mi.W)} {ks : List (NestedKey × Addr × V)} (hy : keyT y = some k) (ry : RelP g.K H y (.ref b)) (r : RelW g.K ρ H w v) (h : RelTs g.K ρ H kvs ks) : RelTs g.K ρ H (dput kvs y w) (putT ks k b v) := by
  unfold dput putT
  rw [relTs_any hy h]
  by_cases hc : (valT ks k).isSome = true
  · rw [if_pos hc, if_pos hc]
    exact relTs_map hy r h
  · rw [if_neg hc, if_neg hc]
    refine relTs_app h ?_
    simp only [RelTs]
    exact ⟨k, b, v, [], rfl, hy, ry, r, rfl⟩
end

def rSetG (g : G) : TSet := fun o i v H Q => ∃ a H' H'', o = .ref a ∧ Retr g H a H' ∧ DGPut g H' a i v H'' ∧ Q H''
section
variable {X : Cx} {g : G} {W : WX}
theorem PSet.or {t t' : TSet} (h : PSet X t) (h' : PSet X t') : PSet X (fun o i v H Q => t o i v H Q ∨ t' o i v H Q) := by
  intro pins s σ H o i v ov iv u Q I r1 r2 r3 q
  exact q.elim (h pins s σ H o i v ov iv u Q I r1 r2 r3) (h' pins s σ H o i v ov iv u Q I r1 r2 r3)
theorem set_dicG (gx : GX g X) (hu : X.A.units + 200 < cLine) : PSet X (rSetG g) := by
  intro pins s σ H o i v ov iv u Q I r1 r2 r3 ⟨a, H', H'', h1, h2, h3, q⟩
  subst h1
  cases r1
  exact dg_setItem gx hu (Inv.retr I h2) h3 r2 r3 fun s' I' => ⟨H'', I', q⟩
theorem placeOf_ix {n : Nat} {k : Int} {j : Nat} (h : Mi.placeOf n k = some j) : ixN n k = some j := by
  unfold Mi.placeOf at h
  unfold ixN
  split at h
  · rename_i h0
    split at h
    · rename_i h1
      cases h
      simp [h0, h1]
    · cases h
  · rename_i h0
    split at h
    · rename_i h1
      cases h
      simp [h0, h1]
    · cases h
theorem os_set {ρ : List Addr} {M M4 : Hm} {H : Hp} {a b w : Mi.W} {o i v : V} {Q : Hp → Prop} (s : Sim g ρ M H) (ra : RelW g.K ρ H a o) (rb : RelW g.K ρ H b i) (rw_ : RelW g.K ρ H w v) (e : setV a b w M = some M4) (q : ∀ H', Stp ρ H ρ H' → Sim g ρ M4 H' → Q H') : rSetL o i v H Q ∨ rSetG g o i v H Q := by
  unfold setV at e
  split at e
  · rename_i k y
    split at e
    · rename_i xs em
      split at e
      · rename_i j
        split at e
        · rename_i n hn
          cases e
          obtain ⟨p, us, rfl, h1, h2, h3⟩ := sim_lst s ra em
          simp only [RelW, RelP] at rb
          have hs : ∀ v, H p = some v → ¬ Still v := fun v e st => by rw [h2] at e; cases e; exact st
          have t := stp_write (u := .lst (us.set n v)) (List.mem_of_getElem? h1) hs
          refine .inl ⟨p, us, j, n, rfl, rb, h2, placeOf_ix (by rw [← relWs_len h3]; exact hn), q _ t (s.write h1 hs ⟨us.set n v, upd_same, RelWs.mono t.pre t.tk _ _ (relWs_set n rw_ h3)⟩)⟩
        · cases e
      · cases e
    · rename_i kvs em
      split at e
      · rename_i hc
        cases e
        simp only [RelW] at rb
        obtain ⟨p, H', rfl, hp, h1, h2, h3, h4⟩ := dic_kind s ra em hc.1
        have rw' := RelW.mono h3.pre h3.tk _ _ rw_
        have rb' := RelP.mono h3.tk _ _ rb
        rcases h4 with ⟨ks, key, a1, a2, a3⟩ | ⟨es, key, a1, a2, a3⟩
        · have hi := relP_key a3 rb
          subst hi
          have hs : ∀ v, H' p = some v → ¬ Still v := fun v e => by rw [a1] at e; cases e; exact still_dk
          have t := stp_write (u := .dK (putK ks key v)) (List.mem_of_getElem? hp) hs
          refine .inr ⟨p, H', _, rfl, h1, .inl (DPut.k a1 (by rw [← relKs_len a2, ← big_line]; exact hc.2)), q _ (h3.trans t) (h2.write hp hs (.inl ⟨_, upd_same, RelKs.mono t.pre t.tk _ _ (relKs_put a3 rw' a2)⟩))⟩
        · have hi : ∃ b, i = .ref b := by
            cases y with
            | tup xs => simp only [RelP] at rb; obtain ⟨b, us, rfl, _⟩ := rb; exact ⟨b, rfl⟩
            | _ => simp [keyT] at a3
          obtain ⟨b, rfl⟩ := hi
          have hs : ∀ v, H' p = some v → ¬ Still v := fun v e => by rw [a1] at e; cases e; exact still_do
          have t := stp_write (u := dicO g.P g.w p (putT es key b v)) (List.mem_of_getElem? hp) hs
          refine .inr ⟨p, H', _, rfl, h1, .inr ⟨es, _, key, b, a1, relTs_keyed a2, a3, rb', rfl, by rw [← relTs_len a2, ← big_line]; exact hc.2, rfl⟩, q _ (h3.trans t) (h2.write hp hs (.inr ⟨_, upd_same, RelTs.mono t.pre t.tk _ _ (relTs_put a3 rb' rw' a2)⟩))⟩
      · cases e
    · cases e
  · cases e
theorem sd_asgI {o i e : Expr} {tp pos : Pos} {f fo fi : En → Hm → R Mi.W} (gx : GX g X) (hu : X.A.units + 200 < cLine) (he : PE X e (tE g W f)) (ho : PE X o (tE g W fo)) (hi : PE X i (tE g W fi))
    (ha : ∀ v, assign (.Subscript o i tp) X.env v = (do
      let ov ← holding [v] (eval o X.env)
      let iv ← holding [v, ov] (eval i X.env)
      standAt tp
      holding [v, ov, iv] (setItem ov iv v)
      release [v, ov, iv] [])) (hs : swapsWithSole [.Subscript o i tp] e pos.line X.env = pure false) (hw : swappedStores [.Subscript o i tp] e X.env = pure none) :
    PS X (.Assign [.Subscript o i tp] e pos) (tS g W fun env M => (tidy M (f env M)).toS env fun w M1 => (fo env M1).toS env fun a M2 => (fi env M2).toS env fun b M3 => match setV a b w M3 with
      | some M4 => .nx env M4
      | none => .bad) := by
  refine PS.weak (ps_asg he (pg_sub ho hi (PSet.or set_list (set_dicG gx hu)) ha) hs hw rfl) fun D σ H h => ?_
  refine (toS_tE (k := fun env w M1 => (fo env M1).toS env fun a M2 => (fi env M2).toS env fun b M3 => match setV a b w M3 with
      | some M4 => .nx env M4
      | none => .bad) h).mono fun v H1 ⟨ρ1, M1, env, w, a1, b1, r1, q1⟩ => ?_
  refine ⟨ρ1, M1, env, a1, b1, (PostS.toS a1 q1).mono fun ov H2 ⟨ρ2, M2, a, t2, b2, r2, q2⟩ => ?_⟩
  refine ⟨ρ2, M2, env, a1.later t2, b2, (PostS.toS (a1.later t2) q2).mono fun iv H3 ⟨ρ3, M3, b, t3, b3, r3, q3⟩ => ?_⟩
  split at q3
  · rename_i M4 e4
    exact os_set b3 (RelW.mono t3.pre t3.tk _ _ r2) r3 (RelW.mono (t2.trans t3).pre (t2.trans t3).tk _ _ r1) e4 fun H' t s => q3 ρ3 H' σ t s ((a1.later (t2.trans t3)).later t)
  · exact q3.elim

end
end Mi

namespace Mi
open PySem PySem.Spec PyProof.Rows L2

theorem R.bnd_assoc {α β γ : Type} (r : R α) (f : α → Hm → R β) (k : β → Hm → R γ) : (r.bnd f).bnd k = r.bnd fun a M => (f a M).bnd k := by
  cases r <;> rfl
section
variable {X : Cx} {g : G} {W : WX}
theorem pe_bmG {T id : String} {name : Str} {ty : V → Hp → Prop} {r : V → List V → Hp → VK → Prop} {o e : Expr} {es : List Expr} {to : TE} {t : TA} {apos cpos : Pos} (pa : PlainAttrs T) (slot : Slot T name id) (hty : typeOf (.builtin id) = pure (.type "method_descriptor"))
    (hti : ∀ {pins : List (Addr × Obj)} {σ : L2.St} {H : Hp} {s : Shared} {x : V} {v : Value}, Inv X pins σ H s → L2.RelV x v → ty x H → s.TypeIs v T ∧ ∀ a, v = .ref a → ∃ ob, s.heap.get? a = some ob ∧ ob.dict = none) (hm : MtR X id r) (ho : PE X o to) (ha : PA X (e :: es) t)
    (hbase : attributeBase o name X.env (eval o X.env) = eval o X.env) (hfew : ((backTo cpos (starEach (e :: es) X.env)).all (fun x => !x.1) && (backToKw cpos (keywordEach [] X.env)).all (fun x => x.1.isSome)
      && decide ((e :: es).length + ([] : List Keyword).length + (if ([] : List Keyword).isEmpty then 0 else 1) < 30)) = true)
    (hline : (apos.endLine == cpos.line) = true) (hs : starEach (e :: es) X.env = (false, eval e X.env) :: starEach es X.env) (hpl : (backTo cpos (starEach es X.env)).any (·.1) = false) :
    PE X (.Call (.Attribute o name apos) (e :: es) [] cpos) (fun σ H Q => to σ H fun x H1 => ty x H1 ∧ t σ H1 fun xs H2 => r x xs H2 Q) := by
  constructor
  intro pins s σ H Q I h
  apply wpAny_Call_method_late hbase hfew hline rfl
  apply thn (ho.run pins s σ H _ I h)
  rintro v s1 ⟨x, H1, I1, r1, hx, q1⟩
  have hA := ha.run cpos pins s1 σ H1 _ I1 q1
  obtain ⟨k1, k2⟩ := hti I1 r1 hx
  rw [hs] at hA ⊢
  have plain : ((false, eval e X.env) :: backTo cpos (starEach es X.env)).any (·.1) = false := by rw [List.any_cons, hpl]; rfl
  refine ⟨T, id, pa, slot, hty, k1, k2, Calls.callWith_builtin plain (Calls.evalArgs_plain (thn hA ?_))⟩
  rintro us s2 ⟨vs, H2, I2, r2, q2⟩
  exact hm pins s2 σ H2 x vs v us Q I2 r1 r2 q2
def tyD (g : G) : V → Hp → Prop := fun x H => ∃ a, x = .ref a ∧ ((∃ ks, H a = some (.dK ks)) ∨ ∃ es, H a = some (dicO g.P g.w a es))
theorem tyD_is {pins : List (Addr × Obj)} {σ : L2.St} {H : Hp} {s : Shared} {x : V} {v : Value} (I : Inv X pins σ H s) (r : L2.RelV x v) (h : tyD g x H) : s.TypeIs v "dict" ∧ ∀ a, v = .ref a → ∃ ob, s.heap.get? a = some ob ∧ ob.dict = none := by
  obtain ⟨a, rfl, h⟩ := h
  cases r
  have key : ∃ o, s.heap.get? a = some o ∧ o.ExactDict := by
    rcases h with ⟨ks, h⟩ | ⟨es, h⟩
    · obtain ⟨_, _, _, _, o, _, _, e, ex, _⟩ := I.hok a _ h
      exact ⟨o, e, ex⟩
    · obtain ⟨_, _, _, _, o, _, _, e, ex, _⟩ := dicO_at I h
      exact ⟨o, e, ex⟩
  obtain ⟨o, e, ex⟩ := key
  refine ⟨⟨o, e, ex.1⟩, fun b eb => ?_⟩
  cases eb
  exact ⟨o, e, ex.2.1⟩
theorem rcv_dict {ρ : List Addr} {M : Hm} {H : Hp} {w : Mi.W} {v : V} (s : Sim g ρ M H) (r : RelW g.K ρ H w v) (h : rcv M w = some .dict) : tyD g v H := by
  unfold rcv at h
  split at h
  · cases h
  · split at h
    · cases h
    · rename_i kvs e
      obtain ⟨p, rfl, _, h2⟩ := sim_dic s r e
      exact ⟨p, rfl, h2.elim (fun ⟨ks, z, _⟩ => .inl ⟨ks, z⟩) fun ⟨es, z, _⟩ => .inr ⟨es, z⟩⟩
    · cases h
  · cases h
theorem sd_bmD {m : Mt} {id : String} {r : V → List V → Hp → VK → Prop} {o e : Expr} {es : List Expr} {fo : En → Hm → R Mi.W} {fs : En → Hm → R (List Mi.W)} {name : Str} {apos cpos : Pos} (slot : Slot "dict" name id) (hty : typeOf (.builtin id) = pure (.type "method_descriptor")) (hm : MtR X id r) (hf : OpM g r (mthV m .dict)) (ho : PE X o (tE g W fo)) (ha : PA X (e :: es) (tA g W fs))
    (hbase : attributeBase o name X.env (eval o X.env) = eval o X.env) (hfew : ((backTo cpos (starEach (e :: es) X.env)).all (fun x => !x.1) && (backToKw cpos (keywordEach [] X.env)).all (fun x => x.1.isSome)
      && decide ((e :: es).length + ([] : List Keyword).length + (if ([] : List Keyword).isEmpty then 0 else 1) < 30)) = true)
    (hline : (apos.endLine == cpos.line) = true) (hs : starEach (e :: es) X.env = (false, eval e X.env) :: starEach es X.env) (hplain : (backTo cpos (starEach es X.env)).any (·.1) = false) :
    PE X (.Call (.Attribute o name apos) (e :: es) [] cpos) (tE g W (mF fo fs m .dict)) := by
  refine PE.weak (pe_bmG PySem.F.plainAttrs_dict slot hty (fun I r h => tyD_is (g := g) I r h) hm ho ha hbase hfew hline hs hplain) fun σ H Q h => ?_
  refine (tI.bnd (rel1 := relW g) (k := fun env w M1 => if rcv M1 w = some .dict then (fs env M1).bnd fun ws M2 => mthV m .dict w ws M2 else .bad) h).mono fun v H1 ⟨ρ1, M1, env, w, a, b, c, d⟩ => ?_
  split at d
  · rename_i hr
    refine ⟨rcv_dict b c hr, ρ1, M1, env, a, b, (PostE.bnd (rel1 := relWs g) d).mono fun us H2 ⟨ρ2, M2, ws, a2, b2, c2, d2⟩ => ?_⟩
    exact hf W σ ρ2 M2 H2 w ws v us Q b2 (RelW.mono a2.pre a2.tk _ _ c) c2 d2
  · exact d.elim
def rGetG (g : G) : V → List V → Hp → VK → Prop := fun x vs H Q => ∃ a H' o, x = .ref a ∧ Retr g H a H' ∧ ((∃ y, vs = [y] ∧ DG g H' a y o ∧ Q (o.getD .non) H') ∨ ∃ y d, vs = [y, d] ∧ DG g H' a y o ∧ Q (o.getD d) H')
theorem mt_getG (gx : GX g X) (hu : X.A.units + 200 < cLine) : MtR X "dict.get" (rGetG g) := by
  intro pins s σ H x vs v us Q I rx rs ⟨a, H', o, h1, h2, h3⟩
  subst h1
  cases rx
  have I' := Inv.retr I h2
  rcases h3 with ⟨y, rfl, h4, q⟩ | ⟨y, d, rfl, h4, q⟩
  · obtain ⟨u, rfl, ry⟩ := vals1 rs
    exact dg_get1 gx hu I' h4 ry fun w' s' I'' r' => ⟨_, H', I'', r', q⟩
  · obtain ⟨u, u2, rfl, ry, rd⟩ := vals2 rs
    exact dg_get2 gx hu I' h4 ry rd fun w' s' I'' r' => ⟨_, H', I'', r', q⟩
theorem om_get : OpM g (rGetG g) getF := by
  intro W σ ρ M H w ws v vs Q s rw_ rs q
  unfold getF at q
  split at q
  · split at q
    · rename_i kvs e
      split at q
      · rename_i hok
        obtain ⟨y, d, rfl, ry, rd⟩ := ws2 rs
        simp only [RelW] at ry
        obtain ⟨p, H', o, rfl, h1, h2, h3, h4, h5, h6⟩ := dic_get s rw_ e ry hok
        refine ⟨p, H', o, rfl, h1, .inr ⟨y, d, rfl, h4, ?_⟩⟩
        cases hg : dget kvs _ with
        | none =>
          rw [hg] at q
          rw [h6 hg]
          exact q ρ H' _ h3 h2 (RelW.mono h3.pre h3.tk _ _ rd)
        | some w' =>
          rw [hg] at q
          obtain ⟨v', rfl, z⟩ := h5 w' hg
          exact q ρ H' _ h3 h2 z
      · exact q.elim
    · exact q.elim
  · split at q
    · rename_i kvs e
      split at q
      · rename_i hok
        obtain ⟨y, rfl, ry⟩ := ws1 rs
        simp only [RelW] at ry
        obtain ⟨p, H', o, rfl, h1, h2, h3, h4, h5, h6⟩ := dic_get s rw_ e ry hok
        refine ⟨p, H', o, rfl, h1, .inl ⟨y, rfl, h4, ?_⟩⟩
        cases hg : dget kvs _ with
        | none =>
          rw [hg] at q
          rw [h6 hg]
          exact q ρ H' _ h3 h2 (by show RelW g.K ρ H' _ _; simp [RelW, RelP])
        | some w' =>
          rw [hg] at q
          obtain ⟨v', rfl, z⟩ := h5 w' hg
          exact q ρ H' _ h3 h2 z
      · exact q.elim
    · exact q.elim
  · exact q.elim

abbrev EF := En → Hm → R Mi.W
def pairsF : List (EF × EF) → En → Hm → R (List Mi.W)
  | [], _, M => .ok [] M
  | p :: r, env, M => (p.1 env M).bnd fun a M1 => (p.2 env M1).bnd fun b M2 => (pairsF r env M2).bnd fun ws M3 => .ok (a :: b :: ws) M3
def flatP (ps : List (V × V)) : List V := ps.flatMap fun p => [p.1, p.2]
theorem pairs_read {σ : L2.St} : ∀ (fs : List (EF × EF)) {ρ : List Addr} {M : Hm} {H : Hp} {env : En} {Q : List V → Hp → Prop}, RelEn g.K ρ H env σ → Sim g ρ M H → PostE g W σ ρ H (pairsF fs env M) (relWs g) Q → tPairs (fs.map fun p => (tE g W p.1, tE g W p.2)) σ H (fun ps H2 => Q (flatP ps) H2)
  | [], ρ, M, H, env, Q, a, b, q => q ρ H [] (Stp.refl _ _) b (by show RelWs g.K ρ H [] []; simp [RelWs])
  | p :: r, ρ, M, H, env, Q, a, b, q => by
    show tE g W p.1 σ H fun x H1 => tE g W p.2 σ H1 fun y H2 => tPairs (r.map fun p => (tE g W p.1, tE g W p.2)) σ H2 fun ps H3 => Q (flatP ((x, y) :: ps)) H3
    refine ⟨ρ, M, env, a, b, (PostE.bnd (rel1 := relW g) q).mono fun x H1 ⟨ρ1, M1, w, t1, b1, r1, q1⟩ => ?_⟩
    refine ⟨ρ1, M1, env, a.later t1, b1, (PostE.bnd (rel1 := relW g) q1).mono fun y H2 ⟨ρ2, M2, w2, t2, b2, r2, q2⟩ => ?_⟩
    refine pairs_read r (Q := fun us H3 => Q (x :: y :: us) H3) (a.later (t1.trans t2)) b2 ((PostE.bnd (rel1 := relWs g) q2).mono fun us H3 ⟨ρ3, M3, ws, t3, b3, r3, q3⟩ => ?_)
    refine q3 ρ3 H3 _ (Stp.refl _ _) b3 ?_
    show RelWs g.K ρ3 H3 (w :: w2 :: ws) (x :: y :: us)
    simp only [RelWs]
    exact ⟨x, y :: us, rfl, RelW.mono (t2.trans t3).pre (t2.trans t3).tk _ _ r1, y, us, rfl, RelW.mono t3.pre t3.tk _ _ r2, r3⟩
theorem pairUp_rel {ρ : List Addr} {H : Hp} : ∀ {ps : List (V × V)} {ws : List Mi.W} {kvs : List (P × Mi.W)}, RelWs g.K ρ H ws (flatP ps) → pairUp ws = some kvs → ∃ ks : List (Key × V), ps = ks.map (fun kv => (kV kv.1, kv.2)) ∧ RelKs g.K ρ H kvs ks
  | [], ws, kvs, r, h => by
    cases ws with
    | nil =>
      simp only [pairUp, Option.some.injEq] at h
      subst h
      exact ⟨[], rfl, by simp [RelKs]⟩
    | cons w ws => simp [RelWs, flatP] at r
  | p :: ps, ws, kvs, r, h => by
    have e : flatP (p :: ps) = p.1 :: p.2 :: flatP ps := rfl
    rw [e] at r
    match ws, r, h with
    | [], r, h => simp [RelWs] at r
    | [w], r, h =>
      simp only [RelWs] at r
      obtain ⟨u, t, e1, _, e2⟩ := r
      cases e1
      cases e2
    | w :: w2 :: ws, r, h =>
      simp only [RelWs] at r
      obtain ⟨u, t, e1, r1, u2, t2, e2, r2, r3⟩ := r
      cases e1
      cases e2
      cases w with
      | p k =>
        simp only [pairUp] at h
        split at h
        · rename_i hk
          rw [Option.map_eq_some_iff] at h
          obtain ⟨kvs', h1, rfl⟩ := h
          obtain ⟨ks, e3, r4⟩ := pairUp_rel r3 h1
          obtain ⟨key, hkey⟩ := scal_key hk
          simp only [RelW] at r1
          have := relP_key hkey r1
          refine ⟨(key, p.2) :: ks, ?_, ?_⟩
          · rw [List.map_cons, ← e3, ← this]
          · simp only [RelKs]
            exact ⟨key, p.2, ks, rfl, hkey, r2, r4⟩
        · cases h
      | _ => simp [pairUp] at h
theorem merge_rel {ρ : List Addr} {H : Hp} : ∀ {kvs : List (P × Mi.W)} {ks : List (Key × V)} {acc : List (P × Mi.W)} {as : List (Key × V)}, RelKs g.K ρ H kvs ks → RelKs g.K ρ H acc as → RelKs g.K ρ H (kvs.foldl (fun d q => dput d q.1 q.2) acc) (mergeK as ks)
  | [], ks, acc, as, h, h' => by simp only [RelKs] at h; subst h; exact h'
  | q :: r, ks, acc, as, h, h' => by
    simp only [RelKs] at h
    obtain ⟨k, v, t, rfl, h1, h2, h3⟩ := h
    exact merge_rel (kvs := r) (ks := t) h3 (relKs_put h1 h2 h')
theorem PostE.bnd0 {α β γ δ : Type} {σ : L2.St} {ρ : List Addr} {H : Hp} {r : R α} {k : α → Hm → R γ} {rel1 : Rel α β} {rel2 : Rel γ δ} {Q : δ → Hp → Prop} (h : PostE g W σ ρ H (r.bnd k) rel2 Q) :
    PostE g W σ ρ H r rel1 (fun v H1 => ∃ ρ1 M1 w, Stp ρ H ρ1 H1 ∧ Sim g ρ1 M1 H1 ∧ rel1 ρ1 H1 w v ∧ PostE g W σ ρ H (k w M1) rel2 Q) := by
  cases r with
  | ok w M' => exact fun ρ' H' v a b c => ⟨ρ', M', w, a, b, c, h⟩
  | err c fs M' => exact h
  | bad => exact h
theorem disp_read {fs : List (EF × EF)} {σ : L2.St} {H : Hp} {Q : VK} (h : tE g W (fun env M => (pairsF fs env M).bnd fun ws M1 => match pairUp ws with
      | some kvs => if kvs.length ≤ 15 then newO (.dic (kvs.foldl (fun d q => dput d q.1 q.2) [])) M1 else .bad
      | none => .bad) σ H Q) : tDisp (fs.map fun p => (tE g W p.1, tE g W p.2)) σ H Q := by
  obtain ⟨ρ, M, env, a, b, q⟩ := h
  intro p hp
  have t0 : Stp ρ H ρ (upd H p (.dK [])) := Stp.same (same_upd hp)
  have np : p ∉ ρ := b.out hp
  have hq : PostE g W σ ρ (upd H p (.dK [])) (pairsF fs env M) (relWs g) (fun us H2 => ∃ ρ2 M2 ws, Stp ρ (upd H p (.dK [])) ρ2 H2 ∧ Sim g ρ2 M2 H2 ∧ RelWs g.K ρ2 H2 ws us ∧ PostE g W σ ρ H (match pairUp ws with
      | some kvs => if kvs.length ≤ 15 then newO (.dic (kvs.foldl (fun d q => dput d q.1 q.2) [])) M2 else .bad
      | none => .bad) (relW g) Q) := by
    dsimp only at q
    cases hr : pairsF fs env M with
    | bad => rw [hr] at q; exact q.elim
    | err c f M1 => rw [hr] at q; exact fun ρ' H' d t s x => q ρ' H' d (t0.trans t) s x
    | ok ws M1 => rw [hr] at q; exact fun ρ' H' us t s r => ⟨ρ', M1, ws, t, s, r, q⟩
  have z := pairs_read fs (a.later t0) (b.same (same_upd hp)) hq
  have mono : ∀ (l : List (TE × TE)) {σ : L2.St} {H : Hp} {Q Q' : List (V × V) → Hp → Prop}, (∀ x ∈ l, (∀ {σ H} {q q' : VK}, (∀ v H, q v H → q' v H) → x.1 σ H q → x.1 σ H q') ∧ ∀ {σ H} {q q' : VK}, (∀ v H, q v H → q' v H) → x.2 σ H q → x.2 σ H q') → (∀ ps H, Q ps H → Q' ps H) → tPairs l σ H Q → tPairs l σ H Q' := by
    intro l
    induction l with
    | nil => exact fun _ hq h => hq _ _ h
    | cons x l ih =>
      intro σ H Q Q' hm hq h
      obtain ⟨tk, tv⟩ := x
      obtain ⟨m1, m2⟩ := hm (tk, tv) List.mem_cons_self
      exact m1 (fun v H1 h1 => m2 (fun u H2 h2 => ih (fun y hy => hm y (List.mem_cons_of_mem _ hy)) (fun ps H3 h3 => hq _ _ h3) h2) h1) h
  refine mono _ (fun x hx => ?_) (fun ps H2 ⟨ρ2, M2, ws, t2, s2, r2, q2⟩ => ?_) z
  · obtain ⟨y, _, rfl⟩ := List.mem_map.mp hx
    exact ⟨fun hq h => tI.mono h hq, fun hq h => tI.mono h hq⟩
  · have hp2 : H2 p = some (.dK []) := t2.keep p _ upd_same (.inl np)
    have np2 : p ∉ ρ2 := fun z => by
      rcases t2.new p z with z | z
      · exact np z
      · rw [upd_same] at z; cases z
    split at q2
    · rename_i kvs e
      split at q2
      · rename_i hl
        obtain ⟨ks, e2, rk⟩ := pairUp_rel r2 e
        have hlen : ks.length ≤ 15 := by rw [← relKs_len rk]; exact hl
        have nst : ∀ v, H2 p = some v → ¬ Still v := fun v e => by rw [hp2] at e; cases e; exact still_dk
        have tk := tk_off (u := .dK (mergeK [] ks)) nst
        refine ⟨hp2, ks, e2, hlen, ?_⟩
        have st : Stp ρ H (ρ2 ++ [p]) (upd H2 p (.dK (mergeK [] ks))) := ⟨(t0.trans t2).pre.trans (List.prefix_append _ _), fun c hc => by
          rcases List.mem_append.mp hc with z | z
          · exact (t0.trans t2).new c z
          · have : c = p := by simpa using z
            subst this
            exact .inr hp, ((t0.trans t2).off hp).keep⟩
        refine q2 (ρ2 ++ [p]) _ _ st ((s2.off np2 nst).adopt np2 (.inl ⟨mergeK [] ks, upd_same, ?_⟩)) (rel_last s2 _)
        exact RelKs.mono (List.prefix_append _ _) tk _ _ (merge_rel rk (by simp [RelKs]))
      · exact q2.elim
    · exact q2.elim
end
end Mi

namespace Mi
open PySem PySem.Spec PyProof.Rows L2
section
variable {X : Cx} {g : G} {W : WX}
def rSetd (g : G) : V → List V → Hp → VK → Prop := fun x vs H Q => ∃ a H' y d, x = .ref a ∧ Retr g H a H' ∧ vs = [y, d] ∧
  ((∃ kvs k, H' a = some (.dK kvs) ∧ y = kV k ∧ kvs.length < sizeLine ∧ (∀ v, valV kvs k = some v → Q v H') ∧ (valV kvs k = none → Q d (upd H' a (.dK (putK kvs k d))))) ∨
   ∃ es x k b, H' a = some (dicO g.P g.w a es) ∧ Keyed g H' es ∧ keyT x = some k ∧ RelP g.K H' x (.ref b) ∧ y = .ref b ∧ es.length < sizeLine ∧ (∀ v, valT es k = some v → Q v H') ∧ (valT es k = none → Q d (upd H' a (dicO g.P g.w a (putT es k b d)))))
theorem mt_setd (gx : GX g X) (hu : X.A.units + 200 < cLine) : MtR X "dict.setdefault" (rSetd g) := by
  intro pins s σ H x vs v us Q I rx rs ⟨a, H', y, d, h1, h2, h3, h4⟩
  subst h1
  subst h3
  cases rx
  have I' := Inv.retr I h2
  obtain ⟨u, u2, rfl, ry, rd⟩ := vals2 rs
  rcases h4 with ⟨kvs, k, e, rfl, hl, q1, q2⟩ | ⟨es, x, k, b, e, hk, hx, rx, rfl, hl, q1, q2⟩
  · exact d_setd I' e ry rd hl (fun v0 hv w' s' I2 r2 => ⟨_, _, I2, r2, q1 v0 hv⟩) fun hn w' s' I2 r2 => ⟨_, _, I2, r2, q2 hn⟩
  · cases ry
    obtain ⟨z1, z2, xs, z3, z4⟩ := dictOfH I' gx.K gx.P gx.w e hk
    have hkey := key_is I' hx (by rw [← gx.K]; exact rx)
    have hz : xs.length ≤ sizeLine := by rw [← Paired.length z3]; exact z2
    have pv := pt3_val (k := k) z3
    refine call_setdefault_heap (hsz := hz) (show X.A.in1.units + 8 < cLine by show X.A.units + 1 + 8 < cLine; omega) hkey z1 z4 (fun p hp => ?_) fun hn h' dd' hs => ?_
    · rw [hp] at pv
      cases hv : valT es k with
      | none => rw [hv] at pv; exact (show False from pv).elim
      | some v0 =>
        rw [hv] at pv
        exact ⟨_, _, I'.tok _, pv, q1 v0 hv⟩
    · rw [hn] at pv
      cases hv : valT es k with
      | some v0 => rw [hv] at pv; exact (show False from pv).elim
      | none =>
        have hl2 : (putT es k b d).length ≤ sizeLine := by have := putT_len es k b d; omega
        obtain ⟨q, _, _, hq, _⟩ := id dd'
        exact ⟨_, _, d_write I' (by rw [e]; exact True.intro) hs ⟨q, hq⟩ (dicO_new gx z1 hl2 (pt3_put rd z3) dd'), rd, q2 hv⟩
theorem keyT_ref {K : PySem.W.Frag} {H : Hp} {y : P} {k : NestedKey} {v : V} (h : keyT y = some k) (r : RelP K H y v) : ∃ b, v = .ref b := by
  cases y with
  | tup xs => simp only [RelP] at r; obtain ⟨b, us, rfl, _⟩ := r; exact ⟨b, rfl⟩
  | _ => simp [keyT] at h
theorem om_setd : OpM g (rSetd g) setdefF := by
  intro W σ ρ M H w ws v vs Q s rw_ rs q
  unfold setdefF at q
  split at q
  · split at q
    · rename_i kvs em
      split at q
      · rename_i hok
        obtain ⟨y, d, rfl, ry, rd⟩ := ws2 rs
        simp only [RelW] at ry
        obtain ⟨p, H', rfl, hp, h1, h2, h3, h4⟩ := dic_kind s rw_ em hok.1
        have rw' := RelW.mono h3.pre h3.tk _ _ rd
        have rb' := RelP.mono h3.tk _ _ ry
        refine ⟨p, H', y, d, rfl, h1, rfl, ?_⟩
        rcases h4 with ⟨ks, key, a1, a2, a3⟩ | ⟨es, key, a1, a2, a3⟩
        · have hi := relP_key a3 ry
          subst hi
          obtain ⟨z1, z2⟩ := rks_val a3 a2
          refine .inl ⟨ks, key, a1, rfl, by rw [← relKs_len a2, ← big_line]; exact hok.2, fun v0 hv => ?_, fun hn => ?_⟩
          · cases hg : dget kvs _ with
            | none => rw [z2 hg] at hv; cases hv
            | some w' =>
              rw [hg] at q
              obtain ⟨v', e1, z⟩ := z1 w' hg
              rw [hv] at e1
              cases e1
              exact q ρ H' _ h3 h2 z
          · cases hg : dget kvs _ with
            | some w' =>
              obtain ⟨v', e1, z⟩ := z1 w' hg
              rw [hn] at e1
              cases e1
            | none =>
              rw [hg] at q
              have hs : ∀ v, H' p = some v → ¬ Still v := fun v e => by rw [a1] at e; cases e; exact still_dk
              have t := stp_write (u := .dK (putK ks key d)) (List.mem_of_getElem? hp) hs
              exact q ρ _ _ (h3.trans t) (h2.write hp hs (.inl ⟨_, upd_same, RelKs.mono t.pre t.tk _ _ (relKs_put a3 rw' a2)⟩)) (RelW.mono t.pre t.tk _ _ rw')
        · obtain ⟨b, rfl⟩ := keyT_ref a3 ry
          obtain ⟨z1, z2⟩ := rts_val a3 a2
          refine .inr ⟨es, _, key, b, a1, relTs_keyed a2, a3, rb', rfl, by rw [← relTs_len a2, ← big_line]; exact hok.2, fun v0 hv => ?_, fun hn => ?_⟩
          · cases hg : dget kvs _ with
            | none => rw [z2 hg] at hv; cases hv
            | some w' =>
              rw [hg] at q
              obtain ⟨v', e1, z⟩ := z1 w' hg
              rw [hv] at e1
              cases e1
              exact q ρ H' _ h3 h2 z
          · cases hg : dget kvs _ with
            | some w' =>
              obtain ⟨v', e1, z⟩ := z1 w' hg
              rw [hn] at e1
              cases e1
            | none =>
              rw [hg] at q
              have hs : ∀ v, H' p = some v → ¬ Still v := fun v e => by rw [a1] at e; cases e; exact still_do
              have t := stp_write (u := dicO g.P g.w p (putT es key b d)) (List.mem_of_getElem? hp) hs
              exact q ρ _ _ (h3.trans t) (h2.write hp hs (.inr ⟨_, upd_same, RelTs.mono t.pre t.tk _ _ (relTs_put a3 rb' rw' a2)⟩)) (RelW.mono t.pre t.tk _ _ rw')
      · exact q.elim
    · exact q.elim
  · exact q.elim
theorem sumI_us {K : PySem.W.Frag} {H : Hp} : ∀ {xs : List P} {us : List V} {n : Int}, RelPs K H xs us → sumI xs = some n → ∃ ns : List Int, us = ns.map V.int ∧ ns.sum = n
  | [], us, n, r, h => by
    simp only [RelPs] at r
    subst r
    cases h
    exact ⟨[], rfl, rfl⟩
  | x :: xs, us, n, r, h => by
    simp only [RelPs] at r
    obtain ⟨u, t, rfl, r1, r2⟩ := r
    cases x with
    | int i =>
      simp only [sumI, Option.map_eq_some_iff] at h
      obtain ⟨m, h1, rfl⟩ := h
      obtain ⟨ns, rfl, rfl⟩ := sumI_us r2 h1
      simp only [RelP] at r1
      subst r1
      exact ⟨i :: ns, rfl, by rw [List.sum_cons]⟩
    | _ => simp [sumI] at h
theorem allB_us {K : PySem.W.Frag} {H : Hp} : ∀ {xs : List P} {us : List V} {n : Bool}, RelPs K H xs us → allB xs = some n → ∃ ns : List Bool, us = ns.map V.bl ∧ ns.all id = n
  | [], us, n, r, h => by
    simp only [RelPs] at r
    subst r
    cases h
    exact ⟨[], rfl, rfl⟩
  | x :: xs, us, n, r, h => by
    simp only [RelPs] at r
    obtain ⟨u, t, rfl, r1, r2⟩ := r
    cases x with
    | bl i =>
      simp only [allB, Option.map_eq_some_iff] at h
      obtain ⟨m, h1, rfl⟩ := h
      obtain ⟨ns, rfl, rfl⟩ := allB_us r2 h1
      simp only [RelP] at r1
      subst r1
      exact ⟨i :: ns, rfl, by rw [List.all_cons]; rfl⟩
    | _ => simp [allB] at h
theorem os_sum : OpB g (rSum g.K) sumF := by
  intro W σ ρ M H ws vs Q s r q
  unfold sumF at q
  split at q
  · obtain ⟨v, rfl, r1⟩ := ws1 r
    rename_i w
    cases e : pureLst M w with
    | none => rw [e] at q; exact q.elim
    | some xs =>
      obtain ⟨p, us, rfl, h1, h2⟩ := lst_pure s r1 e
      rw [e] at q
      cases e2 : sumI xs with
      | none => simp only [Option.bind_some, e2] at q; exact q.elim
      | some n =>
        simp only [Option.bind_some, e2] at q
        obtain ⟨ns, rfl, rfl⟩ := sumI_us h2 e2
        exact ⟨p, ns, rfl, h1, post_p s q (by simp [RelP])⟩
  · exact q.elim
theorem os_all : OpB g (rAll g.K) allF := by
  intro W σ ρ M H ws vs Q s r q
  unfold allF at q
  split at q
  · obtain ⟨v, rfl, r1⟩ := ws1 r
    rename_i w
    cases e : pureLst M w with
    | none => rw [e] at q; exact q.elim
    | some xs =>
      obtain ⟨p, us, rfl, h1, h2⟩ := lst_pure s r1 e
      rw [e] at q
      cases e2 : allB xs with
      | none => simp only [Option.bind_some, e2] at q; exact q.elim
      | some n =>
        simp only [Option.bind_some, e2] at q
        obtain ⟨ns, rfl, rfl⟩ := allB_us h2 e2
        exact ⟨p, ns, rfl, h1, post_p s q (by simp [RelP])⟩
  · exact q.elim
end
end Mi

namespace Mi
open PySem PySem.W PySem.Spec PyProof.Rows
section
variable {prog : Program} {w : World} {A : Around} {E : Value → Shared → Prop} {s : Shared} {d : Addr} {es : Array DictEntry} {ep : Nat}
theorem kdl_raw (lo : (d == sysModules) = false) : KdlSrc prog w "dict" d d es.size (fun i v => ∃ hi : i < es.size, v = es[i].key) (fun h => h.DictRaw d es ep) where
  type := fun _ hm => hm.typeIs
  there := fun _ hm => by obtain ⟨o, ho, _⟩ := hm; exact ⟨Heap.lt_size ho, Heap.lt_size ho⟩
  keep := fun _ _ hm hk => hm.at fun o e => hk d (.inl rfl) o e
  notList := by decide
  notTuple := by decide
  hint := fun _ _ _ _ hm hq => kdl_hint_dict hm.typeIs hq
  iter := fun _ _ hh hm => ⟨_, _, (fun _ _ hq => wpAny_pyIter_dict_raw lo hm hq), Walks.rawKeys hh _ d (by obtain ⟨o, ho, _⟩ := hm; exact Nat.ne_of_lt (Heap.lt_size ho)) es ep, ⟨⟨_, Heap.get?_push_size _ rfl, rfl, rfl⟩, hm.at fun o e => Heap.get?_push_of_some _ e⟩⟩
open PySem.Calls in
theorem sorted_src {T : String} {r : Addr} {n : Nat} {P : Nat → Value → Prop} {OK : Heap → Prop} {β : Type} {enc : β → PyData} {R : Value → β → Prop} {bs : List β} {Q : Value → Shared → Prop}
    (K : KdlSrc prog w T r d n P OK) (hh : A.handled = none) (hok : OK s.heap) (hn : n ≤ sizeLine) (hb : bs.length = n)
    (hits : ∀ (acc : Array Value), ItemsOf P acc n → EachIs R acc.toList bs ∧ EachIs (fun v b => ∃ as, Reads s.heap v (enc b) as) acc.toList bs)
    (hal : AllAlike (bs.map enc)) (hk : Sortable (bs.map enc)) (hu : ∀ b, b ∈ bs → A.units + 2 + (enc b).depth < cLine)
    (h : ∀ (h' : Heap) (tk : Nat) (vs out : List Value), (∀ b o, s.heap.get? b = some o → h'.get? b = some o) → out.length = bs.length → EachIs R out (bs.mergeSort (dataLe false enc)) →
      Q (.ref h'.objs.size) { s with heap := sortedHeap (h'.push (seqObj "list" vs.toArray 0)) h'.objs.size vs out.toArray, toks := tk }) :
    wpAny (model prog w) A (call (.builtin "sorted") [.ref r]) Q E s := by
  refine call_function_entry kind_sorted plain_sorted entry_sorted (args_sorted1 _) ?_
  unfold Builtin.«sorted»
  refine wpAny_bind (m := checkCount "sorted" 1 1 _) (wpAny_pure ?_)
  refine wpAny_bind (kdu_collect (A := A.in1) K hh hok hn fun h' tk acc hk' hacc => ?_)
  obtain ⟨e, er⟩ := hits acc hacc
  have hal' : acc.toList.length = bs.length := e.length
  refine wpAny_bind (wpAny_newList ?_ (by rw [hal', hb]; exact hn))
  have hoL : (h'.push (seqObj "list" acc.toList.toArray 0)).get? h'.objs.size = some (seqObj "list" acc.toList.toArray 0) := Heap.get?_push_size _ rfl
  have er' : EachIs (fun v b => ∃ as, Reads (sortingHeap (h'.push (seqObj "list" acc.toList.toArray 0)) h'.objs.size acc.toList) v (enc b) as) acc.toList bs := er.mono fun _ _ ⟨as, q⟩ => ⟨as, PyProof.Rows.Reads.keeps (fun b o e => sortingHeap_old (Nat.ne_of_lt (Heap.lt_size (hk' b o e))) (Heap.get?_push_of_some _ (hk' b o e))) q⟩
  refine wpAny_bind (wpAny_holding (wpAny_call_entry slot_list_sort ⟨_, hoL, rfl⟩ entry_list_sort (list_sort_vals (κ := dataKind (sortingHeap (h'.push (seqObj "list" acc.toList.toArray 0)) h'.objs.size acc.toList) (bs.map enc)) hoL (SortsAt.data (each_map (R := fun v d => ∃ as, Reads (sortingHeap (h'.push (seqObj "list" acc.toList.toArray 0)) h'.objs.size acc.toList) v d as) enc er') hal hk (bound_map hu)) (by rw [hal', hb]; exact hn) ⟨.none, rfl, ?_⟩) (args_list_sort _)))
  refine wpAny_pure ⟨_, rfl, ?_⟩
  exact h h' tk acc.toList _ hk' (by rw [sortVals_length false rfl]; exact hal') (sortVals_data false e er' hal)
end
end Mi

namespace Mi
open PySem PySem.Spec PyProof.Rows L2

def orb (m : Nat) : Nat → Nat → Nat → Nat
  | 0, _, acc => acc
  | k + 1, x, acc => orb m k ((x * 5 + 1) % (m + 1)) (acc ||| (1 <<< x))
theorem lcgI_front (m : Nat) : ∀ (k x : Nat), lcgI m ((x * 5 + 1) % (m + 1)) k = lcgI m x (k + 1)
  | 0, _ => rfl
  | k + 1, x => by
    show (lcgI m ((x * 5 + 1) % (m + 1)) k * 5 + 1) % (m + 1) = (lcgI m x (k + 1) * 5 + 1) % (m + 1)
    rw [lcgI_front m k x]
theorem orb_bit (m j : Nat) : ∀ (k x acc : Nat), (orb m k x acc).testBit j = true → acc.testBit j = true ∨ ∃ i, i < k ∧ lcgI m x i = j
  | 0, _, _, h => .inl h
  | k + 1, x, acc, h => by
    rcases orb_bit m j k _ _ h with h | ⟨i, hi, e⟩
    · rw [Nat.testBit_or, Bool.or_eq_true] at h
      rcases h with h | h
      · exact .inl h
      · refine .inr ⟨0, Nat.succ_pos _, ?_⟩
        rw [Nat.one_shiftLeft, Nat.testBit_two_pow, decide_eq_true_eq] at h
        exact h
    · exact .inr ⟨i + 1, Nat.succ_lt_succ hi, by rw [← lcgI_front]; exact e⟩
def MaskG (m : Nat) : Prop := m = 7 ∨ m = 31 ∨ m = 127 ∨ m = 511
theorem orb_all {m : Nat} (hm : MaskG m) : orb m (m + 1) 0 0 = 2 ^ (m + 1) - 1 := by
  rcases hm with rfl | rfl | rfl | rfl <;> decide +kernel
theorem lcg_loop {m : Nat} (hm : MaskG m) : lcgI m 0 (m + 1) = 0 := by
  rcases hm with rfl | rfl | rfl | rfl <;> decide +kernel
theorem lcgI_comp (m x a : Nat) : ∀ k, lcgI m (lcgI m x a) k = lcgI m x (a + k)
  | 0 => rfl
  | k + 1 => by
    show (lcgI m (lcgI m x a) k * 5 + 1) % (m + 1) = (lcgI m x (a + k) * 5 + 1) % (m + 1)
    rw [lcgI_comp m x a k]
theorem from0 {m : Nat} (hm : MaskG m) {j : Nat} (hj : j ≤ m) : ∃ b, b ≤ m ∧ lcgI m 0 b = j := by
  have h : (orb m (m + 1) 0 0).testBit j = true := by
    rw [orb_all hm, Nat.testBit_two_pow_sub_one, decide_eq_true_eq]
    omega
  rcases orb_bit m j _ _ _ h with h | ⟨i, hi, e⟩
  · simp at h
  · exact ⟨i, by omega, e⟩
theorem fromAny {m : Nat} (hm : MaskG m) {i j : Nat} (hi : i ≤ m) (hj : j ≤ m) : ∃ k, k ≤ m ∧ lcgI m i k = j := by
  obtain ⟨a, ha, rfl⟩ := from0 hm hi
  obtain ⟨b, hb, rfl⟩ := from0 hm hj
  by_cases c : a ≤ b
  · exact ⟨b - a, by omega, by rw [lcgI_comp, show a + (b - a) = b by omega]⟩
  · refine ⟨b + (m + 1) - a, by omega, ?_⟩
    rw [lcgI_comp, show a + (b + (m + 1) - a) = m + 1 + b by omega, ← lcgI_comp, lcg_loop hm]
theorem way_leG {m : Nat} {h : Int} {k : Nat} : way m h k ≤ m := by
  have hi : SetTable.bits h % (m + 1) ≤ m := Nat.le_of_lt_succ (Nat.mod_lt _ (Nat.succ_pos _))
  have r := runEnd_bd hi
  have q := nth_in (m := m) k (runAt m (SetTable.bits h % (m + 1)) (SetTable.bits h)) (by
    simp only [runAt]
    omega)
  simp only [way]
  omega
theorem runs_to {m : Nat} (hm : MaskG m) (h : Int) {j : Nat} (hj : j ≤ m) : ∃ n, n ≤ m + 12 ∧ runI m (SetTable.bits h) n = j := by
  obtain ⟨k, hk, e⟩ := fromAny hm (runI_le m (SetTable.bits h) 12) hj
  exact ⟨12 + k, by omega, (runI_tail (bits_lt h) k).trans e⟩
theorem way_to {m : Nat} (hm : MaskG m) (h : Int) {j : Nat} (hj : j ≤ m) : ∃ k, k < 10 * SetTable.turns m ∧ way m h k = j := by
  obtain ⟨n, hn, e⟩ := runs_to hm h hj
  obtain ⟨k, hk, e2⟩ := run_nth m (SetTable.bits h) n
  refine ⟨k, by unfold SetTable.turns; omega, ?_⟩
  show (nth m _ k).j = j
  rw [e2]
  exact e
structure TabG (t : SetTable) (hs : List Int) : Prop where
  ris : Ris t.place.toList
  dm : t.dummies = #[]
  sz : t.place.size = hs.length
  mok : MaskG t.mask
  bd : ∀ x ∈ t.place.toList, x ≤ t.mask
  reach : ∀ (i : Nat) (h : Int) (j : Nat), hs[i]? = some h → t.place.toList[i]? = some j → ∃ k, way t.mask h k = j ∧ ∀ k', k' < k → way t.mask h k' ∈ t.place.toList
theorem TabG.first {t : SetTable} {hs : List Int} (T : TabG t hs) (hl : hs.length ≤ t.mask) (h : Int) : ∃ K, K < 10 * SetTable.turns t.mask ∧ way t.mask h K ∉ t.place.toList ∧ ∀ k, k < K → way t.mask h k ∈ t.place.toList := by
  have hlen : t.place.toList.length < t.mask + 1 := by have := T.sz; rw [Array.length_toList]; omega
  obtain ⟨j, hj, hn⟩ := st_missing _ _ hlen
  obtain ⟨k, hk, e⟩ := way_to T.mok h (Nat.le_of_lt_succ hj)
  obtain ⟨K, h1, h2, h3⟩ := st_least (p := fun k => way t.mask h k ∉ t.place.toList) k (by rw [e]; exact hn)
  exact ⟨K, by omega, h2, fun k' hk' => Classical.not_not.mp (h3 k' hk')⟩
theorem TabG.before {t : SetTable} {hs : List Int} (T : TabG t hs) {h : Int} {K i j : Nat} (hK : way t.mask h K ∉ t.place.toList) (hi : hs[i]? = some h) (hj : t.place.toList[i]? = some j) : ∃ k, k < K ∧ way t.mask h k = j := by
  obtain ⟨k, e, hb⟩ := T.reach i h j hi hj
  refine ⟨k, ?_, e⟩
  rcases Nat.lt_trichotomy k K with c | c | c
  · exact c
  · subst c
    rw [e] at hK
    exact absurd (List.mem_of_getElem? hj) hK
  · exact absurd (hb K c) hK
theorem TabG.put {t : SetTable} {hs : List Int} (T : TabG t hs) {h : Int} {K : Nat} (hK : way t.mask h K ∉ t.place.toList) (hb : ∀ k, k < K → way t.mask h k ∈ t.place.toList) :
    ∃ p, (t.put (way t.mask h K)).2 = p ∧ p ≤ hs.length ∧ TabG (t.put (way t.mask h K)).1 (hs.take p ++ h :: hs.drop p) ∧
    (t.put (way t.mask h K)).1.mask = t.mask ∧ (t.put (way t.mask h K)).1.led = t.led ∧ (t.put (way t.mask h K)).1.fill = hs.length + 1 := by
  have hjm : way t.mask h K ≤ t.mask := way_leG
  generalize hj : way t.mask h K = j at hK hjm ⊢
  have c1 := (below_cut T.ris j).1
  refine ⟨SetTable.below t.place j, rfl, ?_, ?_⟩
  · rw [← T.sz]; exact c1
  have hpl : SetTable.below t.place j ≤ t.place.toList.length := by rw [Array.length_toList]; exact c1
  have hph : SetTable.below t.place j ≤ hs.length := by rw [← T.sz]; exact c1
  have hpp := put_place t j
  have hsize : (t.put j).1.place.size = hs.length + 1 := by
    rw [← Array.length_toList, hpp, len_ins _ hpl, Array.length_toList, T.sz]
  have hnp : t.place[SetTable.below t.place j]? ≠ some j := fun e => hK (List.mem_of_getElem? (by rw [Array.getElem?_toList]; exact e))
  have up : ∀ {x : Nat}, x ∈ t.place.toList → x ∈ (t.put j).1.place.toList := fun {x} hx => by rw [hpp]; exact mem_ins.2 (.inr hx)
  refine ⟨⟨ris_insert T.ris hnp, put_dm T.dm j, by rw [len_ins _ hph]; exact hsize, T.mok, fun x hx => ?_, fun i h' j' h1 h2 => ?_⟩, rfl, rfl, ?_⟩
  · rw [hpp] at hx
    rcases mem_ins.1 hx with rfl | z
    · exact hjm
    · exact T.bd x z
  · rw [tins_get hs hph] at h1
    rw [hpp, tins_get _ hpl] at h2
    have old : ∀ i, hs[i]? = some h' → t.place.toList[i]? = some j' → ∃ k, way t.mask h' k = j' ∧ ∀ k', k' < k → way t.mask h' k' ∈ (t.put j).1.place.toList := fun i a b => by
      obtain ⟨k, e, z⟩ := T.reach i h' j' a b
      exact ⟨k, e, fun k' hk' => up (z k' hk')⟩
    show ∃ k, way t.mask h' k = j' ∧ ∀ k', k' < k → way t.mask h' k' ∈ (t.put j).1.place.toList
    by_cases c : i < SetTable.below t.place j
    · rw [if_pos c] at h1 h2
      exact old i h1 h2
    · rw [if_neg c] at h1 h2
      by_cases d : i = SetTable.below t.place j
      · rw [if_pos d] at h1 h2
        cases h1
        cases h2
        exact ⟨K, hj, fun k' hk' => up (hb k' hk')⟩
      · rw [if_neg d] at h1 h2
        exact old (i - 1) h1 h2
  · show (t.put j).1.place.size + (t.put j).1.dummies.size = hs.length + 1
    rw [hsize, put_dm T.dm j]
    rfl
theorem free_G {m : Nat} (hm : MaskG m) (owner : Array (Option Nat)) (h : Int) {j : Nat} (hj : j ≤ m) (hf : oAt owner j = none) :
    ∃ K, SetTable.layClean.free m owner (SetTable.turns m) (SetTable.bits h % (m + 1)) (SetTable.bits h) = some (way m h K) ∧ oAt owner (way m h K) = none ∧ ∀ k, k < K → oAt owner (way m h k) ≠ none := by
  obtain ⟨n, hn, e⟩ := runs_to hm h hj
  have hw : way m h (off m (SetTable.bits h % (m + 1)) (SetTable.bits h) n) = j := by
    show (nth m _ _).j = j
    rw [nth_off, itL_run]
    exact e
  obtain ⟨K, k1, k2, k3⟩ := st_least (p := fun k => oAt owner (way m h k) = none) _ (by rw [hw]; exact hf)
  have some_of : ∀ k, k < K → (oAt owner (way m h k)).isNone = false := fun k hk => by
    have := k3 k hk
    cases z : oAt owner (way m h k) with
    | none => exact absurd z this
    | some _ => rfl
  exact ⟨K, free_spec m owner (SetTable.turns m) n _ _ K (by unfold SetTable.turns; omega) k1 some_of (by show (oAt owner (way m h K)).isNone = true; rw [k2]; rfl), k2, k3⟩
theorem own_step {m : Nat} (hm : MaskG m) {done : List Int} {owner : Array (Option Nat)} (W : Own m done owner) (hl : done.length ≤ m) (h : Int) :
    ∃ j, SetTable.layClean.free m owner (SetTable.turns m) (SetTable.bits h % (m + 1)) (SetTable.bits h) = some j ∧ Own m (done ++ [h]) (owner.setIfInBounds j (some done.length)) := by
  obtain ⟨ps, hps, hin⟩ := W.ps
  obtain ⟨j0, h0, hn0⟩ := st_missing ps (m + 1) (by omega)
  have hj0 : oAt owner j0 = none := by
    cases z : oAt owner j0 with
    | none => rfl
    | some k => exact absurd (hin j0 (by omega) (by rw [z]; exact Option.some_ne_none k)) hn0
  obtain ⟨K, e1, e2, e3⟩ := free_G hm owner h (by omega) hj0
  have hjm : way m h K ≤ m := way_leG
  have hself := oAt_set_self (some done.length) (show way m h K < owner.size by rw [W.sz]; omega)
  have other : ∀ {i : Nat}, i ≠ way m h K → oAt (owner.setIfInBounds (way m h K) (some done.length)) i = oAt owner i := fun hi => oAt_set_ne _ hi
  have mono : ∀ {i : Nat}, oAt owner i ≠ none → oAt (owner.setIfInBounds (way m h K) (some done.length)) i ≠ none := fun {i} hi => by
    by_cases c : i = way m h K
    · rw [c, hself]; exact Option.some_ne_none _
    · rw [other c]; exact hi
  refine ⟨way m h K, e1, by rw [Array.size_setIfInBounds]; exact W.sz, fun j k hj e => ?_, fun k hk => ?_, way m h K :: ps, by simp [hps], fun j hj e => ?_⟩
  · by_cases c : j = way m h K
    · rw [c, hself] at e
      cases e
      exact ⟨h, K, by simp, c.symm, fun k' hk' => mono (e3 k' hk')⟩
    · rw [other c] at e
      obtain ⟨h', K', a1, a2, a3⟩ := W.at_ j k hj e
      exact ⟨h', K', by rw [List.getElem?_append_left (List.getElem?_eq_some_iff.mp a1).1]; exact a1, a2, fun k' hk' => mono (a3 k' hk')⟩
  · by_cases c : k < done.length
    · obtain ⟨j, hj, e⟩ := W.all k c
      exact ⟨j, hj, by rw [other (fun z => by rw [z, e2] at e; cases e)]; exact e⟩
    · have : k = done.length := by simp at hk; omega
      subst this
      exact ⟨_, hjm, hself⟩
  · by_cases c : j = way m h K
    · rw [c]; exact List.mem_cons_self
    · rw [other c] at e
      exact List.mem_cons_of_mem _ (hin j hj e)
theorem own_fold {m : Nat} (hm : MaskG m) : ∀ (rest done : List Int) (owner : Array (Option Nat)), Own m done owner → done.length + rest.length ≤ m →
    ∃ owner', rest.foldl (stepF m) (some (owner, done.length)) = some (owner', (done ++ rest).length) ∧ Own m (done ++ rest) owner'
  | [], done, owner, W, _ => ⟨owner, by simp, by simpa using W⟩
  | h :: rest, done, owner, W, hl => by
    simp only [List.length_cons] at hl
    obtain ⟨j, e, W'⟩ := own_step hm W (by omega) h
    obtain ⟨owner', f, W2⟩ := own_fold hm rest (done ++ [h]) _ W' (by simp; omega)
    have ea : done ++ [h] ++ rest = done ++ h :: rest := by simp
    rw [ea] at f W2
    refine ⟨owner', ?_, W2⟩
    rw [List.foldl_cons, stepF_some e, ← f]
    simp
theorem relaid_G (t : SetTable) {hs : Array Int} {wanted M : Nat} (hw : SetTable.sizeAbove wanted - 1 = M) (hM : MaskG M) (hn : hs.size ≤ M) :
    ∃ t' order, t.relaid hs wanted = some (t', order) ∧ order.toList.Perm (List.range hs.size) ∧ TabG t' (order.toList.map fun i => hs.getD i 0) ∧ t'.mask = M ∧ t'.led = t.led := by
  obtain ⟨owner, f, W⟩ := own_fold hM hs.toList [] _ (Own.init M) (by simpa using hn)
  rw [List.nil_append] at f W
  have e : SetTable.layClean M hs = some owner := by
    rw [layClean_eq]
    rw [show ([] : List Int).length = 0 from rfl] at f
    rw [f]
    rfl
  have hr : t.relaid hs wanted = some (tabOf t M owner, ((liveOf M owner).map (·.2)).toArray) := by
    rw [relaid_eq, hw, e]
    rfl
  have ris := ris_live (fun j => owner.getD j none) (List.range (M + 1)) (by
    unfold Ris
    first | exact List.pairwise_lt_range | exact List.pairwise_lt_range _)
  have r1 : Ris ((liveOf M owner).map (·.1)) := ris.1
  have r2 : ∀ x ∈ (liveOf M owner).map (·.1), x ∈ List.range (M + 1) := ris.2
  have nd : ((liveOf M owner).map (·.1)).Nodup := List.Pairwise.imp (fun h => Nat.ne_of_lt h) r1
  have hlen : (liveOf M owner).length = hs.size := by
    obtain ⟨ps, p1, p2⟩ := W.ps
    have a := nat_nodup_len ((liveOf M owner).map (·.1)) ps nd fun x hx => by
      obtain ⟨⟨y, k⟩, hq, rfl⟩ := List.mem_map.mp hx
      obtain ⟨b1, b2⟩ := (mem_live W.sz).1 hq
      exact p2 y b1 (by rw [b2]; exact Option.some_ne_none k)
    have b := nat_nodup_len (List.range hs.size) ((liveOf M owner).map (·.2)) List.nodup_range fun k hk => by
      obtain ⟨j, b1, b2⟩ := W.all k (by rw [Array.length_toList]; exact List.mem_range.mp hk)
      exact List.mem_map.mpr ⟨(j, k), (mem_live W.sz).2 ⟨b1, b2⟩, rfl⟩
    have hz : hs.toList.length = hs.size := rfl
    rw [List.length_map, p1, hz] at a
    rw [List.length_map, List.length_range] at b
    omega
  refine ⟨_, _, hr, ?_, ⟨r1, rfl, ?_, hM, fun x hx => Nat.le_of_lt_succ (List.mem_range.mp (r2 x hx)), fun i h j h1 h2 => ?_⟩, rfl, rfl⟩
  · refine perm_range hs.size _ (by simpa using hlen) fun k hk => ?_
    obtain ⟨j, b1, b2⟩ := W.all k (by rw [Array.length_toList]; exact hk)
    exact List.mem_map.mpr ⟨(j, k), (mem_live W.sz).2 ⟨b1, b2⟩, rfl⟩
  · simp [tabOf]
  · have h1' : (((liveOf M owner).map (·.2)).map fun i => hs.getD i 0)[i]? = some h := h1
    have h2' : ((liveOf M owner).map (·.1))[i]? = some j := h2
    rw [List.getElem?_map, List.getElem?_map] at h1'
    rw [List.getElem?_map] at h2'
    cases hq : (liveOf M owner)[i]? with
    | none => rw [hq] at h2'; cases h2'
    | some q =>
      obtain ⟨y, k⟩ := q
      rw [hq] at h1' h2'
      simp only [Option.map_some, Option.some.injEq] at h1' h2'
      subst h2'
      obtain ⟨b1, b2⟩ := (mem_live W.sz).1 (List.mem_of_getElem? hq)
      obtain ⟨h0, K, a1, a2, a3⟩ := W.at_ y k b1 b2
      have e0 : hs.getD k 0 = h0 := by
        rw [Array.getD_eq_getD_getElem?, ← Array.getElem?_toList, a1]
        rfl
      rw [e0] at h1'
      subst h1'
      refine ⟨K, a2, fun k' hk' => ?_⟩
      show way M h0 k' ∈ (liveOf M owner).map (·.1)
      cases z : oAt owner (way M h0 k') with
      | none => exact absurd z (a3 k' hk')
      | some k2 => exact List.mem_map.mpr ⟨(way M h0 k', k2), (mem_live W.sz).2 ⟨way_leG, z⟩, rfl⟩
theorem size_of_grown : SetTable.sizeAbove (SetTable.grown 5) = 32 ∧ SetTable.sizeAbove (SetTable.grown 19) = 128 ∧ SetTable.sizeAbove (SetTable.grown 77) = 512 := by decide +kernel
end Mi

namespace Mi
open PySem PySem.Spec PyProof.Rows L2

section
variable {P : Program} {w : World} {A : Around} {E : Value → Shared → Prop} {s : Shared}
def IsN (h : Heap) (k : NestedKey) (a : Addr) : Prop := NestedIs h k (.ref a) ∧ k.depth ≤ 8
theorem IsN.tup {h : Heap} {k : NestedKey} {a : Addr} (x : IsN h k a) : ∃ o vs n ks, k = .tup ks ∧ h.get? a = some o ∧ o.cls = .type "tuple" ∧ o.data = .seq vs n ∧ NestedAll h ks vs.toList := by
  obtain ⟨x, _⟩ := x
  cases x with
  | tup h1 h2 h3 h4 => exact ⟨_, _, _, _, rfl, h1, h2, h3, h4⟩
theorem IsN.keeps {h h' : Heap} {k : NestedKey} {a b : Addr} {o : Obj} {es : Array (Int × Value)} {ep : Nat} {t : SetTable} (x : IsN h k b) (ho : h.get? a = some o) (hd : o.data = .set es ep t) (hs : Heap.SameBut a h h') : IsN h' k b :=
  ⟨NestedIs.at (fun c ob vs n hb hc => by
    refine (hs.2 c fun e => ?_).trans hb
    subst e
    rw [ho] at hb
    cases hb
    rw [hd] at hc
    cases hc) k _ x.1, x.2⟩
theorem IsN.at {h h' : Heap} {k : NestedKey} {b : Addr} (x : IsN h k b) (hk : ∀ c o, h.get? c = some o → h'.get? c = some o) : IsN h' k b := ⟨NestedIs.at (fun c o _ _ e _ => hk c o e) k _ x.1, x.2⟩
theorem hashBy_key : ∀ (n : Nat) (k : NestedKey) (v : Value) (s : Shared) (E : Value → Shared → Prop) (Q : Bool → Shared → Prop), NestedIs s.heap k v → (∀ b, Q b s) → wpAny (model P w) A (hashByValue n v) Q E s := by
  intro n
  induction n with
  | zero =>
    intro k v s E Q x h
    cases x <;> exact wpAny_pure (h _)
  | succ n ih =>
    intro k v s E Q x h
    cases x with
    | none => exact wpAny_pure (h _)
    | bool _ => exact wpAny_pure (h _)
    | int i t => exact wpAny_pure (h _)
    | text y t => exact wpAny_pure (h _)
    | @tup a o vs m ks ho hc hd hk =>
      unfold hashByValue
      refine wpAny_bind (wpAny_specialOf ⟨o, ho, hc⟩ F.slot_tuple_hash.lookup ?_)
      show wpAny _ _ (seqItems? (.ref a) >>= _) _ _ s
      refine wpAny_bind (wpAny_seqItems ho hd ?_)
      refine wpAny_bind ?_
      show wpAny _ _ (forIn vs _ _) _ _ s
      rw [← Array.forIn_toList]
      refine wpAny_forIn_list _ (fun rest r s' => r.1 = none ∧ s' = s ∧ ∃ ks, NestedAll s.heap ks rest) _ ?_ ?_ _ _ ⟨rfl, rfl, ks, hk⟩
      · rintro v rest r s' ⟨hr, rfl, ks, hall⟩
        cases hall with
        | @cons k _ ks _ h1 h2 =>
          refine wpAny_bind (ih k v s' E _ h1 fun b => ?_)
          cases b with
          | true =>
            simp only [Bool.not_true, Bool.false_eq_true, if_false]
            exact wpAny_pure ⟨rfl, rfl, ks, h2⟩
          | false =>
            simp only [Bool.not_false, if_true]
            exact wpAny_pure (wpAny_pure (h false))
      · rintro ⟨r1, r2⟩ s' ⟨hr, rfl, _⟩
        simp only at hr
        subst hr
        exact wpAny_pure (h true)
theorem ofAClass_key : ∀ (n : Nat) (k : NestedKey) (v : Value) (s : Shared) (E : Value → Shared → Prop) (Q : Bool → Shared → Prop), NestedIs s.heap k v → k.depth ≤ n → Q false s → wpAny (model P w) A (ofAClassStatement n v) Q E s := by
  intro n
  induction n with
  | zero =>
    intro k v s E Q x hn h
    cases x with
    | tup _ _ _ _ => simp [NestedKey.depth] at hn
    | _ => exact wpAny_pure h
  | succ n ih =>
    intro k v s E Q x hn h
    cases x with
    | none => exact wpAny_pure h
    | bool _ => exact wpAny_pure h
    | int i t => exact wpAny_pure h
    | text y t => exact wpAny_pure h
    | @tup a o vs m ks ho hc hd hk =>
      simp only [NestedKey.depth] at hn
      unfold ofAClassStatement
      refine wpAny_bind (wpAny_typeOf (T := "tuple") ⟨o, ho, hc⟩ ?_)
      dsimp only
      have e : (("tuple" : String) == "tuple") = true := by decide
      simp only [e, if_true, Bool.not_true, Bool.false_eq_true, if_false]
      try refine wpAny_bind (wpAny_pure ?_)
      try simp only [Bool.not_true, Bool.false_eq_true, if_false]
      show wpAny _ _ (seqItems? (.ref a) >>= _) _ _ s
      refine wpAny_bind (wpAny_seqItems ho hd ?_)
      dsimp only
      refine wpAny_bind ?_
      show wpAny _ _ (forIn vs _ _) _ _ s
      rw [← Array.forIn_toList]
      refine wpAny_forIn_list _ (fun rest r s' => r.1 = none ∧ s' = s ∧ ∃ ks, NestedAll s.heap ks rest ∧ NestedKey.depthAll ks ≤ n) _ ?_ ?_ _ _ ⟨rfl, rfl, ks, hk, by omega⟩
      · rintro v rest r s' ⟨hr, rfl, ks, hall, hn⟩
        cases hall with
        | @cons k _ ks _ h1 h2 =>
          simp only [NestedKey.depthAll] at hn
          refine wpAny_bind (ih k v s' E _ h1 (by omega) ?_)
          simp only [Bool.false_eq_true, if_false]
          exact wpAny_pure ⟨rfl, rfl, ks, h2, by omega⟩
      · rintro ⟨r1, r2⟩ s' ⟨hr, rfl, _⟩
        simp only at hr
        subst hr
        exact wpAny_pure h
theorem seen_key {k : NestedKey} {b : Addr} {Q : Bool → Shared → Prop} (hk : IsN s.heap k b) {ys : List Value} (hy : ∀ y ∈ ys, ∃ k' c, y = Value.ref c ∧ IsN s.heap k' c) (h : Q false s) :
    wpAny (model P w) A (searchCouldBeSeen (.ref b) ys) Q E s := by
  unfold searchCouldBeSeen
  refine wpAny_bind ?_
  refine wpAny_forIn_list _ (fun rest r s' => r.1 = none ∧ s' = s ∧ ∀ y ∈ rest, ∃ k' c, y = Value.ref c ∧ IsN s.heap k' c) _ ?_ ?_ _ _ ⟨rfl, rfl, hy⟩
  · rintro v rest r s' ⟨hr, rfl, hall⟩
    obtain ⟨k', c, rfl, hc⟩ := hall v List.mem_cons_self
    have rest' := fun u hu => hall u (List.mem_cons_of_mem _ hu)
    dsimp only
    by_cases hv : (b == c || (carriedByValue (.ref b) && carriedByValue (.ref c))) = true
    · exact wp_if_pos hv (wpAny_pure ⟨rfl, rfl, rest'⟩)
    · refine wp_if_neg hv ?_
      refine wpAny_bind (quiet_key _ _ 8 s' hk.1 hk.2 A E _ ?_)
      simp only [Bool.not_true, Bool.false_eq_true, if_false]
      refine wpAny_bind (quiet_key _ _ 8 s' hc.1 hc.2 A E _ ?_)
      simp only [Bool.not_true, Bool.false_eq_true, if_false]
      refine wpAny_bind (ofAClass_key 8 _ _ s' E _ hk.1 hk.2 ?_)
      simp only [Bool.false_eq_true, if_false]
      refine wpAny_bind (ofAClass_key 8 _ _ s' E _ hc.1 hc.2 ?_)
      simp only [Bool.false_eq_true, if_false]
      exact wpAny_pure ⟨rfl, rfl, rest'⟩
  · rintro ⟨r1, r2⟩ s' ⟨hr, rfl, _⟩
    simp only at hr
    subst hr
    exact wpAny_pure h

abbrev rowN (w : World) (p : NestedKey × Addr) : Int × Value := (p.1.hash w, .ref p.2)
def mostN : Nat := 300
structure SetN (w : World) (h : Heap) (a : Addr) (L : List (NestedKey × Addr)) (es : Array (Int × Value)) (ep : Nat) (t : SetTable) : Prop where
  ob : ∃ o, h.get? a = some o ∧ o.ExactSet ∧ o.data = .set es ep t
  rows : es.toList = L.map (rowN w)
  tab : TabG t (L.map fun p => p.1.hash w)
  nd : (L.map (·.1)).Nodup
  is : ∀ p ∈ L, IsN h p.1 p.2
  led : w.params.followText "set-order" = true ∨ t.led = true
  room : L.length * 5 < t.mask * 3
  few : L.length ≤ mostN
variable {a : Addr} {L : List (NestedKey × Addr)} {es : Array (Int × Value)} {ep : Nat} {t : SetTable}
theorem SetN.size (R : SetN w s.heap a L es ep t) : es.size = L.length := by
  have h := congrArg List.length R.rows
  rw [List.length_map] at h
  exact h
theorem SetN.fits (R : SetN w s.heap a L es ep t) : t.fits es.size = true := by
  have h1 := R.tab.sz
  rw [List.length_map] at h1
  have h2 := R.size
  have h3 := R.room
  unfold SetTable.fits SetTable.fill
  rw [R.tab.dm, Bool.and_eq_true, beq_iff_eq, decide_eq_true_eq]
  show t.place.size = es.size ∧ t.place.size + 0 ≤ t.mask
  omega
theorem SetN.entry (R : SetN w s.heap a L es ep t) {i : Nat} {p : NestedKey × Addr} (h : L[i]? = some p) : es[i]? = some (rowN w p) := by
  rw [← Array.getElem?_toList, R.rows, List.getElem?_map, h]
  rfl
theorem mask_oddG {m : Nat} (h : MaskG m) : m % 2 = 1 := by rcases h with rfl | rfl | rfl | rfl <;> rfl
theorem SetN.gw (R : SetN w s.heap a L es ep t) : ¬ t.gaveWay = true := by
  unfold SetTable.gaveWay
  rw [mask_oddG R.tab.mok]
  decide
theorem nth_dummy (m : Nat) : ∀ (n : Nat) (p : SetTable.Probe), p.dummy = none → (nth m p n).dummy = none := by
  intro n
  induction n with
  | zero => intro p h; exact h
  | succ n ih =>
    intro p h
    refine ih (adv m p) ?_
    unfold adv
    split <;> exact h
abbrev walkN (m : Nat) (h : Int) (c : Nat) : SetTable.Probe := nth m (runAt m (SetTable.bits h % (m + 1)) (SetTable.bits h)) c
theorem walkN_add (m : Nat) (h : Int) (c q : Nat) : nth m (walkN m h c) q = walkN m h (c + q) := (nth_add m c _ q).symm

theorem search_N (R : SetN w s.heap a L es ep t) {x : Addr} {k : NestedKey} (hx : IsN s.heap k x) (hu : A.units + 8 < cLine) {K : Nat} (hKf : K < 10 * SetTable.turns t.mask)
    (hK : way t.mask (k.hash w) K ∉ t.place.toList) (hKb : ∀ c, c < K → way t.mask (k.hash w) c ∈ t.place.toList) {Q : SetFound → Shared → Prop}
    (hin : k ∈ L.map (·.1) → Q (.there none) s) (hout : k ∉ L.map (·.1) → Q (.free (way t.mask (k.hash w) K) false) s) :
    ∀ (f c : Nat) (stand : Option SetTable.Probe), stand.getD (t.probeStart (k.hash w)) = walkN t.mask (k.hash w) c → c ≤ K → K - c < f →
      (∀ (i : Nat) p, L[i]? = some p → p.1 = k → ∃ c', c ≤ c' ∧ c' < K ∧ t.place.toList[i]? = some (way t.mask (k.hash w) c')) →
      wpAny (model P w) A (setSearchFrom a (.ref x) (k.hash w) true f stand) Q E s := by
  obtain ⟨o, ho, hex, hd⟩ := R.ob
  generalize hH : k.hash w = H at hK hKb hout ⊢
  intro f
  induction f with
  | zero => intro c stand _ _ hf _; exact absurd hf (Nat.not_lt_zero _)
  | succ f ih =>
    intro c stand hst hc hf hre
    rw [setSearchFrom_succ]
    refine wpAny_bind (wpAny_setState_of ho hd R.fits ?_)
    dsimp only
    refine wp_if_neg R.gw ?_
    try refine wpAny_bind (wpAny_pure ?_)
    have e1 : ∀ q, (nth t.mask (walkN t.mask H c) q).j = way t.mask H (c + q) := fun q => congrArg SetTable.Probe.j (walkN_add t.mask H c q)
    have spec := go_spec t R.tab.ris R.tab.dm (fun i => (es[i]?.map (·.1)).getD 0) H (10 * SetTable.turns t.mask) (K - c) (walkN t.mask H c) (nth_dummy _ _ _ rfl) (by omega)
      (fun q hq => by rw [e1]; exact hKb (c + q) (by omega)) (by rw [e1, show c + (K - c) = K by omega]; exact hK)
    have hashAt : ∀ (i : Nat) p, L[i]? = some p → (fun i => (es[i]?.map (·.1)).getD 0) i = p.1.hash w := fun i p hp => by
      dsimp only
      rw [R.entry hp]
      rfl
    rcases spec with ⟨q, i, hq, hi, hh, hno, hpr⟩ | ⟨hno, hpr⟩
    · have hpr' : t.probe (fun i => (es[i]?.map (·.1)).getD 0) H (stand.getD (t.probeStart H)) = some (.candidate (way t.mask H (c + q)) i (walkN t.mask H (c + (q + 1)))) := by
        rw [hst, ← e1, ← walkN_add]
        exact hpr
      rw [hpr']
      dsimp only
      rw [e1] at hi
      have hil : i < L.length := by
        have h1 := (List.getElem?_eq_some_iff.mp hi).1
        have h2 := R.tab.sz
        rw [List.length_map] at h2
        rw [Array.length_toList] at h1
        omega
      obtain ⟨p, hp⟩ : ∃ p, L[i]? = some p := ⟨_, List.getElem?_eq_getElem hil⟩
      have hmem : p ∈ L := List.mem_of_getElem? hp
      have hpt := R.is p hmem
      have rest : wpAny (model P w) A (searchRest a (.ref x) H true f es t (way t.mask H (c + q)) i (walkN t.mask H (c + (q + 1)))) Q E s := by
        unfold searchRest
        rw [R.entry hp]
        dsimp only
        refine wpAny_bind (wpAny_holding (eqAt_key p.1 k A s _ _ hpt.1 hx.1 (by have := hpt.2; omega) _ _ _ _ ?_))
        refine wpAny_bind (wpAny_setState_of ho hd R.fits ?_)
        dsimp only
        rw [← NestedKey.decide_eq]
        by_cases hkk : p.1 = k
        · exact wp_if_pos (by simp [hkk]) (wpAny_pure (hin (List.mem_map.mpr ⟨p, hmem, hkk⟩)))
        · refine wp_if_neg (by simp [hkk]) ?_
          try refine wpAny_bind (wpAny_pure ?_)
          rw [sameMem]
          dsimp only
          have hsl : t.slot (way t.mask H (c + q)) = .live i := slot_live R.tab.ris hi
          simp only [if_true, hsl, R.entry hp]
          refine wpAny_bind (wpAny_isSame_ref_self (wpAny_bind (wpAny_pure ?_)))
          simp only [if_true]
          refine wp_if_neg (by simp [hkk]) ?_
          refine ih (c + (q + 1)) _ rfl (by omega) (by omega) fun i0 p0 h0 hk0 => ?_
          obtain ⟨c', a1, a2, a3⟩ := hre i0 p0 h0 hk0
          refine ⟨c', ?_, a2, a3⟩
          have hh0 := (hashAt i0 p0 h0).trans (by rw [hk0, hH])
          rcases Nat.lt_trichotomy c' (c + q) with z | z | z
          · exact absurd hh0 (hno (c' - c) i0 (by omega) (by rw [e1, show c + (c' - c) = c' by omega]; exact a3))
          · subst z
            have s0 := slot_live R.tab.ris a3
            rw [hsl] at s0
            injection s0 with s0
            subst s0
            rw [hp] at h0
            cases h0
            exact absurd hk0 hkk
          · omega
      by_cases hl : t.led = true
      · refine wp_if_neg (by simp [hl]) ?_
        try refine wpAny_bind (wpAny_pure ?_)
        exact rest
      · refine wp_if_pos (by simp [hl]) ?_
        refine wpAny_bind (seen_key hx (fun y hy => ?_) ?_)
        · obtain ⟨e, he, ee⟩ := List.mem_map.mp hy
          have he1 : e ∈ es ∧ e.1 = H := by simpa using he
          have he2 : e ∈ es.toList := by simpa using he1.1
          rw [R.rows] at he2
          obtain ⟨p2, hp2, e2⟩ := List.mem_map.mp he2
          exact ⟨p2.1, p2.2, by rw [← ee, ← e2], R.is p2 hp2⟩
        · refine wp_if_neg (by decide) ?_
          try refine wpAny_bind (wpAny_pure ?_)
          exact rest
    · have hpr' : t.probe (fun i => (es[i]?.map (·.1)).getD 0) H (stand.getD (t.probeStart H)) = some (.empty (way t.mask H K) none) := by
        have e2 : way t.mask H K = (nth t.mask (walkN t.mask H c) (K - c)).j := by rw [e1, show c + (K - c) = K by omega]
        rw [hst, e2]
        exact hpr
      rw [hpr']
      dsimp only
      refine wpAny_pure (hout fun hm => ?_)
      obtain ⟨p0, h0, hk0⟩ := List.mem_map.mp hm
      obtain ⟨i0, hi0⟩ := List.getElem?_of_mem h0
      obtain ⟨c', a1, a2, a3⟩ := hre i0 p0 hi0 hk0
      exact hno (c' - c) i0 (by omega) (by rw [e1, show c + (c' - c) = c' by omega]; exact a3) ((hashAt i0 p0 hi0).trans (by rw [hk0, hH]))
theorem search_atN (R : SetN w s.heap a L es ep t) {x : Addr} {k : NestedKey} (hx : IsN s.heap k x) (hu : A.units + 8 < cLine) {Q : SetFound → Shared → Prop}
    (hin : k ∈ L.map (·.1) → Q (.there none) s)
    (hout : ∀ K, k ∉ L.map (·.1) → way t.mask (k.hash w) K ∉ t.place.toList → (∀ c, c < K → way t.mask (k.hash w) c ∈ t.place.toList) → Q (.free (way t.mask (k.hash w) K) false) s) :
    wpAny (model P w) A (setSearch a (.ref x) (k.hash w) true) Q E s := by
  have hroom := R.room
  obtain ⟨K, hKf, hK, hKb⟩ := R.tab.first (by rw [List.length_map]; omega) (k.hash w)
  have hbig : K < 100000 := by
    have : 10 * SetTable.turns t.mask ≤ 6000 := by
      unfold SetTable.turns
      rcases R.tab.mok with e | e | e | e <;> omega
    omega
  unfold setSearch
  refine search_N R hx hu hKf hK hKb hin (fun hn => hout K hn hK hKb) 100000 0 none rfl (Nat.zero_le _) (by omega) fun i p hp hk => ?_
  have hi : (L.map fun p => p.1.hash w)[i]? = some (k.hash w) := by rw [List.getElem?_map, hp, ← hk]; rfl
  have hil : i < t.place.toList.length := by
    have h1 := (List.getElem?_eq_some_iff.mp hp).1
    have h2 := R.tab.sz
    rw [List.length_map] at h2
    rw [Array.length_toList]
    omega
  have hj := List.getElem?_eq_getElem hil
  obtain ⟨c, hc, e⟩ := R.tab.before hK hi hj
  exact ⟨c, Nat.zero_le _, hc, by rw [hj, e]⟩

theorem order_N (L : List (NestedKey × Addr)) (es : Array (Int × Value)) (order : Array Nat) (hr : es.toList = L.map (rowN w)) (hp : order.toList.Perm (List.range L.length)) :
    ∃ L2 : List (NestedKey × Addr), (order.filterMap (es[·]?)).toList = L2.map (rowN w) ∧ L2.Perm L ∧ (L2.map fun p => p.1.hash w) = order.toList.map fun i => (es.map (·.1)).getD i 0 := by
  have ent : ∀ i (h : i < L.length), es[i]? = some (rowN w L[i]) := fun i h => by
    rw [← Array.getElem?_toList, hr, List.getElem?_map, List.getElem?_eq_getElem h]
    rfl
  have key : ∀ l : List Nat, (∀ i ∈ l, i < L.length) → l.filterMap (fun i => es[i]?) = (l.filterMap (fun i => L[i]?)).map (rowN w) ∧ ((l.filterMap (fun i => L[i]?)).map fun p => p.1.hash w) = l.map fun i => (es.map (·.1)).getD i 0 := by
    intro l
    induction l with
    | nil => intro _; exact ⟨rfl, rfl⟩
    | cons i l ih =>
      intro hl
      have hi := hl i List.mem_cons_self
      obtain ⟨e1, e2⟩ := ih fun j hj => hl j (List.mem_cons_of_mem _ hj)
      rw [List.filterMap_cons_some (ent i hi), List.filterMap_cons_some (List.getElem?_eq_getElem hi), e1]
      refine ⟨rfl, ?_⟩
      rw [List.map_cons, List.map_cons, e2]
      have e5 : (es.map (·.1))[i]? = some (L[i].1.hash w) := by rw [Array.getElem?_map, ent i hi]; rfl
      simp [Array.getD_eq_getD_getElem?, e5]
  obtain ⟨e1, e2⟩ := key order.toList fun i hi => List.mem_range.mp (hp.mem_iff.mp hi)
  refine ⟨_, by rw [Array.toList_filterMap]; exact e1, ?_, e2⟩
  have h1 := hp.filterMap (fun i => L[i]?)
  have h2 : (List.range L.length).filterMap (fun i => L[i]?) = L := by
    have key2 : ∀ n, n ≤ L.length → (List.range n).filterMap (fun i => L[i]?) = L.take n := by
      intro n
      induction n with
      | zero => intro _; simp
      | succ n ih =>
        intro hn
        rw [List.range_succ, List.filterMap_append, ih (by omega), List.take_succ, List.getElem?_eq_getElem (show n < L.length from hn)]
        simp [List.getElem?_eq_getElem (show n < L.length from hn)]
    rw [key2 _ (Nat.le_refl _), List.take_length]
  rw [h2] at h1
  exact h1
theorem relay_N {o : Obj} (ho : s.heap.get? a = some o) (hex : o.ExactSet) (hd : o.data = .set es ep t) (hrows : es.toList = L.map (rowN w)) (hsz : t.place.size = es.size) (hdm : t.dummies = #[]) (hfl : es.size ≤ t.mask)
    (nd : (L.map (·.1)).Nodup) (is : ∀ p ∈ L, IsN s.heap p.1 p.2) (ld : w.params.followText "set-order" = true ∨ t.led = true) (few : L.length ≤ mostN) {wanted M : Nat}
    (hw : SetTable.sizeAbove wanted - 1 = M) (hM : MaskG M) (hw2 : SetTable.sizeAbove wanted ≤ 512) (hn : L.length * 5 < M * 3) {Q : Unit → Shared → Prop}
    (hQ : ∀ h' L' es' ep' t', Heap.SameBut a s.heap h' → SetN w h' a L' es' ep' t' → L'.Perm L → Q () { s with heap := h' }) : wpAny (model P w) A (setRelay a wanted) Q E s := by
  have hsl : es.size = L.length := by
    have h := congrArg List.length hrows
    rw [List.length_map] at h
    exact h
  have hfits : t.fits es.size = true := by
    unfold SetTable.fits SetTable.fill
    rw [hdm, Bool.and_eq_true, beq_iff_eq, decide_eq_true_eq]
    show t.place.size = es.size ∧ t.place.size + 0 ≤ t.mask
    omega
  obtain ⟨t', order, e, hp, T, em, el⟩ := relaid_G t (hs := es.map (·.1)) (wanted := wanted) hw hM (by rw [Array.size_map, hsl]; omega)
  rw [Array.size_map, hsl] at hp
  obtain ⟨L2, r1, r2, r3⟩ := order_N L es order hrows hp
  rw [← r3] at T
  have hs2 : (order.filterMap (es[·]?)).size = es.size := by
    have h := congrArg List.length r1
    rw [List.length_map, r2.length_eq, ← hsl] at h
    exact h
  rw [setRelay_eq]
  refine wpAny_bind (wpAny_setState_of ho hd hfits ?_)
  dsimp only
  refine wp_if_neg (by rw [sizeLine_eq]; omega) ?_
  try refine wpAny_bind (wpAny_pure ?_)
  rw [e]
  dsimp only
  refine wpAny_bind ?_
  refine wp_if_neg (by rw [hs2]; simp) ?_
  try refine wpAny_bind (wpAny_pure ?_)
  refine wpAny_pure ?_
  dsimp only
  unfold mostN at few
  refine wpAny_storeSet_of ho hd ?_ (by rw [hs2, hsl, sizeLine_eq]; omega)
  have sb : Heap.SameBut a s.heap (s.heap.update a (Obj.putSet (order.filterMap (es[·]?)) t')) := Heap.SameBut.update ..
  refine hQ _ L2 (order.filterMap (es[·]?)) (ep + 1) t' sb ?_ r2
  refine ⟨⟨_, store_at ho hd, ⟨hex.1, hex.2.1, hex.2.2⟩, rfl⟩, r1, T, (r2.map (·.1)).nodup_iff.mpr nd, fun p hpm => (is p (r2.mem_iff.mp hpm)).keeps ho hd sb, by rw [el]; exact ld, ?_, by rw [r2.length_eq]; exact few⟩
  rw [r2.length_eq, em]
  exact hn
theorem put_one {α : Type} (L : List α) (p : Nat) (x : α) : (L.take p ++ x :: L.drop p).Perm (x :: L) := by
  have := List.perm_middle (a := x) (l₁ := L.take p) (l₂ := L.drop p)
  rwa [List.take_append_drop] at this
theorem add_N (R : SetN w s.heap a L es ep t) {x : Addr} {k : NestedKey} (hx : IsN s.heap k x) (hu : A.units + 8 < cLine) (hfew : L.length + 1 ≤ mostN) {Q : Bool → Shared → Prop}
    (hQ : ∀ b h' L' es' ep' t', Heap.SameBut a s.heap h' → SetN w h' a L' es' ep' t' → (k ∈ L.map (·.1) → L' = L) → (k ∉ L.map (·.1) → L'.Perm ((k, x) :: L)) → Q b { s with heap := h' }) :
    wpAny (model P w) A (setAddHashed a (.ref x) (k.hash w)) Q E s := by
  obtain ⟨o, ho, hex, hd⟩ := R.ob
  have hsl := R.size
  have hroom := R.room
  unfold setAddHashed
  refine wpAny_holding ?_
  rw [show (100000 : Nat) = 99999 + 1 from rfl, setAddHashedIn_succ]
  refine wpAny_bind (wpAny_setState_of ho hd R.fits ?_)
  dsimp only
  refine wp_if_neg (by simp [byScan, Value.scannable]) ?_
  try refine wpAny_bind (wpAny_pure ?_)
  refine wpAny_bind (search_atN R hx hu (fun hm => ?_) fun K hm hK hb => ?_)
  · dsimp only
    exact wpAny_pure (hQ false s.heap L es ep t (Heap.SameBut.refl a s.heap) R (fun _ => rfl) fun z => absurd hm z)
  · dsimp only
    refine wpAny_bind (wpAny_setState_of ho hd R.fits ?_)
    dsimp only
    obtain ⟨p, q1, q2, q3, q4, q5, q9⟩ := R.tab.put hK hb
    generalize t.put (way t.mask (k.hash w) K) = pt at q1 q3 q4 q5 q9 ⊢
    obtain ⟨t1, p'⟩ := pt
    dsimp only at q1 q3 q4 q5 q9 ⊢
    subst q1
    have hin : (SetTable.insertAt es p' (k.hash w, Value.ref x)).toList = (L.take p' ++ (k, x) :: L.drop p').map (rowN w) := by
      rw [SetTable.toList_insertAt, R.rows]
      simp [List.map_take, List.map_drop]
    have pm := put_one L p' (k, x)
    have hlen := pm.length_eq
    rw [List.length_cons] at hlen
    have hhs : (L.take p' ++ (k, x) :: L.drop p').map (fun p => p.1.hash w) = (L.map fun p => p.1.hash w).take p' ++ k.hash w :: (L.map fun p => p.1.hash w).drop p' := by simp [List.map_take, List.map_drop]
    rw [← hhs] at q3
    have nd1 : ((L.take p' ++ (k, x) :: L.drop p').map (·.1)).Nodup := by
      refine (pm.map (·.1)).nodup_iff.mpr ?_
      rw [List.map_cons]
      exact List.nodup_cons.mpr ⟨hm, R.nd⟩
    have hes : (SetTable.insertAt es p' (k.hash w, Value.ref x)).size = L.length + 1 := by
      have h := congrArg List.length hin
      rw [List.length_map, hlen] at h
      exact h
    generalize SetTable.insertAt es p' (k.hash w, Value.ref x) = es1 at hin hes ⊢
    generalize L.take p' ++ (k, x) :: L.drop p' = L1 at pm hlen q3 nd1 hin
    have fin : ∀ t2 : SetTable, t2.place = t1.place → t2.dummies = t1.dummies → t2.mask = t1.mask → t2.led = t1.led →
        wpAny (model P w) A (do
          storeSet a es1 t2
          if !false && t2.tooFull then setRelay a (SetTable.grown (es.size + 1))
          return true) Q E s := by
      intro t2 z1 z2 z3 z4
      have q3' : TabG t2 (L1.map fun p => p.1.hash w) := ⟨by rw [z1]; exact q3.ris, by rw [z2]; exact q3.dm, by rw [z1]; exact q3.sz, by rw [z3]; exact q3.mok, by rw [z1, z3]; exact q3.bd, by rw [z1, z3]; exact q3.reach⟩
      have ef : t2.fill = L.length + 1 := by
        unfold SetTable.fill at q9 ⊢
        rw [z1, z2, q9, List.length_map]
      have hb : L1.length ≤ 300 := by unfold mostN at hfew; omega
      refine wpAny_bind (wpAny_storeSet_of ho hd ?_ (by rw [hes, sizeLine_eq]; omega))
      have sb : Heap.SameBut a s.heap (s.heap.update a (Obj.putSet es1 t2)) := Heap.SameBut.update ..
      have ho1 := store_at (es' := es1) (t' := t2) ho hd
      generalize s.heap.update a (Obj.putSet es1 t2) = h1 at sb ho1 ⊢
      have is1 : ∀ p ∈ L1, IsN h1 p.1 p.2 := fun p hp => by
        rcases List.mem_cons.mp (pm.mem_iff.mp hp) with e | hp
        · rw [e]; exact hx.keeps ho hd sb
        · exact (R.is p hp).keeps ho hd sb
      have ld1 : w.params.followText "set-order" = true ∨ t2.led = true := by rw [z4, q5]; exact R.led
      by_cases hf : t2.tooFull = true
      · first
          | (refine wpAny_bind ?_; refine wp_if_pos (by simp [hf]) ?_)
          | (refine wp_if_pos (by simp [hf]) ?_; refine wpAny_bind ?_)
        have hfull : (L.length + 1) * 5 ≥ t2.mask * 3 := by
          have h := hf
          unfold SetTable.tooFull at h
          rw [decide_eq_true_eq, ef] at h
          exact h
        rw [z3, q4] at hfull
        rw [hsl]
        have hsz1 : t2.place.size = es1.size := by
          have h := q3'.sz
          rw [List.length_map, hlen] at h
          rw [h, hes]
        obtain ⟨g1, g2, g3⟩ := size_of_grown
        have cases3 : (t.mask = 7 ∧ L.length = 4) ∨ (t.mask = 31 ∧ L.length = 18) ∨ (t.mask = 127 ∧ L.length = 76) := by
          unfold mostN at hfew
          rcases R.tab.mok with e | e | e | e
          · left; rw [e] at hroom hfull; exact ⟨e, by omega⟩
          · right; left; rw [e] at hroom hfull; exact ⟨e, by omega⟩
          · right; right; rw [e] at hroom hfull; exact ⟨e, by omega⟩
          · exfalso; rw [e] at hfull; omega
        have go : ∀ M, SetTable.sizeAbove (SetTable.grown (L.length + 1)) - 1 = M → MaskG M → SetTable.sizeAbove (SetTable.grown (L.length + 1)) ≤ 512 → (L.length + 1) * 5 < M * 3 →
            wpAny (model P w) A (setRelay a (SetTable.grown (L.length + 1))) (fun _ s' => wpAny (model P w) A (pure true) Q E s') E { s with heap := h1 } := fun M h1' h2' h3' h4' => by
          refine relay_N (s := { s with heap := h1 }) ho1 ⟨hex.1, hex.2.1, hex.2.2⟩ rfl hin hsz1 q3'.dm (by rw [hes, z3, q4]; rcases cases3 with ⟨e, e2⟩ | ⟨e, e2⟩ | ⟨e, e2⟩ <;> omega) nd1 is1 ld1 (by rw [hlen]; exact hfew) h1' h2' h3' (by rw [hlen]; exact h4') ?_
          intro h2 L2 es2 ep2 t2' sb2 R2 pm2
          exact wpAny_pure (hQ true h2 L2 es2 ep2 t2' (sb.trans sb2) R2 (fun z => absurd z hm) fun _ => pm2.trans pm)
        rcases cases3 with ⟨_, e2⟩ | ⟨_, e2⟩ | ⟨_, e2⟩
        · exact go 31 (by rw [e2, g1]) (.inr (.inl rfl)) (by rw [e2, g1]; decide) (by omega)
        · exact go 127 (by rw [e2, g2]) (.inr (.inr (.inl rfl))) (by rw [e2, g2]; decide) (by omega)
        · exact go 511 (by rw [e2, g3]) (.inr (.inr (.inr rfl))) (by rw [e2, g3]; decide) (by omega)
      · first
          | refine wp_if_neg (by simp [hf]) ?_
          | (refine wpAny_bind ?_; refine wp_if_neg (by simp [hf]) ?_; refine wpAny_pure ?_)
        refine wpAny_pure (hQ true h1 L1 es1 (ep + 1) t2 sb ⟨⟨_, ho1, ⟨hex.1, hex.2.1, hex.2.2⟩, rfl⟩, hin, q3', nd1, is1, ld1, ?_, by rw [hlen]; exact hfew⟩ (fun z => absurd z hm) fun _ => pm)
        have h := hf
        unfold SetTable.tooFull at h
        rw [decide_eq_true_eq, ef] at h
        rw [hlen]
        omega
    by_cases hpl : t1.plain = true
    · first
        | (refine wpAny_bind ?_; refine wp_if_pos hpl ?_; refine hashBy_key 8 k _ s E _ hx.1 fun b => ?_)
        | refine wp_if_pos hpl (wpAny_bind (hashBy_key 8 k _ s E _ hx.1 fun b => ?_))
      cases b with
      | true => simp only [if_true]; exact fin t1 rfl rfl rfl rfl
      | false => simp only [Bool.false_eq_true, if_false]; exact fin _ rfl rfl rfl rfl
    · first
        | (refine wpAny_bind ?_; refine wp_if_neg hpl ?_; refine wpAny_pure ?_)
        | refine wp_if_neg hpl (wpAny_bind (wpAny_pure ?_))
      simp only [if_true]
      exact fin t1 rfl rfl rfl rfl
end
end Mi

namespace Mi
open PySem PySem.Spec PyProof.Rows L2
abbrev NK := NestedKey × Addr
structure GotN (ks : List NK) (i : Nat) (L : List NK) : Prop where
  sub : ∀ p ∈ L, p ∈ ks.take i
  all : ∀ p ∈ ks.take i, p.1 ∈ L.map (·.1)
  len : L.length ≤ i
theorem take_one {α : Type} {l : List α} {i : Nat} {x : α} (h : l[i]? = some x) : l.take (i + 1) = l.take i ++ [x] := by
  rw [List.take_succ, h]
  rfl
theorem GotN.zero (ks : List NK) : GotN ks 0 [] := ⟨fun p h => (by cases h), fun p h => (by simp at h), Nat.le_refl _⟩
theorem GotN.same {ks L : List NK} {i : Nat} {x : NK} (g : GotN ks i L) (h : ks[i]? = some x) (hm : x.1 ∈ L.map (·.1)) : GotN ks (i + 1) L := by
  refine ⟨fun p hp => ?_, fun p hp => ?_, Nat.le_succ_of_le g.len⟩
  · rw [take_one h]
    exact List.mem_append_left _ (g.sub p hp)
  · rw [take_one h] at hp
    rcases List.mem_append.mp hp with z | z
    · exact g.all p z
    · rw [List.mem_singleton.mp z]; exact hm
theorem GotN.more {ks L L' : List NK} {i : Nat} {x : NK} (g : GotN ks i L) (h : ks[i]? = some x) (pm : L'.Perm (x :: L)) : GotN ks (i + 1) L' := by
  refine ⟨fun p hp => ?_, fun p hp => ?_, by have := pm.length_eq; have := g.len; simp at *; omega⟩
  · rw [take_one h]
    rcases List.mem_cons.mp (pm.mem_iff.mp hp) with e | z
    · rw [e]; simp
    · exact List.mem_append_left _ (g.sub p z)
  · rw [(pm.map (·.1)).mem_iff, List.map_cons]
    rw [take_one h] at hp
    rcases List.mem_append.mp hp with z | z
    · exact List.mem_cons_of_mem _ (g.all p z)
    · rw [List.mem_singleton.mp z]; exact List.mem_cons_self
section
variable {P : Program} {w : World} {A : Around} {E : Value → Shared → Prop} {s : Shared}
theorem SetN.at {h h' : Heap} {a : Addr} {L : List NK} {es : Array (Int × Value)} {ep : Nat} {t : SetTable} (R : SetN w h a L es ep t) (ha : ∀ o, h.get? a = some o → h'.get? a = some o) (ht : ∀ p ∈ L, IsN h' p.1 p.2) : SetN w h' a L es ep t := by
  obtain ⟨o, ho, r⟩ := R.ob
  exact ⟨⟨o, ha o ho, r⟩, R.rows, R.tab, R.nd, ht, R.led, R.room, R.few⟩
abbrev freshSet (w : World) : Obj := { cls := .type "set", dict := none, data := .set #[] 0 (.fresh 0 0 (!w.params.followText "set-order")) }
theorem setN_fresh {h : Heap} {a : Addr} (ho : h.get? a = some (freshSet w)) : SetN w h a [] #[] 0 (.fresh 0 0 (!w.params.followText "set-order")) where
  ob := ⟨_, ho, ⟨rfl, rfl, rfl⟩, rfl⟩
  rows := rfl
  tab := ⟨List.Pairwise.nil, rfl, rfl, .inl rfl, fun x hx => (by cases hx), fun i h j hi => (by simp at hi)⟩
  nd := List.nodup_nil
  is := fun p hp => (by cases hp)
  led := by
    show _ ∨ (!w.params.followText "set-order") = true
    cases w.params.followText "set-order" <;> simp
  room := by show 0 * 5 < 7 * 3; decide
  few := Nat.zero_le _
theorem fill_N {I : Addr} {fp wr : List Addr} {G : Array GenState → Array GenState → Prop} {n : Nat} {Pv : Nat → Value → Prop} {St : Nat → Shared → Prop} {R : Result → Shared → Prop}
    (W : WalksS P w A.in1 I fp wr G n Pv St) (S : Addr) (hSf : S ∉ fp) (ks : List NK) (hn : n = ks.length) (hfew : ks.length ≤ mostN) (hval : ∀ i v, Pv i v → ∃ p, ks[i]? = some p ∧ v = .ref p.2)
    (h0 : Heap) (hk : ∀ p ∈ ks, IsN h0 p.1 p.2) (hS0 : h0.get? S = none) (hw0 : ∀ b ∈ wr, h0.get? b = none) (hu : A.in1.units + 8 < cLine) :
    ∀ (k i : Nat) (s : Shared), n - i = k → i ≤ n → St i s → (∀ b o, h0.get? b = some o → s.heap.get? b = some o) → (∃ L es ep t, SetN w s.heap S L es ep t ∧ GotN ks i L) →
      (∀ s' L es ep t, Moved (S :: wr) G s s' → SetN w s'.heap S L es ep t → GotN ks n L → (∀ b o, h0.get? b = some o → s'.heap.get? b = some o) → R (.ok (.ret .none)) s') →
      codeAny (model P w) A (.builtin "set.update.loop" ⟨[.ref S, .ref I], []⟩) R s := by
  have hSw : S ∉ wr := fun h => hSf (W.sub _ h)
  have hsub : ∀ b ∈ wr, b ∈ S :: wr := fun b hb => List.mem_cons_of_mem _ hb
  have kp : ∀ {s s' : Shared}, Moved wr G s s' → (∀ b o, h0.get? b = some o → s.heap.get? b = some o) → ∀ b o, h0.get? b = some o → s'.heap.get? b = some o := fun hm hkp b o e =>
    hm.heap b o (fun hb => by rw [hw0 b hb] at e; cases e) (hkp b o e)
  intro k
  induction k with
  | zero =>
    intro i s hk' hi hst hkp ⟨L, es, ep, t, hS, g⟩ hR
    obtain rfl : i = n := by omega
    refine codeAny_builtin F.entry_set_update_loop ?_
    rw [Around.under_plainId F.plain_set_update_loop _]
    show wpAny _ A.in1 (pyNext (.ref I) >>= _) _ _ s
    refine wpAny_bind (W.done s _ _ hst fun s' hm => ?_)
    show wpAny _ A.in1 (ret Value.none) _ _ s'
    have hkp' := kp hm hkp
    exact wpAny_pure (hR s' L es ep t (hm.mono hsub) (hS.at (fun o e => hm.heap S o hSw e) fun p hp => (hk p (List.mem_of_mem_take (g.sub p hp))).at hkp') g hkp')
  | succ k ih =>
    intro i s hk' hi hst hkp ⟨L, es, ep, t, hS, g⟩ hR
    have hlt : i < n := by omega
    refine codeAny_builtin F.entry_set_update_loop ?_
    rw [Around.under_plainId F.plain_set_update_loop _]
    show wpAny _ A.in1 (pyNext (.ref I) >>= _) _ _ s
    refine wpAny_bind (W.item i s _ _ hlt hst fun v s' hP hst' hm => ?_)
    obtain ⟨p, hp, rfl⟩ := hval i v hP
    have hkp' := kp hm hkp
    have hS' := hS.at (fun o e => hm.heap S o hSw e) fun q hq => (hk q (List.mem_of_mem_take (g.sub q hq))).at hkp'
    have hx := (hk p (List.mem_of_getElem? hp)).at hkp'
    show wpAny _ A.in1 (holding [Value.ref p.2] (setAdd S (.ref p.2)) >>= _) _ _ s'
    refine wpAny_bind (wpAny_holding ?_)
    unfold setAdd
    refine wpAny_holding ?_
    refine wpAny_bind (pyHash_key p.1 _ A.in1 s' _ hx.1 (by have := hx.2; omega) ?_)
    refine add_N (s := { s' with toks := s'.toks + p.1.draws }) hS' hx hu (by have := g.len; omega) fun b h' L' es' ep' t' hsb hS2 c1 c2 => ?_
    have g' : GotN ks (i + 1) L' := by
      rcases Classical.em (p.1 ∈ L.map (·.1)) with c | c
      · rw [c1 c]; exact g.same hp c
      · exact g.more hp (c2 c)
    have hkp2 : ∀ b o, h0.get? b = some o → h'.get? b = some o := fun b o e => (hsb.2 b (fun z => by rw [z, hS0] at e; cases e)).trans (hkp' b o e)
    refine wpAny_pure ⟨plainId_quiet F.plain_set_update_loop _, ih (i + 1) _ (by omega) hlt (W.frame _ s' _ _ hst' (Nat.le_add_right _ _) fun b hb o e => ?_) hkp2 ⟨L', es', ep', t', hS2, g'⟩ fun s'' L2 es2 ep2 t2 hm'' hS'' g'' hkp'' => ?_⟩
    · rw [hsb.2 b (fun h : b = S => hSf (by rw [← h]; exact hb))]; exact e
    · refine hR s'' L2 es2 ep2 t2 (Moved.trans W.gtrans ((hm.mono hsub).then_heap (Nat.le_add_right _ _) fun b o hb e => ?_) hm'') hS'' g'' hkp''
      rw [hsb.2 b (fun h : b = S => hb (by rw [h]; exact List.mem_cons_self))]; exact e
theorem set_by {l : Addr} {items : Array Value} (Done : Heap → Prop) {Q : Value → Shared → Prop} (hh : A.handled = none) (hl : s.heap.IsList l items)
    (fill : ∀ (s1 : Shared) (I : Addr) (R : Result → Shared → Prop), s1.gens = s.gens → s1.os = s.os → s1.drawn = s.drawn → (∀ b o, s.heap.get? b = some o → s1.heap.get? b = some o) → s1.heap.get? s.heap.objs.size = some (freshSet w) → I = s.heap.objs.size + 1 →
      s1.heap.objs.size = s.heap.objs.size + 2 → (s1.heap.IsListIter I l 0) → 
      (∀ s' , (∀ b o, s.heap.get? b = some o → s'.heap.get? b = some o) → s'.gens = s.gens → s'.os = s.os → s'.drawn = s.drawn → Done s'.heap → R (.ok (.ret .none)) s') →
      codeAny (model P w) A.in1.in1 (.builtin "set.update.loop" ⟨[.ref s.heap.objs.size, .ref I], []⟩) R s1)
    (h : ∀ (h' : Heap) (tk : Nat), Done h' → (∀ b o, s.heap.get? b = some o → h'.get? b = some o) → Q (.ref s.heap.objs.size) { s with heap := h', toks := tk }) :
    wpAny (model P w) A (call (.type "set") [.ref l]) Q E s := by
  obtain ⟨c, tl, hmro⟩ := F.called_set.mro
  have hmade := F.called_set.made
  have hsub := F.called_set.sub
  refine wpAny_call (codeAny_of_tree ?_)
  show wpAny _ _ (callAny (.type "set") _) _ _ _
  refine wpAny_pure ⟨Code.quiet_builtin _ (by decide +kernel), codeAny_builtin F.entry_type_call ?_⟩
  rw [Around.under_plain (weight_type_call_type "set" [.ref l] []) rfl]
  have h1 := F.called_set.notType
  have h2 := F.called_set.canCreate
  have hct := F.typeCall_set_1 (.ref l)
  repeat (any_goals (first | assumption | wp_step))
  refine codeAny_mono (code_set_led1 (.ref l) (E := E) (Q₁ := fun obj s₁ => obj = .ref s.heap.objs.size ∧ s₁ = { s with heap := s.heap.push (freshSet w) }) ⟨rfl, rfl⟩) fun r s₁ hr => ?_
  cases r with
  | error e => exact hr
  | ok fl =>
    cases fl with
    | ret obj =>
      obtain ⟨rfl, rfl⟩ := hr
      have hS : (s.heap.push (freshSet w)).get? s.heap.objs.size = some (freshSet w) := Heap.get?_push_size _ rfl
      have hT : Shared.TypeIs { s with heap := s.heap.push (freshSet w) } (.ref s.heap.objs.size) "set" := ⟨_, hS, rfl⟩
      have hli := F.called_set.init.lookup
      have hbi := F.called_set.init.bind (.ref s.heap.objs.size)
      repeat (any_goals (first | assumption | wp_step))
      refine codeAny_mono (codeAny_call_builtin (R := wants (fun r s₂ => r = .none ∧ ∃ h' tk, s₂ = { s with heap := h', toks := tk } ∧ Done h' ∧
          (∀ b o, s.heap.get? b = some o → h'.get? b = some o)) E) F.called_set.init.plain F.entry_set_init (check_set_init_1 hT ?_)) fun r₂ s₂ hr₂ => ?_
      · obtain ⟨ol, hol, hcl, nl, hdl⟩ := hl
        obtain ⟨ocls, odict, odata, oslots⟩ := ol
        simp only at hcl hdl
        subst hcl; subst hdl
        have hol' : (s.heap.push (freshSet w)).get? l = some { cls := .type "list", dict := odict, data := .seq items nl, slots := oslots } := Heap.get?_push_of_some _ hol
        have hsls := F.sub_list_set
        have hslf := F.sub_list_frozenset
        have hne : (Value.type "list" == Value.type "dict") = false := by decide
        have hl1 : (s.heap.push (freshSet w)).IsList l items := ⟨_, hol', rfl, nl, rfl⟩
        unfold Builtin.«set.__init__» noKeywords Builtin.Frozenset.updateFrom
        generalize hPI : pyIter = PI
        wp_walk
        subst hPI
        refine wpAny_pyIter_list hl1 ?_
        refine wpAny_bind (wpAny_runValue ?_)
        refine fill _ _ _ rfl rfl rfl (fun b o e => Heap.get?_push_of_some _ (Heap.get?_push_of_some _ e)) (Heap.get?_push_of_some _ hS) (Heap.size_push ..) ?_ ⟨_, Heap.get?_push_size _ rfl, rfl, rfl⟩ ?_
        · simp [Heap.size_push]
        · intro s' hkp eg eo ed hD
          obtain ⟨h', g2, d', tk', os'⟩ := s'
          dsimp only at eg eo ed
          subst eg; subst ed; subst eo
          show wpAny _ _ _ _ _ _
          refine wpAny_pure ?_
          show wpAny _ _ (ret Value.none) _ _ _
          exact wpAny_pure ⟨rfl, h', tk', rfl, hD, hkp⟩
      · cases r₂ with
        | error e => exact hr₂
        | ok fl₂ =>
          cases fl₂ with
          | ret r =>
            obtain ⟨rfl, h', tk, rfl, hD, hk'⟩ := hr₂
            repeat (any_goals (first | assumption | wp_step))
            exact h _ _ hD hk'
          | _ => exact hr₂.elim
    | _ => exact hr.elim
end
end Mi

namespace Mi
open PySem PySem.Spec PyProof.Rows L2
abbrev SK := Key × Value
section
variable {P : Program} {w : World} {A : Around} {E : Value → Shared → Prop} {s : Shared}
structure SetC (P : Program) (w : World) (h : Heap) (a : Addr) (L : List SK) (es : Array (Int × Value)) (ep : Nat) (t : SetTable) : Prop where
  ob : ∃ o, h.get? a = some o ∧ o.ExactSet ∧ o.data = .set es ep t
  rows : es.toList = L.map fun p => (keyH w p.1, p.2)
  is : ∀ p ∈ L, keyIs p.1 p.2 = true
  nd : (L.map (·.1)).Nodup
  ris : Ris t.place.toList
  led : w.params.followText "set-order" = true ∨ t.led = true
  fits : t.fits es.size = true
  few : L.length < 4000
variable {a : Addr} {L : List SK} {es : Array (Int × Value)} {ep : Nat} {t : SetTable}
theorem SetC.size (R : SetC P w s.heap a L es ep t) : es.size = L.length := by
  have h := congrArg List.length R.rows
  rw [List.length_map] at h
  exact h
theorem scan_is {k : Key} {v : Value} (h : keyIs k v = true) : v.scannable = true := by
  rcases keyIs_shape h with ⟨i, t, rfl, rfl⟩ | ⟨x, t, rfl, rfl⟩ <;> rfl
theorem SetC.elems (R : SetC P w s.heap a L es ep t) : ElemsOf (mixKind P w) es.toList := by
  intro e he
  rw [R.rows] at he
  obtain ⟨p, hp, rfl⟩ := List.mem_map.mp he
  exact ⟨⟨p.1, R.is p hp, rfl⟩, scan_is (R.is p hp)⟩
theorem SetC.at {h h' : Heap} (R : SetC P w h a L es ep t) (ha : ∀ o, h.get? a = some o → h'.get? a = some o) : SetC P w h' a L es ep t := by
  obtain ⟨o, ho, r⟩ := R.ob
  exact ⟨⟨o, ha o ho, r⟩, R.rows, R.is, R.nd, R.ris, R.led, R.fits, R.few⟩
theorem rows_perm : ∀ {es : List (Int × Value)} {L : List SK}, es.Perm (L.map fun p => (keyH w p.1, p.2)) → ∃ L' : List SK, L'.Perm L ∧ es = L'.map fun p => (keyH w p.1, p.2) := by
  intro es
  induction es with
  | nil =>
    intro L h
    have := h.length_eq
    cases L with
    | nil => exact ⟨[], .nil, rfl⟩
    | cons _ _ => simp at this
  | cons e es ih =>
    intro L h
    obtain ⟨p, hp, rfl⟩ := List.mem_map.mp (h.mem_iff.mp List.mem_cons_self)
    obtain ⟨l1, l2, rfl⟩ := List.append_of_mem hp
    have h2 : es.Perm ((l1 ++ l2).map fun p => (keyH w p.1, p.2)) := by
      rw [List.map_append, List.map_cons] at h
      have := h.trans List.perm_middle
      rw [← List.map_append] at this
      exact this.cons_inv
    obtain ⟨L', h3, rfl⟩ := ih h2
    exact ⟨p :: L', (h3.cons p).trans List.perm_middle.symm, rfl⟩
theorem tail_C {g : Bool → Sem Unit} (hg : ∀ (b : Bool) (s₁ : Shared) (Q' : Unit → Shared → Prop), Q' () s₁ → wpAny (model P w) A (g b) Q' E s₁)
    {o : Obj} (ho : s.heap.get? a = some o) (hex : o.ExactSet) (hd : o.data = .set es ep t)
    {es1 : Array (Int × Value)} {t2 : SetTable} {L1 : List SK} (hrow : es1.toList = L1.map fun p => (keyH w p.1, p.2)) (his : ∀ p ∈ L1, keyIs p.1 p.2 = true) (nd1 : (L1.map (·.1)).Nodup)
    (hb1 : L1.length < 4000) (hf2 : t2.fits es1.size = true) (hr : Ris t2.place.toList) (hl : w.params.followText "set-order" = true ∨ t2.led = true) {wasDummy : Bool} {R : Option Bool → Shared → Prop}
    (hR : ∀ h' L' es' ep' t', Heap.SameBut a s.heap h' → SetC P w h' a L' es' ep' t' → L'.Perm L1 → R (some true) { s with heap := h' }) :
    wpAny (model P w) A (do
        storeSet a es1 t2
        if (!wasDummy && t2.tooFull) = true then do
            g (relayAll t2 es1 (SetTable.grown es1.size)).2.2
            storeSet a (relayAll t2 es1 (SetTable.grown es1.size)).1 (relayAll t2 es1 (SetTable.grown es1.size)).2.1
            pure (some true)
          else pure (some true)) R E s := by
  have hsz1 : es1.size = L1.length := by
    have h := congrArg List.length hrow
    rw [List.length_map] at h
    exact h
  have hsc : es1.size < scanBound := by unfold scanBound; omega
  refine wpAny_bind (wpAny_storeSet_of ho hd ?_ (fits_of_scanBound hsc))
  have ho1 := store_at (es' := es1) (t' := t2) ho hd
  have sb1 := Heap.SameBut.update s.heap a (Obj.putSet es1 t2)
  split
  · have pm := relayAll_perm t2 es1 (SetTable.grown es1.size)
    have hf3 := relayAll_fits t2 es1 (SetTable.grown es1.size)
    have hr3 := relayAll_ris t2 es1 (SetTable.grown es1.size)
    have hl3 := relayAll_led t2 es1 (SetTable.grown es1.size)
    generalize relayAll t2 es1 (SetTable.grown es1.size) = Z at pm hf3 hr3 hl3 ⊢
    obtain ⟨es2, t3, gave⟩ := Z
    dsimp only at pm hf3 hr3 hl3 ⊢
    have hsz : es2.size = es1.size := by rw [← Array.length_toList, pm.length_eq, Array.length_toList]
    rw [hrow] at pm
    obtain ⟨L2, p2, e2⟩ := rows_perm pm
    refine wpAny_bind (hg _ _ _ ?_)
    refine wpAny_bind (wpAny_storeSet_of ho1 rfl ?_ (fits_of_scanBound (by rw [hsz]; exact hsc)))
    have ho2 := store_at (es' := es2) (t' := t3) ho1 rfl
    refine wpAny_pure (hR _ L2 es2 (ep + 1 + 1) t3 (sb1.trans (Heap.SameBut.update _ a _)) ?_ p2)
    exact ⟨⟨_, ho2, hex, rfl⟩, e2, fun p hp => his p (p2.mem_iff.mp hp), (p2.map (·.1)).nodup_iff.mpr nd1, hr3, hl.imp id fun z => by rw [hl3]; exact z, hf3, by rw [p2.length_eq]; exact hb1⟩
  · exact wpAny_pure (hR _ L1 es1 _ t2 sb1 ⟨⟨_, ho1, hex, rfl⟩, hrow, his, nd1, hr, hl, hf2, hb1⟩ (List.Perm.refl _))
theorem add_C (R : SetC P w s.heap a L es ep t) {k : Key} {x : Value} (hx : keyIs k x = true) (hfew : L.length + 1 < 4000) {Q : Bool → Shared → Prop}
    (hQ : ∀ b h' L' es' ep' t', Heap.SameBut a s.heap h' → SetC P w h' a L' es' ep' t' → (k ∈ L.map (·.1) → L' = L) → (k ∉ L.map (·.1) → L'.Perm ((k, x) :: L)) → Q b { s with heap := h' }) :
    wpAny (model P w) A (setAddHashed a x (keyH w k)) Q E s := by
  obtain ⟨o, ho, hex, hd⟩ := R.ob
  have hel := R.elems
  have hsl := R.size
  have hf := R.fits
  have hsc := scan_is hx
  have hb : es.size < scanBound := by unfold scanBound; omega
  unfold setAddHashed setAddHashedIn
  refine wpAny_holding (wpAny_bind (wpAny_setState_of ho hd hf ?_))
  dsimp only
  rw [byScan_of hsc hb hel]
  simp only [↓reduceIte]
  unfold setAddByScan
  refine wpAny_bind ?_
  refine wpAny_bind (wpAny_rule ?_)
  refine wpAny_bind (wpAny_setScan_of (knd := mixKind P w) (k := k) hx ho hd hf hel ?_)
  cases hfi : List.findIdx? (fun e => (mixKind P w).is k e.2) es.toList with
  | some j =>
    dsimp only
    obtain ⟨hj, pj, _⟩ := List.findIdx?_eq_some_iff_getElem.mp hfi
    have hm : k ∈ L.map (·.1) := by
      have he := List.getElem_mem hj
      generalize es.toList[j] = z at he pj
      rw [R.rows] at he
      obtain ⟨p, hp, rfl⟩ := List.mem_map.mp he
      refine List.mem_map.mpr ⟨p, hp, ?_⟩
      exact (mixKind P w).inj _ _ _ (R.is p hp) pj
    exact wpAny_pure (wpAny_pure (hQ false s.heap L es ep t (Heap.SameBut.refl a s.heap) R (fun _ => rfl) fun z => absurd hm z))
  | none =>
    dsimp only
    have hnk : k ∉ L.map (·.1) := fun z => by
      obtain ⟨p, hp, rfl⟩ := List.mem_map.mp z
      have c := List.findIdx?_eq_none_iff.mp hfi (keyH w p.1, p.2) (by rw [R.rows]; exact List.mem_map.mpr ⟨p, hp, rfl⟩)
      rw [show (mixKind P w).is p.1 p.2 = true from R.is p hp] at c
      cases c
    have hgw : ∀ (b : Bool) {s₁ : Shared} {Q' : Unit → Shared → Prop}, Q' () s₁ → wpAny (model P w) A (match b with | true => rule "set.scan.the-table-gave-way" | false => pure ()) Q' E s₁ :=
      fun b s₁ Q' q => by cases b <;> first | exact wpAny_pure q | exact wpAny_rule q
    have pm := layNew_perm t es (keyH w k) x
    have hf1 := layNew_fits t es (keyH w k) x
    have hr1 := layNew_ris t es (keyH w k) x R.ris
    have hl1 := layNew_led t es (keyH w k) x
    generalize layNew t es (keyH w k) x = Z at pm hf1 hr1 hl1 ⊢
    obtain ⟨es1, t1, wasDummy, gave⟩ := Z
    dsimp only at pm hf1 hr1 hl1 ⊢
    rw [Array.toList_push, R.rows] at pm
    have pc : es1.toList.Perm (((k, x) :: L).map fun p => (keyH w p.1, p.2)) := by
      rw [List.map_cons]
      exact pm.trans (List.perm_append_singleton _ _)
    obtain ⟨L1, p1, e1⟩ := rows_perm pc
    have is1 : ∀ p ∈ L1, keyIs p.1 p.2 = true := fun p hp => by
      rcases List.mem_cons.mp (p1.mem_iff.mp hp) with z | z
      · rw [z]; exact hx
      · exact R.is p z
    have nd1 : (L1.map (·.1)).Nodup := (p1.map (·.1)).nodup_iff.mpr (List.nodup_cons.mpr ⟨hnk, R.nd⟩)
    have hb1 : L1.length < 4000 := by rw [p1.length_eq, List.length_cons]; exact hfew
    have hled : w.params.followText "set-order" = true ∨ t1.led = true := R.led.imp id fun z => by rw [hl1]; exact z
    have fin : ∀ h' L' es' ep' t', Heap.SameBut a s.heap h' → SetC P w h' a L' es' ep' t' → L'.Perm L1 → Q true { s with heap := h' } := fun h' L' es' ep' t' sb r pp => hQ true h' L' es' ep' t' sb r (fun z => absurd z hnk) fun _ => pp.trans p1
    refine wpAny_bind (hgw _ ?_)
    split
    · refine wpAny_bind ?_
      rw [hashByValue_scannable 8 hsc]
      refine wpAny_pure ?_
      refine tail_C ?_ ho hex hd e1 is1 nd1 hb1 ?_ ?_ ?_ ?_
      · intro b s₁ Q' q; cases b <;> first | exact wpAny_pure q | exact wpAny_rule q
      · first | (split <;> first | exact hf1 | exact SetTable.fits_plain_off hf1) | exact hf1
      · first | (split <;> exact hr1) | exact hr1
      · first | (split <;> exact hled) | exact hled
      · intro h' L' es' ep' t' sb r pp; dsimp only; exact wpAny_pure (fin h' L' es' ep' t' sb r pp)
    · refine wpAny_bind (wpAny_pure ?_)
      simp only [↓reduceIte]
      refine tail_C ?_ ho hex hd e1 is1 nd1 hb1 hf1 hr1 hled ?_
      · intro b s₁ Q' q; cases b <;> first | exact wpAny_pure q | exact wpAny_rule q
      · intro h' L' es' ep' t' sb r pp; dsimp only; exact wpAny_pure (fin h' L' es' ep' t' sb r pp)
structure GotC (ks : List SK) (i : Nat) (L : List SK) : Prop where
  sub : ∀ p ∈ L, p ∈ ks.take i
  all : ∀ p ∈ ks.take i, p.1 ∈ L.map (·.1)
  len : L.length ≤ i
theorem GotC.zero (ks : List SK) : GotC ks 0 [] := ⟨fun p h => (by cases h), fun p h => (by simp at h), Nat.le_refl _⟩
theorem GotC.next {ks L L' : List SK} {i : Nat} {x : SK} (g : GotC ks i L) (h : ks[i]? = some x) (c1 : x.1 ∈ L.map (·.1) → L' = L) (c2 : x.1 ∉ L.map (·.1) → L'.Perm (x :: L)) : GotC ks (i + 1) L' := by
  rcases Classical.em (x.1 ∈ L.map (·.1)) with c | c
  · rw [c1 c]
    refine ⟨fun p hp => ?_, fun p hp => ?_, Nat.le_succ_of_le g.len⟩
    · rw [take_one h]; exact List.mem_append_left _ (g.sub p hp)
    · rw [take_one h] at hp
      rcases List.mem_append.mp hp with z | z
      · exact g.all p z
      · rw [List.mem_singleton.mp z]; exact c
  · have pm := c2 c
    refine ⟨fun p hp => ?_, fun p hp => ?_, by have := pm.length_eq; have := g.len; simp at *; omega⟩
    · rw [take_one h]
      rcases List.mem_cons.mp (pm.mem_iff.mp hp) with e | z
      · rw [e]; simp
      · exact List.mem_append_left _ (g.sub p z)
    · rw [(pm.map (·.1)).mem_iff, List.map_cons]
      rw [take_one h] at hp
      rcases List.mem_append.mp hp with z | z
      · exact List.mem_cons_of_mem _ (g.all p z)
      · rw [List.mem_singleton.mp z]; exact List.mem_cons_self
theorem setC_fresh {h : Heap} {a : Addr} (ho : h.get? a = some (freshSet w)) : SetC P w h a [] #[] 0 (.fresh 0 0 (!w.params.followText "set-order")) where
  ob := ⟨_, ho, ⟨rfl, rfl, rfl⟩, rfl⟩
  rows := rfl
  is := fun p hp => (by cases hp)
  nd := List.nodup_nil
  ris := List.Pairwise.nil
  led := by
    show _ ∨ (!w.params.followText "set-order") = true
    cases w.params.followText "set-order" <;> simp
  fits := rfl
  few := by show 0 < 4000; decide
theorem fill_C {I : Addr} {fp wr : List Addr} {G : Array GenState → Array GenState → Prop} {n : Nat} {Pv : Nat → Value → Prop} {St : Nat → Shared → Prop} {R : Result → Shared → Prop}
    (W : WalksS P w A.in1 I fp wr G n Pv St) (S : Addr) (hSf : S ∉ fp) (ks : List SK) (hn : n = ks.length) (hfew : ks.length < 4000) (hval : ∀ i v, Pv i v → ∃ p, ks[i]? = some p ∧ v = p.2)
    (h0 : Heap) (hk : ∀ p ∈ ks, keyIs p.1 p.2 = true) (hS0 : h0.get? S = none) (hw0 : ∀ b ∈ wr, h0.get? b = none) :
    ∀ (k i : Nat) (s : Shared), n - i = k → i ≤ n → St i s → (∀ b o, h0.get? b = some o → s.heap.get? b = some o) → (∃ L es ep t, SetC P w s.heap S L es ep t ∧ GotC ks i L) →
      (∀ s' L es ep t, Moved (S :: wr) G s s' → SetC P w s'.heap S L es ep t → GotC ks n L → (∀ b o, h0.get? b = some o → s'.heap.get? b = some o) → R (.ok (.ret .none)) s') →
      codeAny (model P w) A (.builtin "set.update.loop" ⟨[.ref S, .ref I], []⟩) R s := by
  have hSw : S ∉ wr := fun h => hSf (W.sub _ h)
  have hsub : ∀ b ∈ wr, b ∈ S :: wr := fun b hb => List.mem_cons_of_mem _ hb
  have kp : ∀ {s s' : Shared}, Moved wr G s s' → (∀ b o, h0.get? b = some o → s.heap.get? b = some o) → ∀ b o, h0.get? b = some o → s'.heap.get? b = some o := fun hm hkp b o e =>
    hm.heap b o (fun hb => by rw [hw0 b hb] at e; cases e) (hkp b o e)
  intro k
  induction k with
  | zero =>
    intro i s hk' hi hst hkp ⟨L, es, ep, t, hS, g⟩ hR
    obtain rfl : i = n := by omega
    refine codeAny_builtin F.entry_set_update_loop ?_
    rw [Around.under_plainId F.plain_set_update_loop _]
    show wpAny _ A.in1 (pyNext (.ref I) >>= _) _ _ s
    refine wpAny_bind (W.done s _ _ hst fun s' hm => ?_)
    show wpAny _ A.in1 (ret Value.none) _ _ s'
    exact wpAny_pure (hR s' L es ep t (hm.mono hsub) (hS.at fun o e => hm.heap S o hSw e) g (kp hm hkp))
  | succ k ih =>
    intro i s hk' hi hst hkp ⟨L, es, ep, t, hS, g⟩ hR
    have hlt : i < n := by omega
    refine codeAny_builtin F.entry_set_update_loop ?_
    rw [Around.under_plainId F.plain_set_update_loop _]
    show wpAny _ A.in1 (pyNext (.ref I) >>= _) _ _ s
    refine wpAny_bind (W.item i s _ _ hlt hst fun v s' hP hst' hm => ?_)
    obtain ⟨p, hp, rfl⟩ := hval i v hP
    have hkp' := kp hm hkp
    have hS' := hS.at fun o e => hm.heap S o hSw e
    have hx := hk p (List.mem_of_getElem? hp)
    show wpAny _ A.in1 (holding [p.2] (setAdd S p.2) >>= _) _ _ s'
    refine wpAny_bind (wpAny_holding ?_)
    unfold setAdd
    refine wpAny_holding ?_
    refine wpAny_bind ((mixKind P w).pyHash hx ?_)
    refine add_C (s := { s' with toks := s'.toks + 1 }) hS' hx (by have := g.len; omega) fun b h' L' es' ep' t' hsb hS2 c1 c2 => ?_
    have hkp2 : ∀ b o, h0.get? b = some o → h'.get? b = some o := fun b o e => (hsb.2 b (fun z => by rw [z, hS0] at e; cases e)).trans (hkp' b o e)
    refine wpAny_pure ⟨plainId_quiet F.plain_set_update_loop _, ih (i + 1) _ (by omega) hlt (W.frame _ s' _ _ hst' (Nat.le_add_right _ _) fun b hb o e => ?_) hkp2 ⟨L', es', ep', t', hS2, g.next hp c1 c2⟩ fun s'' L2 es2 ep2 t2 hm'' hS'' g'' hkp'' => ?_⟩
    · rw [hsb.2 b (fun h : b = S => hSf (by rw [← h]; exact hb))]; exact e
    · refine hR s'' L2 es2 ep2 t2 (Moved.trans W.gtrans ((hm.mono hsub).then_heap (Nat.le_add_right _ _) fun b o hb e => ?_) hm'') hS'' g'' hkp''
      rw [hsb.2 b (fun h : b = S => hb (by rw [h]; exact List.mem_cons_self))]; exact e
theorem none_at {h : Heap} {b : Addr} (hb : h.objs.size ≤ b) : h.get? b = none := by
  cases q : h.get? b with
  | none => rfl
  | some o => exact absurd (Heap.lt_size q) (Nat.not_lt.mpr hb)
theorem call_set_N {l : Addr} {items : Array Value} (ks : List NK) {Q : Value → Shared → Prop} (hh : A.handled = none) (hl : s.heap.IsList l items) (hit : items.toList = ks.map fun p => Value.ref p.2)
    (hk : ∀ p ∈ ks, IsN s.heap p.1 p.2) (hfew : ks.length ≤ mostN) (hu : A.units + 20 < cLine)
    (h : ∀ (h' : Heap) (tk : Nat) L es ep t, SetN w h' s.heap.objs.size L es ep t → GotN ks ks.length L → (∀ b o, s.heap.get? b = some o → h'.get? b = some o) → Q (.ref s.heap.objs.size) { s with heap := h', toks := tk }) :
    wpAny (model P w) A (call (.type "set") [.ref l]) Q E s := by
  have hisz : items.size = ks.length := by
    have q := congrArg List.length hit
    rw [List.length_map] at q
    exact q
  have hlS : l < s.heap.objs.size := by obtain ⟨ol, hol, _⟩ := hl; exact Heap.lt_size hol
  refine set_by (Done := fun h' => ∃ L es ep t, SetN w h' s.heap.objs.size L es ep t ∧ GotN ks ks.length L) hh hl (fun s1 I R e1 e2 e2d e3 e4 eI esz eit hR => ?_) fun h' tk ⟨L, es, ep, t, a1, a2⟩ a3 => h h' tk L es ep t a1 a2 a3
  subst eI
  have hh3 : A.in1.in1.in1.handled = none := by simp [hh]
  have hl1 : s1.heap.IsList l items := by
    obtain ⟨o, ho, r⟩ := hl
    exact ⟨o, e3 l o ho, r⟩
  have hval : ∀ (i : Nat) (v : Value), items[i]? = some v → ∃ p, ks[i]? = some p ∧ v = .ref p.2 := fun i v hv => by
    have q : items.toList[i]? = some v := by rw [Array.getElem?_toList]; exact hv
    rw [hit, List.getElem?_map] at q
    cases hq : ks[i]? with
    | none => rw [hq] at q; cases q
    | some p => rw [hq] at q; exact ⟨p, rfl, (Option.some.inj q).symm⟩
  refine fill_N ((Walks.list hh3 (s.heap.objs.size + 1) l (Nat.ne_of_lt (Nat.lt_succ_of_lt hlS)) items).toS) s.heap.objs.size (by simp only [List.mem_cons, List.not_mem_nil, or_false, not_or]; exact ⟨Nat.ne_of_lt (Nat.lt_succ_self _), Nat.ne_of_gt hlS⟩) ks hisz hfew hval s.heap hk (none_at (Nat.le_refl _)) (fun b hb => none_at (by rw [List.mem_singleton.mp hb]; exact Nat.le_succ _)) (by show A.units + 1 + 1 + 1 + 8 < cLine; omega) (items.size - 0) 0 _ (by omega) (Nat.zero_le _)
    ⟨eit, hl1⟩ e3 ⟨[], #[], 0, _, setN_fresh e4, GotN.zero ks⟩ fun s' L es ep t hm hS' g' hkp => ?_
  rw [hisz] at g'
  exact hR s' hkp (hm.gens.trans e1) (hm.os.trans e2) (hm.drawn.trans e2d) ⟨L, es, ep, t, hS', g'⟩
theorem call_set_C {l : Addr} {items : Array Value} (ks : List SK) {Q : Value → Shared → Prop} (hh : A.handled = none) (hl : s.heap.IsList l items) (hit : items.toList = ks.map (·.2))
    (hk : ∀ p ∈ ks, keyIs p.1 p.2 = true) (hfew : ks.length < 4000)
    (h : ∀ (h' : Heap) (tk : Nat) L es ep t, SetC P w h' s.heap.objs.size L es ep t → GotC ks ks.length L → (∀ b o, s.heap.get? b = some o → h'.get? b = some o) → Q (.ref s.heap.objs.size) { s with heap := h', toks := tk }) :
    wpAny (model P w) A (call (.type "set") [.ref l]) Q E s := by
  have hisz : items.size = ks.length := by
    have q := congrArg List.length hit
    rw [List.length_map] at q
    exact q
  have hlS : l < s.heap.objs.size := by obtain ⟨ol, hol, _⟩ := hl; exact Heap.lt_size hol
  refine set_by (Done := fun h' => ∃ L es ep t, SetC P w h' s.heap.objs.size L es ep t ∧ GotC ks ks.length L) hh hl (fun s1 I R e1 e2 e2d e3 e4 eI esz eit hR => ?_) fun h' tk ⟨L, es, ep, t, a1, a2⟩ a3 => h h' tk L es ep t a1 a2 a3
  subst eI
  have hh3 : A.in1.in1.in1.handled = none := by simp [hh]
  have hl1 : s1.heap.IsList l items := by
    obtain ⟨o, ho, r⟩ := hl
    exact ⟨o, e3 l o ho, r⟩
  have hval : ∀ (i : Nat) (v : Value), items[i]? = some v → ∃ p, ks[i]? = some p ∧ v = p.2 := fun i v hv => by
    have q : items.toList[i]? = some v := by rw [Array.getElem?_toList]; exact hv
    rw [hit, List.getElem?_map] at q
    cases hq : ks[i]? with
    | none => rw [hq] at q; cases q
    | some p => rw [hq] at q; exact ⟨p, rfl, (Option.some.inj q).symm⟩
  refine fill_C ((Walks.list hh3 (s.heap.objs.size + 1) l (Nat.ne_of_lt (Nat.lt_succ_of_lt hlS)) items).toS) s.heap.objs.size (by simp only [List.mem_cons, List.not_mem_nil, or_false, not_or]; exact ⟨Nat.ne_of_lt (Nat.lt_succ_self _), Nat.ne_of_gt hlS⟩) ks hisz hfew hval s.heap hk (none_at (Nat.le_refl _)) (fun b hb => none_at (by rw [List.mem_singleton.mp hb]; exact Nat.le_succ _)) (items.size - 0) 0 _ (by omega) (Nat.zero_le _)
    ⟨eit, hl1⟩ e3 ⟨[], #[], 0, _, setC_fresh e4, GotC.zero ks⟩ fun s' L es ep t hm hS' g' hkp => ?_
  rw [hisz] at g'
  exact hR s' hkp (hm.gens.trans e1) (hm.os.trans e2) (hm.drawn.trans e2d) ⟨L, es, ep, t, hS', g'⟩
end
end Mi

namespace Mi
open PySem PySem.Spec PyProof.Rows L2
theorem perm_map {α β : Type} (f : α → β) : ∀ {l : List β} {L : List α}, l.Perm (L.map f) → ∃ L' : List α, L'.Perm L ∧ l = L'.map f := by
  intro l
  induction l with
  | nil =>
    intro L h
    have := h.length_eq
    cases L with
    | nil => exact ⟨[], .nil, rfl⟩
    | cons _ _ => simp at this
  | cons e l ih =>
    intro L h
    obtain ⟨p, hp, rfl⟩ := List.mem_map.mp (h.mem_iff.mp List.mem_cons_self)
    obtain ⟨l1, l2, rfl⟩ := List.append_of_mem hp
    have h2 : l.Perm ((l1 ++ l2).map f) := by
      rw [List.map_append, List.map_cons] at h
      have := h.trans List.perm_middle
      rw [← List.map_append] at this
      exact this.cons_inv
    obtain ⟨L', h3, rfl⟩ := ih h2
    exact ⟨p :: L', (h3.cons p).trans List.perm_middle.symm, rfl⟩
theorem le_trans' (a b c : PyData) (h1 : (!PySem.W.dataLt b a) = true) (h2 : (!PySem.W.dataLt c b) = true) : (!PySem.W.dataLt c a) = true := by
  rw [Bool.not_eq_true'] at h1 h2 ⊢
  cases h : PySem.W.dataLt c a with
  | false => rfl
  | true =>
    rcases lex_negTrans (O := itemOrd) (PySem.W.keyToks c) (PySem.W.keyToks b) (PySem.W.keyToks a) h with z | z
    · rw [show PySem.W.dataLt c b = true from z] at h2; cases h2
    · rw [show PySem.W.dataLt b a = true from z] at h1; cases h1
theorem le_total' (a b : PyData) : ((!PySem.W.dataLt b a) || (!PySem.W.dataLt a b)) = true := by
  cases h : PySem.W.dataLt b a with
  | false => rfl
  | true =>
    cases h2 : PySem.W.dataLt a b with
    | false => rfl
    | true =>
      have := lex_trans _ _ _ h h2
      rw [lex_irrefl] at this
      cases this
theorem sort_rises {β : Type} (enc : β → PyData) (bs : List β) : (bs.mergeSort (PySem.W.dataLe false enc)).Pairwise fun x y => PySem.W.dataLt (enc y) (enc x) = false := by
  rw [PySem.W.dataLe_eq]
  have := List.pairwise_mergeSort (le := fun a b : β => cond false (!PySem.W.dataLt (enc a) (enc b)) (!PySem.W.dataLt (enc b) (enc a))) (fun a b c h1 h2 => le_trans' _ _ _ h1 h2) (fun a b => le_total' _ _) bs
  exact this.imp fun h => by simpa using h
section
variable {P : Program} {w : World} {A : Around} {E : Value → Shared → Prop} {s : Shared}
open PySem.W PySem.Calls in
theorem sorted_coll (F : Shared → Prop) {r : Addr} {β : Type} {enc : β → PyData} {val : β → Value} {bs : List β} {Q : Value → Shared → Prop}
    (hc : ∀ (A' : Around) (Q' : List Value → Shared → Prop), A'.handled = A.handled → (∀ s' out, (∀ b o, s.heap.get? b = some o → s'.heap.get? b = some o) → F s' → s'.gens = s.gens → s'.os = s.os → out.Perm (bs.map val) → Q' out s') → wpAny (model P w) A' (collect (.ref r)) Q' E s)
    (hr : ∀ b ∈ bs, ∃ as, Reads s.heap (val b) (enc b) as) (hn : bs.length ≤ sizeLine) (hal : AllAlike (bs.map enc)) (hk : Sortable (bs.map enc)) (hu : ∀ b, b ∈ bs → A.units + 2 + (enc b).depth < cLine)
    (h : ∀ (s1 : Shared) (vs : List Value) (out : List β), (∀ b o, s.heap.get? b = some o → s1.heap.get? b = some o) → F s1 → s1.gens = s.gens → s1.os = s.os → out.Perm bs → out.Pairwise (fun x y => dataLt (enc y) (enc x) = false) →
      Q (.ref s1.heap.objs.size) { s1 with heap := sortedHeap (s1.heap.push (seqObj "list" vs.toArray 0)) s1.heap.objs.size vs (out.map val).toArray }) :
    wpAny (model P w) A (call (.builtin "sorted") [.ref r]) Q E s := by
  refine call_function_entry kind_sorted plain_sorted entry_sorted (args_sorted1 _) ?_
  unfold Builtin.«sorted»
  refine wpAny_bind (m := checkCount "sorted" 1 1 _) (wpAny_pure ?_)
  refine wpAny_bind (hc A.in1 _ rfl fun s1 out hk' hz hg ho hp => ?_)
  obtain ⟨bs', pb, rfl⟩ := perm_map val hp
  have hlen : bs'.length = bs.length := pb.length_eq
  refine wpAny_bind (wpAny_newList ?_ (by rw [List.length_map, hlen]; exact hn))
  have hoL : (s1.heap.push (seqObj "list" (bs'.map val).toArray 0)).get? s1.heap.objs.size = some (seqObj "list" (bs'.map val).toArray 0) := Heap.get?_push_size _ rfl
  have er' : EachIs (fun v b => ∃ as, Reads (sortingHeap (s1.heap.push (seqObj "list" (bs'.map val).toArray 0)) s1.heap.objs.size (bs'.map val)) v (enc b) as) (bs'.map val) bs' := by
    have key : ∀ l : List β, (∀ b ∈ l, b ∈ bs') → EachIs (fun v b => ∃ as, Reads (sortingHeap (s1.heap.push (seqObj "list" (bs'.map val).toArray 0)) s1.heap.objs.size (bs'.map val)) v (enc b) as) (l.map val) l := by
      intro l
      induction l with
      | nil => intro _; exact .nil
      | cons b l ih =>
        intro hl
        refine .cons ?_ (ih fun c hc => hl c (List.mem_cons_of_mem _ hc))
        obtain ⟨as, q⟩ := hr b (pb.mem_iff.mp (hl b List.mem_cons_self))
        exact ⟨as, PyProof.Rows.Reads.keeps (fun b o e => sortingHeap_old (Nat.ne_of_lt (Heap.lt_size (hk' b o e))) (Heap.get?_push_of_some _ (hk' b o e))) q⟩
    exact key bs' fun b hb => hb
  have er0 : EachIs (fun v b => v = val b) (bs'.map val) bs' := by
    have key : ∀ l : List β, EachIs (fun v b => v = val b) (l.map val) l := by
      intro l
      induction l with
      | nil => exact .nil
      | cons b l ih => exact .cons rfl ih
    exact key bs'
  have pe : (bs'.map enc).Perm (bs.map enc) := pb.map enc
  have hal' : AllAlike (bs'.map enc) := fun d hd d' hd' => hal d (pe.mem_iff.mp hd) d' (pe.mem_iff.mp hd')
  have hk2 : Sortable (bs'.map enc) := hk.elim (fun z => .inl fun d hd => z d (pe.mem_iff.mp hd)) fun z => .inr fun d hd => z d (pe.mem_iff.mp hd)
  have hu' : ∀ b, b ∈ bs' → A.units + 2 + (enc b).depth < cLine := fun b hb => hu b (pb.mem_iff.mp hb)
  refine wpAny_bind (wpAny_holding (wpAny_call_entry slot_list_sort ⟨_, hoL, rfl⟩ entry_list_sort (list_sort_vals (κ := dataKind (sortingHeap (s1.heap.push (seqObj "list" (bs'.map val).toArray 0)) s1.heap.objs.size (bs'.map val)) (bs'.map enc)) hoL (SortsAt.data (each_map (R := fun v d => ∃ as, Reads (sortingHeap (s1.heap.push (seqObj "list" (bs'.map val).toArray 0)) s1.heap.objs.size (bs'.map val)) v d as) enc er') hal' hk2 (bound_map hu')) (by rw [List.length_map, hlen]; exact hn) ⟨.none, rfl, ?_⟩) (args_list_sort _)))
  refine wpAny_pure ⟨_, rfl, ?_⟩
  have ev := sortVals_data false er0 er' hal'
  have e2 : ∀ {us : List Value} {cs : List β}, EachIs (fun v b => v = val b) us cs → us = cs.map val := by
    intro us cs h
    induction h with
    | nil => rfl
    | cons e _ ih => rw [List.map_cons, e, ih]
  have := h s1 (bs'.map val) (bs'.mergeSort (dataLe false enc)) hk' hz hg ho ((List.mergeSort_perm _ _).trans pb) (sort_rises enc bs')
  rw [← e2 ev] at this
  exact this
end

theorem rise_eq : ∀ {xs ys : List Mi.P}, xs.Perm ys → xs.Pairwise (fun x y => ltP y x = false) → ascP ys = true → xs = ys
  | [], ys, h, _, _ => by rw [List.nil_perm.mp h]
  | x :: xs, [], h, _, _ => by simp at h
  | x :: xs, y :: ys, h, h1, h2 => by
    simp only [ascP, Bool.and_eq_true, List.all_eq_true] at h2
    rw [List.pairwise_cons] at h1
    have e : x = y := by
      apply Classical.byContradiction
      intro hne
      have hx : x ∈ ys := by
        rcases List.mem_cons.mp (h.mem_iff.mp List.mem_cons_self) with z | z
        · exact absurd z hne
        · exact z
      have hy : y ∈ xs := by
        rcases List.mem_cons.mp (h.mem_iff.mpr (List.mem_cons_self (a := y))) with z | z
        · exact absurd z.symm hne
        · exact z
      have := h1.1 y hy
      rw [h2.1 x hx] at this
      cases this
    subst e
    rw [rise_eq h.cons_inv h1.2 h2.2]
theorem onceP_mem : ∀ {xs : List Mi.P} {x : Mi.P}, x ∈ onceP xs ↔ x ∈ xs
  | [], x => by simp [onceP]
  | y :: xs, x => by
    simp only [onceP, List.mem_cons, List.mem_filter, decide_eq_true_eq, onceP_mem (xs := xs)]
    by_cases e : x = y <;> simp [e]
theorem onceP_nodup : ∀ xs : List Mi.P, (onceP xs).Nodup
  | [] => List.nodup_nil
  | y :: xs => by
    simp only [onceP]
    refine List.nodup_cons.mpr ⟨by simp, (onceP_nodup xs).filter _⟩
end Mi

namespace Mi
open PySem PySem.Spec PyProof.Rows L2
abbrev PV := Mi.P × V
def nkOf (b : PV) : NK := ((keyT b.1).getD .none, match b.2 with
  | .ref a => a
  | _ => 0)
def vlOf (b : PV) : Value := match b.2 with
  | .ref a => .ref a
  | _ => .none
theorem pick_of {α β : Type} {f : α → β} {bs : List α} : ∀ {L : List β}, (∀ p ∈ L, p ∈ bs.map f) → ∃ bs' : List α, L = bs'.map f ∧ ∀ b ∈ bs', b ∈ bs
  | [], _ => ⟨[], rfl, fun b h => by cases h⟩
  | p :: L, h => by
    obtain ⟨b, hb, rfl⟩ := List.mem_map.mp (h p List.mem_cons_self)
    obtain ⟨bs', rfl, h2⟩ := pick_of (L := L) fun q hq => h q (List.mem_cons_of_mem _ hq)
    exact ⟨b :: bs', rfl, fun c hc => by
      rcases List.mem_cons.mp hc with rfl | hc
      · exact hb
      · exact h2 c hc⟩
theorem perm_of_mem {α : Type} [DecidableEq α] {xs ys : List α} (h1 : xs.Nodup) (h2 : ys.Nodup) (h : ∀ x, x ∈ xs ↔ x ∈ ys) : xs.Perm ys := (List.perm_ext_iff_of_nodup h1 h2).mpr h
theorem nodup_back {α β : Type} {f : α → β} {l : List α} (h : (l.map f).Nodup) : l.Nodup := List.Pairwise.of_map f (fun _ _ hne e => hne (congrArg f e)) h
section
variable {X : Cx} {g : G} {W : WX}
def SetIn (K : PySem.W.Frag) (H : Hp) (l : Addr) (bs : List PV) : Prop :=
  SqL K H l (bs.map (·.2)) ∧ (∀ b ∈ bs, RelP K H b.1 b.2) ∧ (((∀ b ∈ bs, (keyT b.1).isSome = true) ∧ bs.length ≤ mostN) ∨ ((∀ b ∈ bs, b.1.scal = true) ∧ bs.length < 4000))
theorem set_made {pins : List (Addr × Obj)} {σ : L2.St} {H : Hp} {s : Shared} {A : Around} {E : Value → Shared → Prop} {l : Addr} {bs : List PV} (I : Inv X pins σ H s) (hh : A.handled = none) (hu : A.units + 100 < cLine) (h : SetIn X.K H l bs) {Q : Value → Shared → Prop}
    (q : ∀ (h' : Heap) (tk : Nat) (a : Addr) (bs' : List PV) (val : PV → Value) (es : Array (Int × Value)) (ep : Nat) (t : SetTable), a = s.heap.objs.size → (∀ b o, s.heap.get? b = some o → h'.get? b = some o) → (∀ b ∈ bs', b ∈ bs) → (bs'.map (·.1)).Perm (onceP (bs.map (·.1))) → (∀ b ∈ bs', L2.RelV b.2 (val b)) →
      (∃ o, h'.get? a = some o ∧ o.ExactSet ∧ o.data = .set es ep t) → es.toList.map (·.2) = bs'.map val → t.fits es.size = true → es.size = bs'.length → Ris t.place.toList → (X.w.params.followText "set-order" = true ∨ t.led = true) → Q (.ref a) { s with heap := h', toks := tk }) :
    wpAny (model X.prog X.w) A (call (.type "set") [.ref l]) Q E s := by
  obtain ⟨h1, h2, h3⟩ := h
  obtain ⟨its, rv, pl, hz⟩ := I.list h1
  rcases h3 with ⟨hk, hn⟩ | ⟨hk, hn⟩
  · have ref_of : ∀ b ∈ bs, ∃ a, b.2 = .ref a := fun b hb => by
      obtain ⟨k, e⟩ := Option.isSome_iff_exists.mp (hk b hb)
      exact keyT_ref e (h2 b hb)
    have hits : its = bs.map vlOf := by
      have key : ∀ (cs : List PV) (us : List Value), (∀ b ∈ cs, b ∈ bs) → Vals (cs.map (·.2)) us → us = cs.map vlOf := by
        intro cs
        induction cs with
        | nil => intro us _ r; cases r; rfl
        | cons b cs ih =>
          intro us hc r
          cases r with
          | cons r1 r2 =>
            obtain ⟨a, e⟩ := ref_of b (hc b List.mem_cons_self)
            rw [List.map_cons, ← ih _ (fun c hc' => hc c (List.mem_cons_of_mem _ hc')) r2]
            congr 1
            unfold vlOf
            dsimp only at r1
            rw [e] at r1 ⊢
            exact r1
      exact key bs its (fun b hb => hb) rv
    have vl_nk : ∀ b ∈ bs, Value.ref (nkOf b).2 = vlOf b := fun b hb => by
      obtain ⟨a, e⟩ := ref_of b hb
      unfold nkOf vlOf
      rw [e]
    have isn : ∀ b ∈ bs, IsN s.heap (nkOf b).1 (nkOf b).2 := fun b hb => by
      obtain ⟨k, e⟩ := Option.isSome_iff_exists.mp (hk b hb)
      obtain ⟨a, ea⟩ := ref_of b hb
      have r := h2 b hb
      rw [ea] at r
      have := key_is I e r
      unfold nkOf
      rw [e, ea]
      exact this
    refine call_set_N (bs.map nkOf) hh pl.isList (by rw [hits]; simp only [List.map_map]; exact List.map_congr_left fun b hb => (vl_nk b hb).symm) (fun p hp => ?_) (by rw [List.length_map]; exact hn) (by omega) fun h' tk L es ep t R gt kp => ?_
    · obtain ⟨b, hb, rfl⟩ := List.mem_map.mp hp
      exact isn b hb
    · obtain ⟨bs', rfl, hsub⟩ := pick_of (L := L) (f := nkOf) (bs := bs) fun p hp => List.mem_of_mem_take (gt.sub p hp)
      have same : ∀ b ∈ bs, ∀ c ∈ bs, (nkOf b).1 = (nkOf c).1 → b.1 = c.1 := fun b hb c hc e => by
        obtain ⟨k, e1⟩ := Option.isSome_iff_exists.mp (hk b hb)
        obtain ⟨k', e2⟩ := Option.isSome_iff_exists.mp (hk c hc)
        unfold nkOf at e
        rw [e1, e2] at e
        simp only [Option.getD_some] at e
        subst e
        exact keyT_inj e1 e2
      have nd1 : (bs'.map (·.1)).Nodup := by
        have := R.nd
        rw [List.map_map] at this
        rw [List.Nodup, List.pairwise_map] at this ⊢
        refine this.imp fun {b c} hne e => hne ?_
        show (nkOf b).1 = (nkOf c).1
        unfold nkOf
        rw [e]
      refine q h' tk _ bs' vlOf es ep t rfl kp hsub (perm_of_mem nd1 (onceP_nodup _) fun x => ?_) (fun b hb => ?_) R.ob ?_ (SetN.fits (s := { s with heap := h' }) R) (by rw [SetN.size (s := { s with heap := h' }) R, List.length_map]) R.tab.ris R.led
      · rw [onceP_mem]
        constructor
        · intro hx
          obtain ⟨b, hb, rfl⟩ := List.mem_map.mp hx
          exact List.mem_map.mpr ⟨b, hsub b hb, rfl⟩
        · intro hx
          obtain ⟨b, hb, rfl⟩ := List.mem_map.mp hx
          have := gt.all (nkOf b) (by rw [List.take_length]; exact List.mem_map.mpr ⟨b, hb, rfl⟩)
          rw [List.map_map] at this
          obtain ⟨c, hc, e⟩ := List.mem_map.mp this
          exact List.mem_map.mpr ⟨c, hc, same c (hsub c hc) b hb e⟩
      · obtain ⟨a, e⟩ := ref_of b (hsub b hb)
        unfold vlOf
        rw [e]
        rfl
      · rw [R.rows, List.map_map, List.map_map]
        exact List.map_congr_left fun b hb => vl_nk b (hsub b hb)
  · have key : ∀ (cs : List PV) (us : List Value), (∀ b ∈ cs, b ∈ bs) → Vals (cs.map (·.2)) us → ∃ ks : List SK, us = ks.map (·.2) ∧ (∀ p ∈ ks, keyIs p.1 p.2 = true) ∧ cs.length = ks.length ∧ ∀ p ∈ cs.zip ks, keyK p.1.1 = some p.2.1 ∧ L2.RelV p.1.2 p.2.2 := by
      intro cs
      induction cs with
      | nil => intro us _ r; cases r; exact ⟨[], rfl, fun p hp => (by cases hp), rfl, fun p hp => (by cases hp)⟩
      | cons b cs ih =>
        intro us hc r
        cases r with
        | @cons _ u _ _ r1 r2 =>
          obtain ⟨ks, e1, e2, e3, e4⟩ := ih _ (fun c hc' => hc c (List.mem_cons_of_mem _ hc')) r2
          have hb := hc b List.mem_cons_self
          have hs := hk b hb
          have hr := h2 b hb
          obtain ⟨x, v⟩ := b
          dsimp only at hs hr r1
          have : ∃ k, keyK x = some k ∧ keyIs k u = true := by
            cases x with
            | int i =>
              simp only [RelP] at hr
              subst hr
              obtain ⟨t, rfl⟩ := r1
              exact ⟨_, rfl, keyIs_int i t⟩
            | str y =>
              simp only [RelP] at hr
              subst hr
              obtain ⟨t, rfl⟩ := r1
              exact ⟨_, rfl, keyIs_str y t⟩
            | _ => simp [P.scal] at hs
          obtain ⟨k, z1, z2⟩ := this
          refine ⟨(k, u) :: ks, by rw [List.map_cons, e1], fun p hp => ?_, by simp [e3], fun p hp => ?_⟩
          · rcases List.mem_cons.mp hp with rfl | hp
            · exact z2
            · exact e2 p hp
          · rw [List.zip_cons_cons] at hp
            rcases List.mem_cons.mp hp with rfl | hp
            · exact ⟨z1, r1⟩
            · exact e4 p hp
    obtain ⟨ks, e1, e2, e3, e4⟩ := key bs its (fun b hb => hb) rv
    refine call_set_C ks hh pl.isList (by simpa using e1) e2 (by rw [← e3]; exact hn) fun h' tk L es ep t R gt kp => ?_
    have ezip1 : (bs.zip ks).map (·.2) = ks := (zip_snd bs ks e3).1
    have ezip2 : (bs.zip ks).map (·.1) = bs := (zip_snd bs ks e3).2
    obtain ⟨zs, rfl, hsub⟩ := pick_of (L := L) (f := (·.2)) (bs := bs.zip ks) fun p hp => by rw [ezip1]; exact List.mem_of_mem_take (gt.sub p hp)
    have keyz : ∀ z ∈ bs.zip ks, keyK z.1.1 = some z.2.1 := fun z hz => (e4 z hz).1
    have hinj : ∀ z ∈ bs.zip ks, ∀ y ∈ bs.zip ks, z.2.1 = y.2.1 → z.1.1 = y.1.1 := fun z hz y hy e => keyK_inj (keyz z hz) (by rw [e]; exact keyz y hy)
    have nd1 : ((zs.map (·.1)).map (·.1)).Nodup := by
      have := R.nd
      rw [List.map_map] at this
      rw [List.map_map]
      rw [List.Nodup, List.pairwise_map] at this ⊢
      refine List.Pairwise.imp_of_mem (fun {z y} hz hy hne e => hne ?_) this
      have a1 := keyz z (hsub z hz)
      have a2 := keyz y (hsub y hy)
      have e' : z.1.1 = y.1.1 := e
      rw [e', a2] at a1
      exact (Option.some.inj a1).symm
    -- the value of a pair, by its place among zs
    have ndz : (zs.map (·.1)).Nodup := nodup_back nd1
    let val : PV → Value := fun b => ((zs.find? fun z => decide (z.1.1 = b.1)).map (·.2.2)).getD .none
    have hval : ∀ z ∈ zs, val z.1 = z.2.2 := fun z hz => by
      have : (zs.find? fun y => decide (y.1.1 = z.1.1)) = some z := by
        cases hf : zs.find? fun y => decide (y.1.1 = z.1.1) with
        | none => have := List.find?_eq_none.mp hf z hz; simp at this
        | some y =>
          have hy := List.mem_of_find?_eq_some hf
          have hp := List.find?_some hf
          simp only [decide_eq_true_eq] at hp
          rw [List.map_map] at nd1
          obtain ⟨i, hi, ei⟩ := List.getElem_of_mem hy
          obtain ⟨j, hj, ej⟩ := List.getElem_of_mem hz
          have hij : i = j := by
            apply Classical.byContradiction
            intro hne
            rw [List.Nodup, List.pairwise_map, List.pairwise_iff_getElem] at nd1
            rcases Nat.lt_or_gt_of_ne hne with c | c
            · exact nd1 i j hi hj c (by rw [ei, ej]; exact hp)
            · exact nd1 j i hj hi c (by rw [ei, ej]; exact hp.symm)
          subst hij
          rw [ei] at ej
          rw [ej]
      show ((zs.find? fun y => decide (y.1.1 = z.1.1)).map (·.2.2)).getD .none = z.2.2
      rw [this]
      rfl
    refine q h' tk _ (zs.map (·.1)) val es ep t rfl kp (fun b hb => ?_) (perm_of_mem nd1 (onceP_nodup _) fun x => ?_) (fun b hb => ?_) R.ob ?_ R.fits (by rw [SetC.size (s := { s with heap := h' }) R, List.length_map, List.length_map]) R.ris R.led
    · obtain ⟨z, hz, rfl⟩ := List.mem_map.mp hb
      exact (List.of_mem_zip (hsub z hz)).1
    · rw [onceP_mem]
      constructor
      · intro hx
        obtain ⟨b, hb, rfl⟩ := List.mem_map.mp hx
        obtain ⟨z, hz, rfl⟩ := List.mem_map.mp hb
        exact List.mem_map.mpr ⟨z.1, (List.of_mem_zip (hsub z hz)).1, rfl⟩
      · intro hx
        obtain ⟨b, hb, rfl⟩ := List.mem_map.mp hx
        rw [← ezip2] at hb
        obtain ⟨z, hz, rfl⟩ := List.mem_map.mp hb
        have hk2 : z.2 ∈ ks := (List.of_mem_zip hz).2
        have := gt.all z.2 (by rw [List.take_length]; exact hk2)
        rw [List.map_map] at this
        obtain ⟨y, hy, e⟩ := List.mem_map.mp this
        exact List.mem_map.mpr ⟨y.1, List.mem_map.mpr ⟨y, hy, rfl⟩, hinj y (hsub y hy) z hz e⟩
    · obtain ⟨z, hz, rfl⟩ := List.mem_map.mp hb
      rw [hval z hz]
      exact (e4 z (hsub z hz)).2
    · rw [R.rows, List.map_map, List.map_map, List.map_map]
      exact List.map_congr_left fun z hz => (hval z hz).symm
def tSortSet (K : PySem.W.Frag) (te : TE) : TE := fun σ H Q => te σ H fun x H1 => ∃ l bs ys, x = .ref l ∧ SetIn K H1 l bs ∧ sortSetV (bs.map (·.1)) = some ys ∧ ∀ p us, H1 p = none → RelPs K H1 ys us → Q (.ref p) (upd H1 p (.lst us))
theorem pe_sortSet {a : Expr} {ta : TE} {p p2 q pos : Pos} (hc : X.calm = true) (hu : X.A.units + 200 < cLine) (hg : Gl X "sorted") (hm : X.mg "sorted" = none) (hg2 : Gl X "set") (hm2 : X.mg "set" = none) (ha : PE X a ta)
    (na : starEach [a] X.env = (false, eval a X.env) :: starEach [] X.env) : PE X (.Call (.Name "sorted" p) [.Call (.Name "set" p2) [a] [] q] [] pos) (tSortSet X.K ta) := by
  refine ⟨fun pins s σ H Q I h => ?_⟩
  refine Call_ (ld_blt I hg hm PyProof.Rows.boot_sorted ?_)
  refine PyProof.Rows.callWith_builtin1 (PyProof.Rows.args_cons ?_ rfl) rfl rfl
  refine Call_ (ld_blt I hg2 hm2 boot_set ?_)
  refine PyProof.Rows.callWith_type1 (PyProof.Rows.args_cons (thn (ha.run pins s σ H _ I h) fun v s1 ⟨x, H1, I1, r1, q1⟩ => PyProof.Rows.args_nil ?_) na) na rfl
  obtain ⟨l, bs, ys, rfl, hin, hys, q1⟩ := q1
  cases r1
  refine set_made I1 (I1.ok.hd hc) (by omega) hin fun h' tk a bs' val es ep t ha kp hsub hpm hval hob hes hft hsz hris hled => ?_
  subst ha
  refine PyProof.Rows.args_nil ?_
  have I2 : Inv X pins σ H1 { s1 with heap := h', toks := tk } := I1.kept kp
  obtain ⟨o, ho, hex, hd⟩ := hob
  unfold sortSetV at hys
  split at hys
  · rename_i hcond
    simp only [Bool.and_eq_true] at hcond
    obtain ⟨⟨⟨⟨c1, c2⟩, c3⟩, c4⟩, c5⟩ := hcond
    cases hys
    have ml : ∀ b ∈ bs', b.1 ∈ bs.map (·.1) := fun b hb => List.mem_map.mpr ⟨b, hsub b hb, rfl⟩
    have mo : ∀ b ∈ bs', b.1 ∈ onceP (bs.map (·.1)) := fun b hb => onceP_mem.mpr (ml b hb)
    have hl4 : bs'.length < 4001 := by
      have e1 : bs'.length = (onceP (bs.map (·.1))).length := by rw [← hpm.length_eq, List.length_map]
      have e2 : ∀ zs : List Mi.P, (onceP zs).length ≤ zs.length := by
        intro zs
        induction zs with
        | nil => exact Nat.le_refl _
        | cons z zs ih =>
          simp only [onceP, List.length_cons]
          have := List.length_filter_le (fun y => decide (y ≠ z)) (onceP zs)
          omega
      have e3 := e2 (bs.map (·.1))
      rw [List.length_map] at e3
      have e4 : bs.length < 4001 := by
        rcases hin.2.2 with ⟨_, z⟩ | ⟨_, z⟩
        · unfold mostN at z; omega
        · omega
      omega
    refine sorted_coll (fun s' => h'.objs.size ≤ s'.heap.objs.size) (s := { s1 with heap := h', toks := tk }) (enc := fun b : PV => b.1.toD) (val := val) (bs := bs') (fun A' Q' hA' hq' => ?_) (fun b hb => ?_) (by rw [sizeLine_eq]; omega) ?_ ?_ (fun b hb => ?_) fun s2 vs out kp2 hz2 hg2' ho2 hp2 hw2 => ?_
    · refine collect_set (s := { s1 with heap := h', toks := tk }) (by rw [hA']; exact I1.ok.hd hc) ⟨o, ho, hex.1, hd⟩ hft (by rw [hsz]; unfold scanBound; omega) hris hled fun s' out a1 a2 a3 a4 a5 => ?_
      rw [hes] at a5
      exact hq' s' out a1 a2 a3 a4 a5
    · exact Dp.reads I2 b.1.toD b.2 (val b) (dp_P b.1 b.2 (hin.2.1 b (hsub b hb))) (hval b hb)
    · intro d hd' d2 hd2
      obtain ⟨x, hx, rfl⟩ := List.mem_map.mp hd'
      obtain ⟨y, hy, rfl⟩ := List.mem_map.mp hd2
      exact (alike_of c2 _ (mo x hx) _ (mo y hy)).1
    · have := sortable_of c4
      exact this.elim (fun z => .inl fun d hd' => by
        obtain ⟨x, hx, rfl⟩ := List.mem_map.mp hd'
        exact z _ (List.mem_map.mpr ⟨x.1, ml x hx, rfl⟩)) fun z => .inr fun d hd' => by
        obtain ⟨x, hx, rfl⟩ := List.mem_map.mp hd'
        exact z _ (List.mem_map.mpr ⟨x.1, ml x hx, rfl⟩)
    · unfold depthOk at c3
      rw [List.all_eq_true] at c3
      have := c3 b.1 (ml b hb)
      simp only [decide_eq_true_eq] at this
      omega
    · have hout : out.map (·.1) = sortP (onceP (bs.map (·.1))) := by
        refine rise_eq ?_ ?_ c1
        · exact (hp2.map (·.1)).trans (hpm.trans (List.mergeSort_perm _ _).symm)
        · rw [List.pairwise_map]; exact hw2
      have hvo : Vals (out.map (·.2)) (out.map val) := by
        have key : ∀ cs : List PV, (∀ b ∈ cs, b ∈ bs') → Vals (cs.map (·.2)) (cs.map val) := by
          intro cs
          induction cs with
          | nil => intro _; exact .nil
          | cons b cs ih => intro hc'; exact .cons (hval b (hc' b List.mem_cons_self)) (ih fun c hc2 => hc' c (List.mem_cons_of_mem _ hc2))
        exact key out fun b hb => hp2.mem_iff.mp hb
      have hoL : (s2.heap.push (seqObj "list" vs.toArray 0)).get? s2.heap.objs.size = some (seqObj "list" vs.toArray 0) := Heap.get?_push_size _ rfl
      obtain ⟨ep2, hL⟩ := sortedHeap_at (vs := vs) (out := (out.map val).toArray) hoL
      have kall : ∀ b u, s1.heap.get? b = some u → (sortedHeap (s2.heap.push (seqObj "list" vs.toArray 0)) s2.heap.objs.size vs (out.map val).toArray).get? b = some u := fun b u e => by
        have q2 := kp2 b u (kp b u e)
        have hlt := Heap.lt_size q2
        rw [sortedHeap_old (Nat.ne_of_lt hlt) (by rw [size_push']; exact Nat.lt_succ_of_lt hlt)]
        exact Heap.get?_push_of_some _ q2
      have hp : s1.heap.objs.size ≤ s2.heap.objs.size := by
        have hlt : s1.heap.objs.size < h'.objs.size := Heap.lt_size ho
        have hz3 : h'.objs.size ≤ s2.heap.objs.size := hz2
        exact Nat.le_trans (Nat.le_of_lt hlt) hz3
      have hn : H1 s2.heap.objs.size = none := I1.hok.fresh hp
      have hlen : (out.map (·.2)).length ≤ sizeLine := by rw [List.length_map, hp2.length_eq, sizeLine_eq]; omega
      have J : Inv X pins σ (upd H1 s2.heap.objs.size (.lst (out.map (·.2)))) { s1 with heap := sortedHeap (s2.heap.push (seqObj "list" vs.toArray 0)) s2.heap.objs.size vs (out.map val).toArray, gens := s2.gens, drawn := s2.drawn, toks := s2.toks } :=
        I1.call (ch := []) (Un.laid kall hp hn) (I1.hok.laid kall hp ⟨hlen, out.map val, ep2, hvo, hL⟩) (by rw [show s2.gens = s1.gens from hg2']; exact I1.bare) (fun _ z => nomatch z)
      have e : ({ s2 with heap := sortedHeap (s2.heap.push (seqObj "list" vs.toArray 0)) s2.heap.objs.size vs (out.map val).toArray } : Shared) = { s1 with heap := sortedHeap (s2.heap.push (seqObj "list" vs.toArray 0)) s2.heap.objs.size vs (out.map val).toArray, gens := s2.gens, drawn := s2.drawn, toks := s2.toks } := by
        have ho2' : s2.os = s1.os := ho2
        cases s2
        cases s1
        cases ho2'
        rfl
      rw [e]
      refine ⟨.ref s2.heap.objs.size, _, J, rfl, q1 _ (out.map (·.2)) hn ?_⟩
      rw [← hout]
      exact relPs_pairs fun b hb => hin.2.1 b (hsub b (hp2.mem_iff.mp hb))
  · cases hys
def tLenSetM (K : PySem.W.Frag) (te : TE) : TE := fun σ H Q => te σ H fun x H1 => ∃ l bs, x = .ref l ∧ SetIn K H1 l bs ∧ Q (.int ((onceP (bs.map (·.1))).length : Nat)) H1
theorem pe_lenSetM {a : Expr} {ta : TE} {p p2 q pos : Pos} (hc : X.calm = true) (hu : X.A.units + 200 < cLine) (hg : Gl X "len") (hm : X.mg "len" = none) (hg2 : Gl X "set") (hm2 : X.mg "set" = none) (ha : PE X a ta)
    (na : starEach [a] X.env = (false, eval a X.env) :: starEach [] X.env) : PE X (.Call (.Name "len" p) [.Call (.Name "set" p2) [a] [] q] [] pos) (tLenSetM X.K ta) := by
  refine ⟨fun pins s σ H Q I h => ?_⟩
  refine Call_ (ld_blt I hg hm boot_len ?_)
  refine PyProof.Rows.callWith_builtin1 (PyProof.Rows.args_cons ?_ rfl) rfl rfl
  refine Call_ (ld_blt I hg2 hm2 boot_set ?_)
  refine PyProof.Rows.callWith_type1 (PyProof.Rows.args_cons (thn (ha.run pins s σ H _ I h) fun v s1 ⟨x, H1, I1, r1, q1⟩ => PyProof.Rows.args_nil ?_) na) na rfl
  obtain ⟨l, bs, rfl, hin, q1⟩ := q1
  cases r1
  refine set_made I1 (I1.ok.hd hc) (by omega) hin fun h' tk a bs' val es ep t ha kp hsub hpm hval hob hes hft hsz hris hled => ?_
  subst ha
  refine PyProof.Rows.args_nil ?_
  have I2 : Inv X pins σ H1 { s1 with heap := h', toks := tk } := I1.kept kp
  obtain ⟨o, ho, hex, hd⟩ := hob
  have hlen := hpm.length_eq
  rw [List.length_map] at hlen
  have hb : bs'.length ≤ sizeLine := by
    have hz := hin.2.2
    have e2 : ∀ zs : List Mi.P, (onceP zs).length ≤ zs.length := by
      intro zs
      induction zs with
      | nil => exact Nat.le_refl _
      | cons z zs ih =>
        simp only [onceP, List.length_cons]
        have := List.length_filter_le (fun y => decide (y ≠ z)) (onceP zs)
        omega
    have e3 := e2 (bs.map (·.1))
    rw [List.length_map] at e3
    unfold mostN at hz
    rw [sizeLine_eq]
    rcases hz with ⟨_, z⟩ | ⟨_, z⟩ <;> omega
  exact call_len_set ho hex hd hft (by rw [hsz, sizeLine_eq] at *; omega) ⟨.int ((onceP (bs.map (·.1))).length : Nat), H1, I2.tok _, ⟨_, by rw [hsz, hlen]⟩, q1⟩
theorem set_in {ρ : List Addr} {M : Hm} {H : Hp} {w : Mi.W} {v : V} {xs : List Mi.P} (s : Sim g ρ M H) (r : RelW g.K ρ H w v) (h : pureLst M w = some xs)
    (hc : ((xs.all (fun x => (keyT x).isSome) && decide (xs.length ≤ 300)) || (xs.all P.scal && decide (xs.length < 4000))) = true) : ∃ l bs, v = .ref l ∧ SetIn g.K H l bs ∧ bs.map (·.1) = xs := by
  obtain ⟨p, us, rfl, h1, h2⟩ := lst_pure s r h
  have hl : xs.length = us.length := by
    have := relWs_len ((relPs_of (ρ := ρ) xs us).mpr h2)
    simpa using this
  obtain ⟨z1, z2⟩ := zip_snd xs us hl
  refine ⟨p, xs.zip us, rfl, ⟨by rw [z1]; exact h1, relPs_zip h2, ?_⟩, z2⟩
  have hm : ∀ b ∈ xs.zip us, b.1 ∈ xs := fun b hb => (List.of_mem_zip hb).1
  have hz : (xs.zip us).length = xs.length := by rw [List.length_zip, hl, Nat.min_self]
  rw [Bool.or_eq_true, Bool.and_eq_true, Bool.and_eq_true, decide_eq_true_eq, decide_eq_true_eq, List.all_eq_true, List.all_eq_true] at hc
  rcases hc with ⟨c1, c2⟩ | ⟨c1, c2⟩
  · exact .inl ⟨fun b hb => c1 _ (hm b hb), by rw [hz]; exact c2⟩
  · exact .inr ⟨fun b hb => c1 _ (hm b hb), by rw [hz]; exact c2⟩
theorem sd_sortSet {f : En → Hm → R Mi.W} {a : Expr} {p p2 q pos : Pos} (gx : GX g X) (hc : X.calm = true) (hu : X.A.units + 200 < cLine) (hg : Gl X "sorted") (hm : X.mg "sorted" = none) (hg2 : Gl X "set") (hm2 : X.mg "set" = none) (ha : PE X a (tE g W f))
    (na : starEach [a] X.env = (false, eval a X.env) :: starEach [] X.env) : PE X (.Call (.Name "sorted" p) [.Call (.Name "set" p2) [a] [] q] [] pos) (tE g W fun env M => (f env M).bnd fun w M1 => sortedSetF [w] M1) := by
  refine PE.weak (pe_sortSet hc hu hg hm hg2 hm2 ha na) fun σ H Q h => ?_
  refine (tI.bnd (rel1 := relW g) (k := fun _ w M1 => sortedSetF [w] M1) h).mono fun v H1 ⟨ρ1, M1, env, w, a1, b1, c1, d1⟩ => ?_
  simp only [sortedSetF] at d1
  cases e : (pureLst M1 w).bind sortSetV with
  | none => rw [e] at d1; exact d1.elim
  | some ys =>
    rw [e] at d1
    rw [Option.bind_eq_some_iff] at e
    obtain ⟨xs, e1, e2⟩ := e
    have hcond := e2
    unfold sortSetV at hcond
    split at hcond
    · rename_i hx
      simp only [Bool.and_eq_true] at hx
      obtain ⟨l, bs, rfl, h1, h2⟩ := set_in b1 c1 e1 hx.2
      rw [← gx.K]
      refine ⟨l, bs, ys, rfl, h1, by rw [h2]; exact e2, fun p us hp hr => ?_⟩
      exact post_newL b1 d1 hp ((relPs_of _ _).mpr hr)
    · cases hcond
theorem sd_lenSet {f : En → Hm → R Mi.W} {a : Expr} {p p2 q pos : Pos} (gx : GX g X) (hc : X.calm = true) (hu : X.A.units + 200 < cLine) (hg : Gl X "len") (hm : X.mg "len" = none) (hg2 : Gl X "set") (hm2 : X.mg "set" = none) (ha : PE X a (tE g W f))
    (na : starEach [a] X.env = (false, eval a X.env) :: starEach [] X.env) : PE X (.Call (.Name "len" p) [.Call (.Name "set" p2) [a] [] q] [] pos) (tE g W fun env M => (f env M).bnd fun w M1 => lenSetF [w] M1) := by
  refine PE.weak (pe_lenSetM hc hu hg hm hg2 hm2 ha na) fun σ H Q h => ?_
  refine (tI.bnd (rel1 := relW g) (k := fun _ w M1 => lenSetF [w] M1) h).mono fun v H1 ⟨ρ1, M1, env, w, a1, b1, c1, d1⟩ => ?_
  simp only [lenSetF] at d1
  cases e1 : pureLst M1 w with
  | none => rw [e1] at d1; exact d1.elim
  | some xs =>
    rw [e1] at d1
    simp only [Option.bind_some] at d1
    unfold lenSetV at d1
    by_cases hx : ((xs.all (fun x => (keyT x).isSome) && decide (xs.length ≤ 300)) || (xs.all P.scal && decide (xs.length < 4000))) = true
    · rw [if_pos hx] at d1
      obtain ⟨l, bs, rfl, h1, h2⟩ := set_in b1 c1 e1 hx
      rw [← gx.K]
      exact ⟨l, bs, rfl, h1, by rw [h2]; exact post_p b1 d1 (by simp [RelP])⟩
    · rw [if_neg hx] at d1
      exact d1.elim
end
end Mi

namespace Mi
open PySem PySem.Spec PyProof.Rows L2
theorem obj_live {P : Program} {w : World} {H : Hp} {h : Heap} {a : Addr} {o : HO} (x : ObjOk P w H h a o) : ∃ u, h.get? a = some u := by
  cases o with
  | lst xs => obtain ⟨_, its, n, _, e⟩ := x; exact ⟨_, e⟩
  | tup xs => obtain ⟨_, its, _, u, e, _⟩ := x; exact ⟨_, e⟩
  | dK kvs => obtain ⟨_, _, vs, _, o, _, _, e, _⟩ := x; exact ⟨_, e⟩
  | dT kvs => obtain ⟨_, _, xs, _, o, _, _, e, _⟩ := x; exact ⟨_, e⟩
  | set S n => obtain ⟨o, _, _, _, e, _⟩ := x; exact ⟨_, e⟩
  | ins C dx fs => obtain ⟨_, _, _, e, _⟩ := x; exact ⟨_, e⟩
  | own y => exact x
  | xd fs => obtain ⟨mA, ⟨_, _, _, e, _⟩, _⟩ := x; exact ⟨_, e⟩
  | rng lo hi => obtain ⟨_, _, _, e⟩ := x; exact ⟨_, e⟩
  | frz o u => exact ⟨_, x.1⟩
  | tbl ps => exact ⟨_, x⟩
  | met f y => exact ⟨_, x⟩
  | ext φ => exact x.2.1
section
variable {X : Cx} {g : G} {W : WX}
def KeysV (g : G) (H : Hp) (a : Addr) (bs : List (Mi.P × V × V)) : Prop :=
  (∀ b ∈ bs, RelP g.K H b.1 b.2.1) ∧
  ((∃ ks, H a = some (.dK ks) ∧ bs.map (·.2) = ks.map fun q => (kV q.1, q.2)) ∨ ∃ es, H a = some (dicO g.P g.w a es) ∧ Keyed g H es ∧ bs.map (·.2) = es.map fun e => (.ref e.2.1, e.2.2))
theorem keys_raw {pins : List (Addr × Obj)} {σ : L2.St} {H : Hp} {s : Shared} {a : Addr} {bs : List (Mi.P × V × V)} (gx : GX g X) (I : Inv X pins σ H s) (h : KeysV g H a bs) :
    (a == sysModules) = false ∧ bs.length ≤ sizeLine ∧ ∃ es ep, s.heap.DictRaw a es ep ∧ es.size = bs.length ∧ ∀ i (hi : i < es.size) b, bs[i]? = some b → L2.RelV b.2.1 es[i].key ∧ L2.RelV b.2.2 es[i].val := by
  obtain ⟨_, h | h⟩ := h
  · obtain ⟨ks, e, e2⟩ := h
    obtain ⟨hl, hs, vs, kv, D⟩ := I.hok a _ e
    obtain ⟨ep, D⟩ := D.dictAt
    obtain ⟨es, hr, hz, hat⟩ := D.raw
    have l1 : bs.length = ks.length := by have := congrArg List.length e2; simpa using this
    have l2 : ks.length = vs.length := Paired.length kv
    refine ⟨hs, by omega, es, ep, hr, by omega, fun i hi b hb => ?_⟩
    have hq : (bs.map (·.2))[i]? = some b.2 := by rw [List.getElem?_map, hb]; rfl
    rw [e2, List.getElem?_map] at hq
    cases hk : ks[i]? with
    | none => rw [hk] at hq; cases hq
    | some q =>
      rw [hk] at hq
      obtain ⟨k, v⟩ := q
      have hb2 := (Option.some.inj hq).symm
      obtain ⟨u, hu, ru⟩ := kv_get kv hk
      obtain ⟨z1, z2⟩ := hat i hi k u hu
      rw [hb2]
      exact ⟨relV_key z1, by rw [z2]; exact ru⟩
  · obtain ⟨es, e, hk, e2⟩ := h
    obtain ⟨hs, hl, xs, hp, o, ds, ep, h4, h5, h6, h7, h8, h9⟩ := dictOfH I gx.K gx.P gx.w e hk
    have l1 : bs.length = es.length := by have := congrArg List.length e2; simpa using this
    have l2 : es.length = xs.length := Paired.length hp
    have l3 : ds.size = xs.length := by have := congrArg List.length h7; simpa using this
    refine ⟨hs, by omega, ds, ep, ⟨o, h4, h5, h6⟩, by omega, fun i hi b hb => ?_⟩
    have hq : (bs.map (·.2))[i]? = some b.2 := by rw [List.getElem?_map, hb]; rfl
    rw [e2, List.getElem?_map] at hq
    cases hk : es[i]? with
    | none => rw [hk] at hq; cases hq
    | some q =>
      rw [hk] at hq
      have hb2 := (Option.some.inj hq).symm
      have hx : ∃ x, xs[i]? = some x ∧ x.1 = q.1 ∧ x.2.1 = q.2.1 ∧ L2.RelV q.2.2 x.2.2 := by
        have : ∀ {es : List (NestedKey × Addr × V)} {xs : List (NestedKey × Addr × Value)} {i : Nat} {q}, PT3 es xs → es[i]? = some q → ∃ x, xs[i]? = some x ∧ x.1 = q.1 ∧ x.2.1 = q.2.1 ∧ L2.RelV q.2.2 x.2.2 := by
          intro es xs i q p
          induction p generalizing i with
          | nil => intro h; simp at h
          | cons h1 h2 ih =>
            intro h
            cases i with
            | zero =>
              simp only [List.getElem?_cons_zero, Option.some.injEq] at h
              subst h
              exact ⟨_, rfl, h1.1, h1.2.1, h1.2.2⟩
            | succ i => simpa using ih (by simpa using h)
        exact this hp hk
      obtain ⟨x, hx, x1, x2, x3⟩ := hx
      have he : ds[i]? = some (entryOfKey (nestedKind X.prog X.w) x) := by rw [← Array.getElem?_toList, h7, List.getElem?_map, hx]; rfl
      have he2 : ds[i] = entryOfKey (nestedKind X.prog X.w) x := by
        rw [Array.getElem?_eq_getElem hi] at he
        exact Option.some.inj he
      rw [he2, hb2]
      refine ⟨?_, x3⟩
      show Value.ref x.2.1 = Value.ref q.2.1
      rw [x2]
def rSortK (g : G) : List V → Hp → VK → Prop := fun vs H Q => ∃ a bs ys, vs = [V.ref a] ∧ KeysV g H a bs ∧ sortKeysV (bs.map (·.1)) = some ys ∧ ∀ p us, H p = none → RelPs g.K H ys us → Q (.ref p) (upd H p (.lst us))
theorem cr_sortK (gx : GX g X) (hc : X.calm = true) (hu : X.A.units + 200 < cLine) : CallR X (.builtin "sorted") (rSortK g) := by
  intro pins s σ H vs us Q I r ⟨a, bs, ys, h1, h2, h3, q⟩
  subst h1
  rw [Vals.ref1 r]
  obtain ⟨hs, hl, es, ep, hr, hz, hat⟩ := keys_raw gx I h2
  unfold sortKeysV at h3
  by_cases hcond : (ascP (sortP (bs.map (·.1))) && allAlike (bs.map (·.1)) && depthOk (bs.map (·.1)) && sortable (bs.map (·.1)) && decide ((bs.map (·.1)).length ≤ 100000)) = true
  · rw [if_pos hcond] at h3
    cases h3
    simp only [Bool.and_eq_true] at hcond
    obtain ⟨⟨⟨⟨c1, c2⟩, c3⟩, c4⟩, c5⟩ := hcond
    have lz : bs.length = (es.toList.map (·.key)).length := by simp [hz]
    obtain ⟨z1, z2⟩ := zip_snd bs (es.toList.map (·.key)) lz
    have hrel : ∀ z ∈ bs.zip (es.toList.map (·.key)), L2.RelV z.1.2.1 z.2 := fun z hzm => by
      obtain ⟨i, hi, e⟩ := List.getElem_of_mem hzm
      have hi1 : i < bs.length := by rw [List.length_zip] at hi; omega
      have hi2 : i < es.size := by omega
      rw [List.getElem_zip] at e
      subst e
      have := (hat i hi2 bs[i] (List.getElem?_eq_getElem hi1)).1
      simpa using this
    have hmem : ∀ z ∈ bs.zip (es.toList.map (·.key)), z.1 ∈ bs := fun z hzm => (List.of_mem_zip hzm).1
    refine sorted_coll (fun s' => s'.drawn = s.drawn) (enc := fun z : (Mi.P × V × V) × Value => z.1.1.toD) (val := (·.2)) (bs := bs.zip (es.toList.map (·.key))) (fun A' Q' hA' hq' => ?_) (fun b hb => ?_) (by rw [List.length_zip]; omega) ?_ ?_ (fun b hb => ?_) fun s2 vs out kp2 hz2 hg2' ho2 hp2 hw2 => ?_
    · refine PySem.W.kdu_collect (kdl_raw hs) (by rw [hA']; exact I.ok.hd hc) hr (by rw [hz]; exact hl) fun h' tk acc hk' hacc => ?_
      refine hq' { s with heap := h', toks := tk } acc.toList (fun b o e => hk' b o e) rfl rfl rfl ?_
      · have : acc.toList = es.toList.map (·.key) := by
          apply List.ext_getElem?
          intro i
          by_cases hi : i < es.size
          · have hi2 : i < acc.size := by rw [hacc.1]; exact hi
            obtain ⟨hi3, e⟩ := hacc.2 i acc[i] (Array.getElem?_eq_getElem hi2)
            rw [Array.getElem?_toList, Array.getElem?_eq_getElem hi2, e, List.getElem?_map, Array.getElem?_toList, Array.getElem?_eq_getElem hi]
            rfl
          · rw [Array.getElem?_toList, List.getElem?_map, Array.getElem?_toList, Array.getElem?_eq_none (by rw [hacc.1]; omega), Array.getElem?_eq_none (by omega)]
            rfl
        rw [this, z1]
    · exact Dp.reads I b.1.1.toD b.1.2.1 b.2 (dp_P b.1.1 b.1.2.1 (by rw [← gx.K]; exact h2.1 _ (hmem b hb))) (hrel b hb)
    · intro d hd d' hd'
      obtain ⟨x, hx, rfl⟩ := List.mem_map.mp hd
      obtain ⟨y, hy, rfl⟩ := List.mem_map.mp hd'
      exact (alike_of c2 x.1.1 (List.mem_map.mpr ⟨_, hmem x hx, rfl⟩) y.1.1 (List.mem_map.mpr ⟨_, hmem y hy, rfl⟩)).1
    · have := sortable_of c4
      exact this.elim (fun z => .inl fun d hd' => by
        obtain ⟨x, hx, rfl⟩ := List.mem_map.mp hd'
        exact z _ (List.mem_map.mpr ⟨x.1.1, List.mem_map.mpr ⟨_, hmem x hx, rfl⟩, rfl⟩)) fun z => .inr fun d hd' => by
        obtain ⟨x, hx, rfl⟩ := List.mem_map.mp hd'
        exact z _ (List.mem_map.mpr ⟨x.1.1, List.mem_map.mpr ⟨_, hmem x hx, rfl⟩, rfl⟩)
    · unfold depthOk at c3
      rw [List.all_eq_true] at c3
      have := c3 b.1.1 (List.mem_map.mpr ⟨_, hmem b hb, rfl⟩)
      simp only [decide_eq_true_eq] at this
      omega
    · have hout : out.map (fun z => z.1.1) = sortP (bs.map (·.1)) := by
        refine rise_eq ?_ ?_ c1
        · refine (hp2.map (fun z => z.1.1)).trans ?_
          have : (bs.zip (es.toList.map (·.key))).map (fun z => z.1.1) = bs.map (·.1) := by
            conv => rhs; rw [← z2]
            rw [List.map_map]
            rfl
          rw [this]
          exact (List.mergeSort_perm _ _).symm
        · rw [List.pairwise_map]; exact hw2
      have hmo : ∀ b ∈ out, b ∈ bs.zip (es.toList.map (·.key)) := fun b hb => hp2.mem_iff.mp hb
      have hvo : Vals (out.map (fun z => z.1.2.1)) (out.map (·.2)) := by
        have key : ∀ cs : List ((Mi.P × V × V) × Value), (∀ b ∈ cs, b ∈ out) → Vals (cs.map (fun z => z.1.2.1)) (cs.map (·.2)) := by
          intro cs
          induction cs with
          | nil => intro _; exact .nil
          | cons b cs ih => intro hc'; exact .cons (hrel b (hmo b (hc' b List.mem_cons_self))) (ih fun c hc2 => hc' c (List.mem_cons_of_mem _ hc2))
        exact key out fun b hb => hb
      have hoL : (s2.heap.push (seqObj "list" vs.toArray 0)).get? s2.heap.objs.size = some (seqObj "list" vs.toArray 0) := Heap.get?_push_size _ rfl
      obtain ⟨ep2, hL⟩ := sortedHeap_at (vs := vs) (out := (out.map (·.2)).toArray) hoL
      have kall : ∀ b u, s.heap.get? b = some u → (sortedHeap (s2.heap.push (seqObj "list" vs.toArray 0)) s2.heap.objs.size vs (out.map (·.2)).toArray).get? b = some u := fun b u e => by
        have q2 := kp2 b u e
        have hlt := Heap.lt_size q2
        rw [sortedHeap_old (Nat.ne_of_lt hlt) (by rw [size_push']; exact Nat.lt_succ_of_lt hlt)]
        exact Heap.get?_push_of_some _ q2
      have hfree : s.heap.get? s2.heap.objs.size = none := by
        cases e : s.heap.get? s2.heap.objs.size with
        | none => rfl
        | some o => exact absurd (Heap.lt_size (kp2 _ _ e)) (Nat.lt_irrefl _)
      have hn : H s2.heap.objs.size = none := by
        cases e : H s2.heap.objs.size with
        | none => rfl
        | some o =>
          obtain ⟨u, hu⟩ := obj_live (I.hok _ _ e)
          rw [hfree] at hu
          cases hu
      have hlen : (out.map (fun z => z.1.2.1)).length ≤ sizeLine := by rw [List.length_map, hp2.length_eq, List.length_zip]; omega
      have J := I.laidN (t' := s2.toks) (o := .lst (out.map (fun z => z.1.2.1))) kall hfree hn ⟨hlen, out.map (·.2), ep2, hvo, hL⟩
      have e : ({ s2 with heap := sortedHeap (s2.heap.push (seqObj "list" vs.toArray 0)) s2.heap.objs.size vs (out.map (·.2)).toArray } : Shared) = { s with heap := sortedHeap (s2.heap.push (seqObj "list" vs.toArray 0)) s2.heap.objs.size vs (out.map (·.2)).toArray, toks := s2.toks } := by
        cases s2
        cases s
        cases ho2
        cases hg2'
        cases hz2
        rfl
      rw [e]
      refine ⟨.ref s2.heap.objs.size, _, J, rfl, q _ (out.map (fun z => z.1.2.1)) hn ?_⟩
      rw [← hout]
      have : out.map (fun z => z.1.1) = (out.map (fun z => (z.1.1, z.1.2.1))).map (·.1) := by rw [List.map_map]; rfl
      rw [this]
      have e3 : out.map (fun z => z.1.2.1) = (out.map (fun z => (z.1.1, z.1.2.1))).map (·.2) := by rw [List.map_map]; rfl
      rw [e3]
      exact relPs_pairs fun b hb => by
        obtain ⟨z, hzo, rfl⟩ := List.mem_map.mp hb
        exact h2.1 _ (hmem z (hmo z hzo))
  · rw [if_neg hcond] at h3
    cases h3
theorem dic_keysV {ρ : List Addr} {M : Hm} {H : Hp} {k : Nat} {v : V} {kvs : List (Mi.P × Mi.W)} (s : Sim g ρ M H) (r : RelW g.K ρ H (.ref k) v) (e : M[k]? = some (.dic kvs)) :
    ∃ p bs, v = .ref p ∧ KeysV g H p bs ∧ bs.map (·.1) = kvs.map (·.1) ∧ RelWs g.K ρ H (kvs.map (·.2)) (bs.map fun b => b.2.2) := by
  obtain ⟨p, rfl, hp, hd⟩ := sim_dic s r e
  refine ⟨p, ?_⟩
  rcases hd with ⟨ks, h1, h2⟩ | ⟨es, h1, h2⟩
  · have key : ∀ {kvs : List (Mi.P × Mi.W)} {ks : List (Key × V)}, RelKs g.K ρ H kvs ks → ∃ bs : List (Mi.P × V × V), (∀ b ∈ bs, RelP g.K H b.1 b.2.1) ∧ bs.map (·.2) = ks.map (fun q => (kV q.1, q.2)) ∧ bs.map (·.1) = kvs.map (·.1) ∧ RelWs g.K ρ H (kvs.map (·.2)) (bs.map fun b => b.2.2) := by
      intro kvs
      induction kvs with
      | nil => intro ks h; simp only [RelKs] at h; subst h; exact ⟨[], fun b hb => (by cases hb), rfl, rfl, by simp [RelWs]⟩
      | cons q r ih =>
        intro ks h
        simp only [RelKs] at h
        obtain ⟨k, v, t, rfl, h1, h2, h3⟩ := h
        obtain ⟨bs, b1, b2, b3, b4⟩ := ih h3
        refine ⟨(q.1, kV k, v) :: bs, fun b hb => ?_, by simp [b2], by simp [b3], ?_⟩
        · rcases List.mem_cons.mp hb with rfl | hb
          · have : ∀ {x : Mi.P} {k : Key}, keyK x = some k → RelP g.K H x (kV k) := fun {x k} e => by
              cases x <;> simp only [keyK, Option.some.injEq, reduceCtorEq] at e <;> subst e <;> simp [RelP, kV]
            exact this h1
          · exact b1 b hb
        · simp only [List.map_cons, RelWs]
          exact ⟨v, _, rfl, h2, b4⟩
    obtain ⟨bs, b1, b2, b3, b4⟩ := key h2
    exact ⟨bs, rfl, ⟨b1, .inl ⟨ks, h1, b2⟩⟩, b3, b4⟩
  · have key : ∀ {kvs : List (Mi.P × Mi.W)} {es : List (NestedKey × Addr × V)}, RelTs g.K ρ H kvs es → ∃ bs : List (Mi.P × V × V), (∀ b ∈ bs, RelP g.K H b.1 b.2.1) ∧ bs.map (·.2) = es.map (fun e => (.ref e.2.1, e.2.2)) ∧ bs.map (·.1) = kvs.map (·.1) ∧ RelWs g.K ρ H (kvs.map (·.2)) (bs.map fun b => b.2.2) := by
      intro kvs
      induction kvs with
      | nil => intro es h; simp only [RelTs] at h; subst h; exact ⟨[], fun b hb => (by cases hb), rfl, rfl, by simp [RelWs]⟩
      | cons q r ih =>
        intro es h
        simp only [RelTs] at h
        obtain ⟨k, b, v, t, rfl, h1, h2, h3, h4⟩ := h
        obtain ⟨bs, b1, b2, b3, b4⟩ := ih h4
        refine ⟨(q.1, .ref b, v) :: bs, fun c hc => ?_, by simp [b2], by simp [b3], ?_⟩
        · rcases List.mem_cons.mp hc with rfl | hc
          · exact h2
          · exact b1 c hc
        · simp only [List.map_cons, RelWs]
          exact ⟨v, _, rfl, h3, b4⟩
    obtain ⟨bs, b1, b2, b3, b4⟩ := key h2
    exact ⟨bs, rfl, ⟨b1, .inr ⟨es, h1, relTs_keyed h2, b2⟩⟩, b3, b4⟩
theorem os_sortedA : OpB g (fun xs H Q => ((∃ (a : Addr) (us : List V), xs = [V.ref a] ∧ SqL g.K H a us ∧ sizeLine < us.length) ∨ rSortD g.K xs H Q) ∨ rSortK g xs H Q) sortedF := by
  intro W σ ρ M H ws vs Q s r q
  match ws, r, q with
  | [], r, q => exact q.elim
  | _ :: _ :: _, r, q => exact q.elim
  | [w], r, q =>
    cases hp : pureLst M w with
    | some xs =>
      refine .inl (os_sorted W σ ρ M H [w] vs Q s r ?_)
      simp only [sortedF, hp] at q
      simp only [sortedLF, hp]
      exact q
    | none =>
      simp only [sortedF, hp] at q
      cases hk : (keysOf M w).bind sortKeysV with
      | none => rw [hk] at q; exact q.elim
      | some ys =>
        rw [hk] at q
        rw [Option.bind_eq_some_iff] at hk
        obtain ⟨ks, e1, e2⟩ := hk
        obtain ⟨v, rfl, r1⟩ := ws1 r
        unfold keysOf at e1
        split at e1
        · rename_i k
          split at e1
          · rename_i kvs em
            cases e1
            obtain ⟨p, bs, rfl, h1, h2, _⟩ := dic_keysV s r1 em
            exact .inr ⟨p, bs, ys, rfl, h1, by rw [h2]; exact e2, fun p us hp hr => post_newL s q hp ((relPs_of _ _).mpr hr)⟩
          · cases e1
        · cases e1
end
end Mi

namespace Mi
open PySem PySem.Spec PyProof.Rows L2
section
open PySem.W
variable {prog : Program} {w : World} {A : Around} {E : Value → Shared → Prop} {s : Shared}
theorem call_min_twoH {a b : Value} {Q : Value → Shared → Prop}
    (h : wpAny (model prog w) A.in1 (pyIter (.ref s.heap.objs.size)) (fun it s₂ => ∃ I fp wr G n P St H bt, it = .ref I ∧ WalksS prog w A.in1 I fp wr G n P St ∧ St 0 s₂ ∧ (∀ b ∈ fp, b < s₂.heap.objs.size) ∧ 0 < n ∧
      (∀ b o, H.get? b = some o → b ∉ wr) ∧ (∀ b o, H.get? b = some o → s₂.heap.get? b = some o) ∧ CmpIn prog w A.in1 .Lt H P bt ∧ ∀ v s', P (argBest bt (n - 1)) v → Moved wr G s₂ s' → Q v s') E
      { s with heap := s.heap.push { cls := .type "tuple", data := .seq #[a, b] } }) :
    wpAny (model prog w) A (call (.builtin "min") [a, b]) Q E s := by
  have hname : (toString "min" ++ toString ".loop" : String) = "min.loop" := by decide
  refine call_function_tree F.kind_min F.plain_min F.entry_min (F.args_min2 _ _) ?_
  show wpAny _ A.in1 (Builtin.Builtins.bindParams "min" ["key", "default"] 0 ⟨[], []⟩ >>= _) _ _ s
  refine wpAny_bind (wpAny_of_eq (show Builtin.Builtins.bindParams "min" ["key", "default"] 0 ⟨[], []⟩ = pure [none, none] from rfl) ?_)
  show wpAny _ A.in1 (newTuple [a, b] >>= _) _ _ s
  refine wpAny_bind (wpAny_newObj_type ?_)
  refine wpAny_bind (wpAny_mono h (fun it s₂ h₂ => ?_) fun _ _ e => e)
  obtain ⟨I, fp, wr, G, n, P, St, H, bt, rfl, W, hst, hfp, hn, hw, hkeep, hcmp, hQ⟩ := h₂
  refine wpAny_bind (wpAny_newObj_type ?_)
  have hSf : s₂.heap.objs.size ∉ fp := fun hm => Nat.lt_irrefl _ (hfp _ hm)
  rw [hname]
  refine wpAny_pure ⟨plainId_quiet F.plain_min_loop _, codeAny_min_loop_firstH W H hw bt hcmp s₂.heap.objs.size hSf (fresh_in hkeep) _ hn (fun b o e => Heap.get?_push_of_some _ (hkeep b o e)) (W.frame 0 s₂ _ s₂.toks hst (Nat.le_refl _) fun b _ o e => Heap.get?_push_of_some _ e) (Heap.get?_push_size _ rfl) fun v s' hP hm => ?_⟩
  exact hQ v s' hP (Moved.drop_new (tk := s₂.toks) hm (Nat.le_refl _))
theorem call_max_twoH {a b : Value} {Q : Value → Shared → Prop}
    (h : wpAny (model prog w) A.in1 (pyIter (.ref s.heap.objs.size)) (fun it s₂ => ∃ I fp wr G n P St H bt, it = .ref I ∧ WalksS prog w A.in1 I fp wr G n P St ∧ St 0 s₂ ∧ (∀ b ∈ fp, b < s₂.heap.objs.size) ∧ 0 < n ∧
      (∀ b o, H.get? b = some o → b ∉ wr) ∧ (∀ b o, H.get? b = some o → s₂.heap.get? b = some o) ∧ CmpIn prog w A.in1 .Gt H P bt ∧ ∀ v s', P (argBest bt (n - 1)) v → Moved wr G s₂ s' → Q v s') E
      { s with heap := s.heap.push { cls := .type "tuple", data := .seq #[a, b] } }) :
    wpAny (model prog w) A (call (.builtin "max") [a, b]) Q E s := by
  have hname : (toString "max" ++ toString ".loop" : String) = "max.loop" := by decide
  refine call_function_tree F.kind_max F.plain_max F.entry_max (F.args_max2 _ _) ?_
  show wpAny _ A.in1 (Builtin.Builtins.bindParams "max" ["key", "default"] 0 ⟨[], []⟩ >>= _) _ _ s
  refine wpAny_bind (wpAny_of_eq (show Builtin.Builtins.bindParams "max" ["key", "default"] 0 ⟨[], []⟩ = pure [none, none] from rfl) ?_)
  show wpAny _ A.in1 (newTuple [a, b] >>= _) _ _ s
  refine wpAny_bind (wpAny_newObj_type ?_)
  refine wpAny_bind (wpAny_mono h (fun it s₂ h₂ => ?_) fun _ _ e => e)
  obtain ⟨I, fp, wr, G, n, P, St, H, bt, rfl, W, hst, hfp, hn, hw, hkeep, hcmp, hQ⟩ := h₂
  refine wpAny_bind (wpAny_newObj_type ?_)
  have hSf : s₂.heap.objs.size ∉ fp := fun hm => Nat.lt_irrefl _ (hfp _ hm)
  rw [hname]
  refine wpAny_pure ⟨plainId_quiet F.plain_max_loop _, codeAny_max_loop_firstH W H hw bt hcmp s₂.heap.objs.size hSf (fresh_in hkeep) _ hn (fun b o e => Heap.get?_push_of_some _ (hkeep b o e)) (W.frame 0 s₂ _ s₂.toks hst (Nat.le_refl _) fun b _ o e => Heap.get?_push_of_some _ e) (Heap.get?_push_size _ rfl) fun v s' hP hm => ?_⟩
  exact hQ v s' hP (Moved.drop_new (tk := s₂.toks) hm (Nat.le_refl _))
theorem min_two_data {a b : Value} {x y : PyData} {as : List Addr} {Q : Value → Shared → Prop} (hh : A.handled = none) (hr : ReadsAll s.heap [a, b] [x, y] as) (ha : AlikeAll [x, y]) (hu : A.units + 1 + PyData.depthAll [x, y] < cLine)
    (h : ∀ (i : Nat) v h' tk bs, #[a, b][i]? = some v → Reads h' v (minD x [y]) bs → (∀ b o, s.heap.get? b = some o → h'.get? b = some o) → Q v { s with heap := h', toks := tk }) :
    wpAny (model prog w) A (call (.builtin "min") [a, b]) Q E s := by
  have kp : ∀ c o, s.heap.get? c = some o → (s.heap.push { cls := .type "tuple", data := .seq #[a, b] }).get? c = some o := fun c o e => Heap.get?_push_of_some _ e
  have hl : (s.heap.push { cls := .type "tuple", data := .seq #[a, b] }).IsTuple s.heap.objs.size #[a, b] := ⟨_, Heap.get?_push_size _ rfl, rfl, 0, rfl⟩
  have hr' : ReadsAll (s.heap.push { cls := .type "tuple", data := .seq #[a, b] }) (#[a, b] : Array Value).toList [x, y] as := ReadsAll.keeps kp hr
  refine call_min_twoH (iter_tupleW (s := { s with heap := s.heap.push { cls := .type "tuple", data := .seq #[a, b] } }) (A := A.in1) hh hl fun s₂ e W st hfp hw hk => ?_)
  refine ⟨_, _, _, _, _, _, _, s.heap.push { cls := .type "tuple", data := .seq #[a, b] }, _, rfl, W, st, hfp, Nat.zero_lt_succ 1, hw, hk, cmpIn_lt (s := { s with heap := s.heap.push { cls := .type "tuple", data := .seq #[a, b] } }) (A := A.in1) hr' ha (by show A.units + 1 + _ < _; exact hu), fun v s' hP m => ?_⟩
  obtain ⟨h', tk, rfl, hk'⟩ := moved_old e rfl m
  obtain ⟨bs, r, _, _, _⟩ := readsAll_atA hr' _ v hP
  have e2 := (argBest_fold dataLt PyData.none x [y] 1 (Nat.le_refl _)).2
  have e3 : (#[a, b] : Array Value).size - 1 = 1 := rfl
  rw [e3] at r
  exact h _ v h' tk bs hP (reads_keeps hk' (by unfold minD; rw [show List.foldl _ x [y] = List.foldl (fun a b => if dataLt b a = true then b else a) x (List.take 1 [y]) from rfl, ← e2]; exact r)) fun c o e => hk' c o (kp c o e)
theorem max_two_data {a b : Value} {x y : PyData} {as : List Addr} {Q : Value → Shared → Prop} (hh : A.handled = none) (hr : ReadsAll s.heap [a, b] [x, y] as) (ha : AlikeAll [x, y]) (hu : A.units + 1 + PyData.depthAll [x, y] < cLine)
    (h : ∀ (i : Nat) v h' tk bs, #[a, b][i]? = some v → Reads h' v (maxD x [y]) bs → (∀ b o, s.heap.get? b = some o → h'.get? b = some o) → Q v { s with heap := h', toks := tk }) :
    wpAny (model prog w) A (call (.builtin "max") [a, b]) Q E s := by
  have kp : ∀ c o, s.heap.get? c = some o → (s.heap.push { cls := .type "tuple", data := .seq #[a, b] }).get? c = some o := fun c o e => Heap.get?_push_of_some _ e
  have hl : (s.heap.push { cls := .type "tuple", data := .seq #[a, b] }).IsTuple s.heap.objs.size #[a, b] := ⟨_, Heap.get?_push_size _ rfl, rfl, 0, rfl⟩
  have hr' : ReadsAll (s.heap.push { cls := .type "tuple", data := .seq #[a, b] }) (#[a, b] : Array Value).toList [x, y] as := ReadsAll.keeps kp hr
  refine call_max_twoH (iter_tupleW (s := { s with heap := s.heap.push { cls := .type "tuple", data := .seq #[a, b] } }) (A := A.in1) hh hl fun s₂ e W st hfp hw hk => ?_)
  refine ⟨_, _, _, _, _, _, _, s.heap.push { cls := .type "tuple", data := .seq #[a, b] }, _, rfl, W, st, hfp, Nat.zero_lt_succ 1, hw, hk, cmpIn_gt (s := { s with heap := s.heap.push { cls := .type "tuple", data := .seq #[a, b] } }) (A := A.in1) hr' ha (by show A.units + 1 + _ < _; exact hu), fun v s' hP m => ?_⟩
  obtain ⟨h', tk, rfl, hk'⟩ := moved_old e rfl m
  obtain ⟨bs, r, _, _, _⟩ := readsAll_atA hr' _ v hP
  have e2 := (argBest_fold (fun x y => dataLt y x) PyData.none x [y] 1 (Nat.le_refl _)).2
  have e3 : (#[a, b] : Array Value).size - 1 = 1 := rfl
  rw [e3] at r
  exact h _ v h' tk bs hP (reads_keeps hk' (by unfold maxD; rw [show List.foldl _ x [y] = List.foldl (fun a b => if dataLt a b = true then b else a) x (List.take 1 [y]) from rfl, ← e2]; exact r)) fun c o e => hk' c o (kp c o e)
end
section
variable {X : Cx} {g : G} {W : WX}
def rBest2 (K : PySem.W.Frag) (best : Mi.P → List Mi.P → Mi.P) : List V → Hp → VK → Prop := fun vs H Q => ∃ (u v : V) (x y : Mi.P), vs = [u, v] ∧ RelP K H x u ∧ RelP K H y v ∧ allAlike [x, y] = true ∧ depthOk [x, y] = true ∧ ∀ u, RelP K H (best x [y]) u → Q u H
theorem cr_min2D (hc : X.calm = true) (hu : X.A.units + 200 < cLine) : CallR X (.builtin "min") (rBest2 X.K minP) := by
  intro pins s σ H vs us Q I r ⟨u, v, x, y, h1, h2, h3, h4, h5, q⟩
  subst h1
  obtain ⟨a, b, rfl, ra, rb⟩ := vals2 r
  have hd := depthAll_le h5
  have rps : RelPs X.K H [x, y] [u, v] := by simp only [RelPs]; exact ⟨u, [v], rfl, h2, v, [], rfl, h3, rfl⟩
  obtain ⟨as, rr⟩ := Dp.readsAll I _ _ _ (dp_Ps _ _ rps) r
  refine min_two_data (x := x.toD) (y := y.toD) (I.ok.hd hc) rr (alikeAll_of h4) (by have : PyData.depthAll [x.toD, y.toD] ≤ 100 := hd; omega) fun i w h' tk bs hv rd hk => ?_
  exact best_fin (its := [a, b]) I r rps q hv (by rw [minP_D]; exact rd) hk
theorem cr_max2D (hc : X.calm = true) (hu : X.A.units + 200 < cLine) : CallR X (.builtin "max") (rBest2 X.K maxP) := by
  intro pins s σ H vs us Q I r ⟨u, v, x, y, h1, h2, h3, h4, h5, q⟩
  subst h1
  obtain ⟨a, b, rfl, ra, rb⟩ := vals2 r
  have hd := depthAll_le h5
  have rps : RelPs X.K H [x, y] [u, v] := by simp only [RelPs]; exact ⟨u, [v], rfl, h2, v, [], rfl, h3, rfl⟩
  obtain ⟨as, rr⟩ := Dp.readsAll I _ _ _ (dp_Ps _ _ rps) r
  refine max_two_data (x := x.toD) (y := y.toD) (I.ok.hd hc) rr (alikeAll_of h4) (by have : PyData.depthAll [x.toD, y.toD] ≤ 100 := hd; omega) fun i w h' tk bs hv rd hk => ?_
  exact best_fin (its := [a, b]) I r rps q hv (by rw [maxP_D]; exact rd) hk
theorem minLF_one (w : Mi.W) (M : Hm) : minLF [w] M = match pureSeq M w with
    | some (x :: xs) => if allAlike (x :: xs) && depthOk (x :: xs) then okV (minP x xs) M else .bad
    | _ => .bad := by
  cases w with
  | p x => cases x <;> rfl
  | _ => rfl
theorem os_minA : OpB g (fun xs H Q => ((∃ i j, xs = [.int i, .int j] ∧ Q (.int (if j < i then j else i)) H) ∨ rBest g.K minP xs H Q) ∨ rBest2 g.K minP xs H Q) minF := by
  intro W σ ρ M H ws vs Q s r q
  unfold minF at q
  split at q
  · exact .inl (os_min W σ ρ M H _ vs Q s r q)
  · split at q
    · rename_i x y _ hc
      rw [Bool.and_eq_true] at hc
      obtain ⟨v, v', rfl, r1, r2⟩ := ws2 r
      simp only [RelW] at r1 r2
      exact .inr ⟨v, v', _, _, rfl, r1, r2, hc.1, hc.2, fun u hu => post_p s q hu⟩
    · exact q.elim
  · exact .inl (os_min W σ ρ M H _ vs Q s r (by rw [minLF_one]; exact q))
  · exact q.elim
theorem maxLF_one (w : Mi.W) (M : Hm) : maxLF [w] M = match pureSeq M w with
    | some (x :: xs) => if allAlike (x :: xs) && depthOk (x :: xs) then okV (maxP x xs) M else .bad
    | _ => .bad := by
  cases w with
  | p x => cases x <;> rfl
  | _ => rfl
theorem os_maxA : OpB g (fun xs H Q => ((∃ i j, xs = [.int i, .int j] ∧ Q (.int (if j > i then j else i)) H) ∨ rBest g.K maxP xs H Q) ∨ rBest2 g.K maxP xs H Q) maxF := by
  intro W σ ρ M H ws vs Q s r q
  unfold maxF at q
  split at q
  · exact .inl (os_max W σ ρ M H _ vs Q s r q)
  · split at q
    · rename_i x y _ hc
      rw [Bool.and_eq_true] at hc
      obtain ⟨v, v', rfl, r1, r2⟩ := ws2 r
      simp only [RelW] at r1 r2
      exact .inr ⟨v, v', _, _, rfl, r1, r2, hc.1, hc.2, fun u hu => post_p s q hu⟩
    · exact q.elim
  · exact .inl (os_max W σ ρ M H _ vs Q s r (by rw [maxLF_one]; exact q))
  · exact q.elim
end
end Mi

namespace Mi
open PySem PySem.Spec PyProof.Rows L2

def noStar : Expr → Bool
  | .Starred .. => false
  | _ => true
def noComp : Expr → Bool
  | .ListComp .. => false
  | .SetComp .. => false
  | .DictComp .. => false
  | _ => true
def noSet : Expr → Bool
  | .Set .. => false
  | _ => true
def plainIx : Expr → Bool
  | .Slice .. => false
  | _ => true
def isTup : Expr → Bool
  | .Tuple .. => true
  | .List .. => true
  | _ => false
theorem star_cons {e : Expr} (h : noStar e = true) (es : List Expr) (env : Env) : starEach (e :: es) env = (false, eval e env) :: starEach es env := by
  cases e <;> first | rfl | cases h
theorem star_any : ∀ {es : List Expr}, es.all noStar = true → ∀ (env : Env) (pos : Pos), (backTo pos (starEach es env)).any (·.1) = false
  | [], _, _, _ => rfl
  | e :: es, h, env, pos => by
    rw [List.all_cons, Bool.and_eq_true] at h
    rw [star_cons h.1]
    exact star_any h.2 env pos
theorem asg_cons {e : Expr} (h : noStar e = true) (es : List Expr) (env : Env) : assignEach (e :: es) env = (false, assign e env) :: assignEach es env := by
  cases e <;> first | rfl | cases h
theorem asg_len : ∀ {es : List Expr}, es.all noStar = true → ∀ env : Env, (assignEach es env).length = es.length
  | [], _, _ => rfl
  | e :: es, h, env => by
    rw [List.all_cons, Bool.and_eq_true] at h
    rw [asg_cons h.1, List.length_cons, asg_len h.2, List.length_cons]
theorem asg_idx : ∀ {es : List Expr}, es.all noStar = true → ∀ env : Env, (assignEach es env).findIdx? (·.1) = none
  | [], _, _ => rfl
  | e :: es, h, env => by
    rw [List.all_cons, Bool.and_eq_true] at h
    rw [asg_cons h.1, List.findIdx?_cons]
    simp [asg_idx h.2]
theorem swap_no {e : Expr} (h : noComp e = true) (t : Option Expr) (l : Nat) (env : Env) : swapsWith e t l env = pure false := by
  cases e <;> first | rfl | cases h
theorem set_no {e : Expr} (h : noSet e = true) (env : Env) : ∀ x, foldedSetIterable e env x = pure x := by
  intro x
  cases e <;> first | rfl | cases h
theorem marks_no {e : Expr} (h : noSet e = true) (op : CmpOp) : behindInMarks op e = false := by
  cases e <;> first | rfl | cases h
theorem plain_ok {e : Expr} (h : plainIx e = true) : PlainIx e := by
  intro o i
  cases e <;> first | rfl | cases h
theorem swst_no {tg e : Expr} (h : (isTup tg && isTup e) = false) (env : Env) : swappedStores [tg] e env = pure none := by
  cases tg <;> cases e <;> first | rfl | cases h

structure Tb where
  blt : List Str
  cst : List (Str × P)
  fns : List Str
structure Sc where
  N : List Str
  sc : List (Str × NameKind)
  top : Bool
def Sc.gl (c : Sc) (x : Str) : Bool := c.sc.lookup x == some .globalImplicit
def Sc.vis (c : Sc) (x : Str) : Bool := c.sc.lookup x == some .local || c.sc.lookup x == some .cell || c.sc.lookup x == some .free
def Sc.sto (c : Sc) (x : Str) : Bool := c.sc.lookup x == some .local || (c.top && c.sc.lookup x == some .cell)
def dbg : Str := Str.ofString "__debug__"
def cld : Str := Str.ofString "__classdict__"
def nmn : Str := Str.ofString "__name__"
def okNm (x : Str) : Bool := !(x == dbg) && !(x == cld)
structure Ok (X : Cx) (g : G) (W : WX) (cl : Nat → List Mi.W → Hm → R Mi.W) (t : Tb) (c : Sc) : Prop where
  gx : GX g X
  N : X.N = c.N
  nd : X.N.Nodup
  sc : X.env.scope.names = c.sc
  calm : X.calm = true
  un : X.A.units + 200 < cLine
  fn : c.top = true → ∀ x, X.fn x = true
  bk : X.env.scope.kind = .function
  pass : PassesOwn (model X.prog X.w) X.A X.env X.xe
  tk : Takes X W
  bl : ∀ x ∈ t.blt, X.mg x = none
  cs : ∀ x k, (x, k) ∈ t.cst → ∃ u v, X.mg x = some u ∧ L2.RelV v u ∧ ∀ H, RelP g.K H k v
  fs : ∀ f x, t.fns[f]? = some x → (x == Str.empty) = false → CallOk X g (cl f) x
section
variable {X : Cx} {g : G} {W : WX} {cl : Nat → List Mi.W → Hm → R Mi.W} {t : Tb} {c : Sc} (o : Ok X g W cl t c)
include o
theorem Ok.isGl {x : Str} (h : c.gl x = true) : Gl X x := by
  unfold Sc.gl at h
  rw [beq_iff_eq] at h
  show X.env.scope.names.lookup x = _
  rw [o.sc, h]
theorem Ok.isVis {x : Str} (h : c.vis x = true) : Vis X.env.scope x := by
  unfold Sc.vis at h
  simp only [Bool.or_eq_true, beq_iff_eq] at h
  unfold Vis
  rw [o.sc]
  rcases h with (h | h) | h
  · exact .inl h
  · exact .inr (.inl h)
  · exact .inr (.inr h)
theorem Ok.isSto {x : Str} (h : c.sto x = true) : L2.Loc X.env.scope x ∧ (X.fn x = true ∨ X.env.scope.names.lookup x = some .local) := by
  unfold Sc.sto at h
  simp only [Bool.or_eq_true, Bool.and_eq_true, beq_iff_eq] at h
  unfold L2.Loc
  rw [o.sc]
  rcases h with h | ⟨h1, h⟩
  · exact ⟨.inl h, .inr h⟩
  · exact ⟨.inr h, .inl (o.fn h1 x)⟩
theorem Ok.isN {i : Nat} {x : Str} (h : (c.N[i]? == some x) = true) : X.N[i]? = some x := by
  rw [beq_iff_eq] at h
  rw [o.N, h]
omit o in
theorem okNm1 {x : Str} (h : okNm x = true) : (x == ("__debug__" : Str)) = false := by
  unfold okNm at h
  simp only [Bool.and_eq_true, Bool.not_eq_true'] at h
  exact h.1
omit o in
theorem okNm2 {x : Str} (h : okNm x = true) : (x == ("__classdict__" : Str)) = false := by
  unfold okNm at h
  simp only [Bool.and_eq_true, Bool.not_eq_true'] at h
  exact h.2
end

def opK : Op → Operator
  | .add => .Add
  | .sub => .Sub
  | .mul => .Mult
  | .fdiv => .FloorDiv
  | .mod => .Mod
  | .pow => .Pow
  | .bor => .BitOr
def ckC : P → Const → Bool
  | .int i, .int j => decide (i = j)
  | .str x, .str y => x == y
  | .bl a, .bool b => a == b
  | .non, .none => true
  | _, _ => false
def ckTys (t : Tb) (c : Sc) : List Ty → List Expr → Bool
  | [], [] => true
  | y :: ys, .Name x _ :: es => y.nm.isSome && x == tyStr y && c.gl x && t.blt.contains x && ckTys t c ys es
  | _, _ => false
def B.nm : B → Str
  | .len => Str.ofString "len"
  | .abs => Str.ofString "abs"
  | .min => Str.ofString "min"
  | .max => Str.ofString "max"
  | .sum => Str.ofString "sum"
  | .all => Str.ofString "all"
  | .sorted => Str.ofString "sorted"
  | .int => Str.ofString "int"
  | .str => Str.ofString "str"
  | .list => Str.ofString "list"
  | .tuple => Str.ofString "tuple"
  | .set => Str.ofString "set"
  | .dict => Str.ofString "dict"
  | .minBy => Str.empty
  | .minD _ => Str.empty
def B.done : B → Bool
  | .len => true
  | .abs => true
  | .min => true
  | .max => true
  | .sorted => true
  | .sum => true
  | .all => true
  | .int => true
  | .str => true
  | .list => true
  | .tuple => true
  | _ => false
def setStr : Str := Str.ofString "set"
def lenStr : Str := Str.ofString "len"
def sortedStr : Str := Str.ofString "sorted"
def zipStr : Str := Str.ofString "zip"
def enuStr : Str := Str.ofString "enumerate"
def revStr : Str := Str.ofString "reversed"
def isiStr : Str := Str.ofString "isinstance"
def rngStr : Str := Str.ofString "range"
mutual
def ckP (c : Sc) : Pt → Expr → Bool
  | .name i, .Name x _ => c.N[i]? == some x && c.sto x
  | .tup ps, .Tuple xs _ _ => ckPs c ps xs
  | _, _ => false
def ckPs (c : Sc) : List Pt → List Expr → Bool
  | [], [] => true
  | p :: ps, x :: xs => noStar x && ckP c p x && ckPs c ps xs
  | _, _ => false
end
def Sc.blk (c : Sc) (scope : Scope) : Sc := ⟨c.N, scope.names.map fun (n, k) => if (k == NameKind.free && c.sc.lookup n == some .cell) then (n, .cell) else (n, k), false⟩
def Sc.own (c : Sc) (own : List Nat) : List (Str × Nat) := own.map fun i => ((c.N[i]?).getD Str.empty, i)
def Sc.scope (c : Sc) : Scope := { kind := .function, names := c.sc, isGenerator := false, isCoroutine := false }
def Mt.nm : Mt → Str
  | .append => Str.ofString "append"
  | .pop => Str.ofString "pop"
  | .get => Str.ofString "get"
  | .join => Str.ofString "join"
  | .split => Str.ofString "split"
  | .index => Str.ofString "index"
  | .setdefault => Str.ofString "setdefault"
  | .update => Str.ofString "update"
  | .clear => Str.ofString "clear"
  | .partition => Str.ofString "partition"
  | .count => Str.ofString "count"
  | .extend => Str.ofString "extend"
  | .upper => Str.ofString "upper"
  | .insert => Str.ofString "insert"
  | .items => Str.ofString "items"
  | .values => Str.ofString "values"
def Mt.ars : Mt → List Nat
  | .append => [1]
  | .extend => [1]
  | .join => [1]
  | .pop => [0]
  | .clear => [0]
  | .upper => [0]
  | .get => [1, 2]
  | .setdefault => [2]
  | _ => []
def noSuper : Expr → Bool
  | .Call (.Name _ _) [] [] _ => false
  | _ => true
theorem base_ok {e : Expr} (h : noSuper e = true) (a : Str) (env : Env) (w : Sem Value) : attributeBase e a env w = w := by
  cases e with
  | Call f xs ks p =>
    cases f with
    | Name x p2 =>
      cases xs with
      | nil =>
        cases ks with
        | nil => exact Bool.noConfusion h
        | cons _ _ => rfl
      | cons _ _ => rfl
    | _ => rfl
  | _ => rfl
def asRev : Expr → Option Expr
  | .Subscript x (.Slice none none (some (.UnaryOp .USub (.Constant (.int 1) _ _) _)) _) _ => some x
  | _ => none
def asSet : Expr → Option (Str × Str × Expr)
  | .Call (.Name x _) [.Call (.Name y _) [z] [] _] [] _ => some (x, y, z)
  | _ => none
def asCall : Expr → Option (Str × List Expr)
  | .Call (.Name x _) xs [] _ => some (x, xs)
  | _ => none
theorem asRev_some {x y : Expr} (h : asRev x = some y) : ∃ k2 p1 p2 p3 pos, x = .Subscript y (.Slice none none (some (.UnaryOp .USub (.Constant (.int 1) k2 p1) p2)) p3) pos := by
  unfold asRev at h
  split at h
  · cases h; exact ⟨_, _, _, _, _, rfl⟩
  · cases h
theorem asSet_some {e : Expr} {x y : Str} {z : Expr} (h : asSet e = some (x, y, z)) : ∃ p1 p2 p3 p4, e = .Call (.Name x p1) [.Call (.Name y p2) [z] [] p3] [] p4 := by
  unfold asSet at h
  split at h
  · cases h; exact ⟨_, _, _, _, rfl⟩
  · cases h
theorem asCall_some {e : Expr} {x : Str} {xs : List Expr} (h : asCall e = some (x, xs)) : ∃ p1 p2, e = .Call (.Name x p1) xs [] p2 := by
  unfold asCall at h
  split at h
  · cases h; exact ⟨_, _, rfl⟩
  · cases h
def isTupT : Expr → Bool
  | .Tuple .. => true
  | _ => false
theorem isTupT_some {e : Expr} (h : isTupT e = true) : ∃ xs k p, e = .Tuple xs k p := by
  cases e <;> first
    | exact ⟨_, _, _, rfl⟩
    | exact Bool.noConfusion h
mutual
def ckE (t : Tb) : E → Sc → Expr → Bool
  | .var i, c, .Name x _ => c.N[i]? == some x && c.vis x && okNm x
  | .cst k, c, .Constant k' _ _ => ckC k k'
  | .glb y k, c, .Name x _ => x == y && t.cst.contains (y, k) && c.gl x && okNm x
  | .tup es, c, .Tuple xs _ _ => cks t es c xs
  | .lst es, c, .List xs _ => cks t es c xs
  | .dct es, c, .Dict ks vs _ => decide (ks.length ≤ 15) && ckD t es c ks vs
  | .bin o a b, c, .BinOp x op y _ => opK o == op && !(op == .BitOr) && ckE t a c x && ckE t b c y
  | .neg a, c, .UnaryOp .USub x _ => ckE t a c x
  | .cmp o a b, c, .Compare x [o'] [y] _ => o == o' && noSet y && ckE t a c x && ckE t b c y
  | .chn o o2 a b d, c, .Compare x [o', o2'] [y, z] _ => o == o' && o2 == o2' && noSet z && ckE t a c x && ckE t b c y && ckE t d c z
  | .and a b, c, .BoolOp .And (x :: vs) p => ckE t a c x && (match vs with
    | [y] => ckE t b c y
    | vs => ckE t b c (.BoolOp .And vs p))
  | .or a b, c, .BoolOp .Or (x :: vs) p => ckE t a c x && (match vs with
    | [y] => ckE t b c y
    | vs => ckE t b c (.BoolOp .Or vs p))
  | .not a, c, .UnaryOp .Not x _ => ckE t a c x
  | .idx a b, c, .Subscript x y _ => plainIx y && ckE t a c x && ckE t b c y
  | .slc a lo hi, c, .Subscript x (.Slice l h none _) _ => ckE t a c x && ckO t lo c l && ckO t hi c h
  | .rvs a, c, x => match asRev x with
    | some y => ckE t a c y
    | none => false
  | .srs a, c, x => match asSet x with
    | some (f, y, z) => f == sortedStr && y == setStr && c.gl f && c.gl y && t.blt.contains f && t.blt.contains y && noStar z && ckE t a c z
    | none => false
  | .lns a, c, x => match asSet x with
    | some (f, y, z) => f == lenStr && y == setStr && c.gl f && c.gl y && t.blt.contains f && t.blt.contains y && noStar z && ckE t a c z
    | none => false
  | .call f es, c, .Call (.Name x _) xs [] _ => t.fns[f]? == some x && !(x == Str.empty) && c.gl x && okNm x && cks t es c xs
  | .blt b es, c, .Call (.Name x _) xs [] _ => b.done && x == b.nm && c.gl x && t.blt.contains x && !xs.isEmpty && cks t es c xs
  | .mth m a es, c, .Call (.Attribute x nm ap) xs [] cp => nm == m.nm && m.ars.contains xs.length && noSuper x && ap.endLine == cp.line && ckE t a c x && cks t es c xs
  | .isi a ts, c, .Call (.Name x _) [y, T] [] _ => x == isiStr && c.gl x && t.blt.contains x && noStar y && ckE t a c y && (match T with
    | .Tuple es _ _ => !ts.isEmpty && decide (ts.length ≤ 1000) && ckTys t c ts es
    | e => ts.length == 1 && ckTys t c ts [e])
  | .lc own p k src cs e, c, .ListComp x [⟨tg, it, ifs, 0⟩] scope _ => noSet it && blkC c.N c.scope scope (c.own own) && ckP (c.blk scope) p tg && ((ptN p).all fun i => own.contains i) && ckI t k src c tg it && decide (ifs.length ≤ 1) && cks t cs (c.blk scope) ifs && ckE t e (c.blk scope) x
  | _, _, _ => false
def cks (t : Tb) : List E → Sc → List Expr → Bool
  | [], _, [] => true
  | e :: es, c, x :: xs => noStar x && ckE t e c x && cks t es c xs
  | _, _, _ => false
def ckO (t : Tb) : List E → Sc → Option Expr → Bool
  | [], _, none => true
  | [e], c, some x => ckE t e c x
  | _, _, _ => false
def ckD (t : Tb) : List E → Sc → List (Option Expr) → List Expr → Bool
  | [], _, [], [] => true
  | k :: v :: es, c, some x :: ks, y :: vs => ckE t k c x && ckE t v c y && ckD t es c ks vs
  | _, _, _, _ => false
def ckI (t : Tb) (k : Ik) : List E → Sc → Expr → Expr → Bool
  | [], _, _, _ => false
  | e :: es, c, tg, x => match k with
    | .val => es.isEmpty && ckE t e c x
    | .rng => match x with
      | .Call (.Name x _) (y :: ys) [] _ => x == rngStr && c.gl x && t.blt.contains x && decide (ys.length ≤ 1) && noStar y && ckE t e c y && cks t es c ys
      | _ => false
    | .zip => match asCall x with
      | some (f, y :: ys) => isTupT tg && f == zipStr && c.gl f && t.blt.contains f && ys.length == 1 && noStar y && ckE t e c y && cks t es c ys
      | _ => false
    | .enu => match asCall x with
      | some (f, [y]) => isTupT tg && f == enuStr && c.gl f && t.blt.contains f && noStar y && es.isEmpty && ckE t e c y
      | _ => false
    | .rev => match asCall x with
      | some (f, [y]) => f == revStr && c.gl f && t.blt.contains f && noStar y && es.isEmpty && ckE t e c y
      | _ => false
end

section
variable {X : Cx} {g : G} {W : WX} {Q : Pg} {cl : Nat → List Mi.W → Hm → R Mi.W} {t : Tb} {c : Sc} (o : Ok X g W cl t c)
include o
theorem bin_ok {op : Op} {a b : Expr} {fa fb : En → Hm → R Mi.W} {pos : Pos} (hb : ¬ op = .bor) (h1 : PE X a (tE g W fa)) (h2 : PE X b (tE g W fb)) : PE X (.BinOp a (opK op) b pos) (tE g W fun env M => (fa env M).bnd fun x M1 => (fb env M1).bnd fun y M2 => opV op x y M2) := by
  have hK := o.gx.K
  cases op with
  | add => exact sd_bin (OpR.or op_add (OpR.or op_add_str (OpR.or op_cat (by rw [hK]; exact op_catA)))) os_add h1 h2
  | sub => exact sd_bin op_sub os_sub h1 h2
  | mul => exact sd_bin (OpR.or op_mul op_rep) os_mul h1 h2
  | fdiv => exact sd_bin op_fdiv os_fdiv h1 h2
  | mod => exact sd_bin op_mod os_mod h1 h2
  | pow => exact sd_bin op_pow os_pow h1 h2
  | bor => exact absurd rfl hb
theorem cmp_ok (op : CmpOp) : ∃ r, OpR X (compareOp op) r ∧ OpS g r (cmpW op) := by
  have hK := o.gx.K
  cases op with
  | Eq => exact ⟨_, by rw [hK]; exact op_eqP o.un, os_eq⟩
  | NotEq => exact ⟨_, by rw [hK]; exact op_neP o.un, os_ne⟩
  | Lt => exact ⟨_, by rw [hK]; exact op_ltP o.un, os_lt⟩
  | Gt => exact ⟨_, by rw [hK]; exact op_gtP o.un, os_gt⟩
  | LtE => exact ⟨_, by rw [hK]; exact op_leP o.un, os_le⟩
  | GtE => exact ⟨_, by rw [hK]; exact op_geP o.un, os_ge⟩
  | Is => exact ⟨_, op_isP, os_is⟩
  | IsNot => exact ⟨_, op_isNotP, os_isNot⟩
  | In => exact ⟨_, OpR.or (by rw [hK]; exact op_inP o.un) (op_inT o.gx o.un), os_in⟩
  | NotIn => exact ⟨_, OpR.or (by rw [hK]; exact op_notInP o.un) (op_notInT o.gx o.un), os_notIn⟩
theorem blt_ok {b : B} {p pos : Pos} {e : Expr} {es : List Expr} {fs : En → Hm → R (List Mi.W)} (hd : b.done = true) (hg : Gl X b.nm) (hm : X.mg b.nm = none) (ha : PA X (e :: es) (tA g W fs))
    (he : starEach (e :: es) X.env = (false, eval e X.env) :: starEach es X.env) (hpl : (backTo pos (starEach es X.env)).any (·.1) = false) :
    PE X (.Call (.Name b.nm p) (e :: es) [] pos) (tE g W fun env M => (fs env M).bnd fun ws M1 => bltV b ws M1) := by
  have hK := o.gx.K
  cases b with
  | len => exact sd_callB (f := lenF) (CallR.or call_len (CallR.or call_lenD (call_lenT o.gx))) (os_len hK) hg hm PySem.boot_len ha (str_ne (by decide +kernel)) (by decide +kernel) he hpl
  | abs => exact sd_callB (f := absF) call_abs os_abs hg hm PyProof.Rows.boot_abs ha (str_ne (by decide +kernel)) (by decide +kernel) he hpl
  | min => exact sd_callB (f := minF) (CallR.or (CallR.or (call_min2 o.calm) (by rw [hK]; exact cr_minD o.calm o.un)) (by rw [hK]; exact cr_min2D o.calm o.un)) os_minA hg hm PyProof.Rows.boot_min ha (str_ne (by decide +kernel)) (by decide +kernel) he hpl
  | max => exact sd_callB (f := maxF) (CallR.or (CallR.or (call_max2 o.calm) (by rw [hK]; exact cr_maxD o.calm o.un)) (by rw [hK]; exact cr_max2D o.calm o.un)) os_maxA hg hm PyProof.Rows.boot_max ha (str_ne (by decide +kernel)) (by decide +kernel) he hpl
  | sorted => exact sd_callB (f := sortedF) (CallR.or (CallR.or (by rw [hK]; exact cr_long) (by rw [hK]; exact cr_sortD o.un)) (cr_sortK o.gx o.calm o.un)) os_sortedA hg hm PyProof.Rows.boot_sorted ha (str_ne (by decide +kernel)) (by decide +kernel) he hpl
  | sum => exact sd_callB (f := sumF) (by rw [hK]; exact cr_sum o.calm) os_sum hg hm PyProof.Rows.boot_sum ha (str_ne (by decide +kernel)) (by decide +kernel) he hpl
  | all => exact sd_callB (f := allF) (by rw [hK]; exact cr_all o.calm) os_all hg hm PyProof.Rows.boot_all ha (str_ne (by decide +kernel)) (by decide +kernel) he hpl
  | int => exact sd_callTy (f := intF) call_int1 os_int hg hm PyProof.Rows.boot_int ha (str_ne (by decide +kernel)) (by decide +kernel) he hpl
  | str => exact sd_callTy (f := strF) call_str_int os_str hg hm PyProof.Rows.boot_str ha (str_ne (by decide +kernel)) (by decide +kernel) he hpl
  | list => exact sd_callTy (f := listF) (by rw [hK]; exact call_list_of) os_list hg hm PyProof.Rows.boot_list ha (str_ne (by decide +kernel)) (by decide +kernel) he hpl
  | tuple => exact sd_callTy (f := tupleF) (by rw [hK]; exact call_tuple_of) os_tuple hg hm PyProof.Rows.boot_tuple ha (str_ne (by decide +kernel)) (by decide +kernel) he hpl
  | _ => exact Bool.noConfusion hd
end
end Mi

namespace Mi
open PySem PySem.Spec PyProof.Rows L2
section
variable {X : Cx} {g : G} {W : WX} {cl : Nat → List Mi.W → Hm → R Mi.W} {t : Tb} {c : Sc} (o : Ok X g W cl t c)
include o
theorem mth1 {m : Mt} {T : RT} {id : String} {r : V → List V → Hp → VK → Prop} {x e : Expr} {ap cp : Pos} {fo : En → Hm → R Mi.W} {fs : En → Hm → R (List Mi.W)} (hT : ∀ {ρ : List Addr} {M : Hm} {H : Hp} {w : Mi.W} {v : V}, Sim g ρ M H → RelW g.K ρ H w v → rcv M w = some T → tyV g.K T.nm v H)
    (hone : ∀ T', mthOk m T' = true → T' = T) (pa : PlainAttrs T.nm) (slot : Slot T.nm m.nm id) (hty : typeOf (.builtin id) = pure (.type "method_descriptor")) (hm : MtR X id r) (hf : OpM g r (mthV m T))
    (hb : noSuper x = true) (hl : (ap.endLine == cp.line) = true) (hs : noStar e = true) (ho : PE X x (tE g W fo)) (ha : PA X [e] (tA g W fs)) : PE X (.Call (.Attribute x m.nm ap) [e] [] cp) (tE g W (mAll fo fs m)) := by
  refine PE.weak (sd_bm (m := m) (T := T) o.gx.K hT pa slot hty hm hf ho ha (base_ok hb _ _ _) (by rw [star_cons hs]; rfl) hl (star_cons hs _ _) rfl) fun σ H Q h => ?_
  rcases mAll_to T h with h | ⟨T', h1, h⟩
  · exact h
  · rw [hone T' h1] at h; exact h
theorem mth0 {m : Mt} {T : RT} {id : String} {r : V → List V → Hp → VK → Prop} {x : Expr} {ap cp : Pos} {fo : En → Hm → R Mi.W} (hT : ∀ {ρ : List Addr} {M : Hm} {H : Hp} {w : Mi.W} {v : V}, Sim g ρ M H → RelW g.K ρ H w v → rcv M w = some T → tyV g.K T.nm v H)
    (hone : ∀ T', mthOk m T' = true → T' = T) (pa : PlainAttrs T.nm) (slot : Slot T.nm m.nm id) (hty : typeOf (.builtin id) = pure (.type "method_descriptor")) (hm : MtR X id r) (hf : OpM g r (mthV m T))
    (hb : noSuper x = true) (hl : (ap.endLine == cp.line) = true) (ho : PE X x (tE g W fo)) : PE X (.Call (.Attribute x m.nm ap) [] [] cp) (tE g W (mAll fo (fun _ M => .ok [] M) m)) := by
  refine PE.weak (sd_bm0 (m := m) (T := T) o.gx.K hT pa slot hty hm hf ho (base_ok hb _ _ _) hl) fun σ H Q h => ?_
  rcases mAll_to T h with h | ⟨T', h1, h⟩
  · exact h
  · rw [hone T' h1] at h; exact h
theorem mthD {m : Mt} {id : String} {r : V → List V → Hp → VK → Prop} {x e : Expr} {es : List Expr} {ap cp : Pos} {fo : En → Hm → R Mi.W} {fs : En → Hm → R (List Mi.W)}
    (hone : ∀ T', mthOk m T' = true → T' = .dict) (slot : Slot "dict" m.nm id) (hty : typeOf (.builtin id) = pure (.type "method_descriptor")) (hm : MtR X id r) (hf : OpM g r (mthV m .dict))
    (hb : noSuper x = true) (hl : (ap.endLine == cp.line) = true) (hfew : ((backTo cp (starEach (e :: es) X.env)).all (fun x => !x.1) && (backToKw cp (keywordEach [] X.env)).all (fun x => x.1.isSome)
      && decide ((e :: es).length + ([] : List Keyword).length + (if ([] : List Keyword).isEmpty then 0 else 1) < 30)) = true) (hs : noStar e = true) (hs2 : es.all noStar = true) (ho : PE X x (tE g W fo)) (ha : PA X (e :: es) (tA g W fs)) : PE X (.Call (.Attribute x m.nm ap) (e :: es) [] cp) (tE g W (mAll fo fs m)) := by
  refine PE.weak (sd_bmD (m := m) slot hty hm hf ho ha (base_ok hb _ _ _) hfew hl (star_cons hs _ _) (star_any hs2 _ _)) fun σ H Q h => ?_
  rcases mAll_to .dict h with h | ⟨T', h1, h⟩
  · exact h
  · rw [hone T' h1] at h; exact h
theorem mth_ok1 {m : Mt} {x e : Expr} {ap cp : Pos} {fo : En → Hm → R Mi.W} {fs : En → Hm → R (List Mi.W)} (har : m.ars.contains 1 = true) (hb : noSuper x = true) (hl : (ap.endLine == cp.line) = true) (hs : noStar e = true) (ho : PE X x (tE g W fo)) (ha : PA X [e] (tA g W fs)) :
    PE X (.Call (.Attribute x m.nm ap) [e] [] cp) (tE g W (mAll fo fs m)) := by
  have hK := o.gx.K
  have one : ∀ T : RT, (∀ T', mthOk m T' = true → T' = T) → (∀ T', mthOk m T' = true → T' = T) := fun _ h => h
  cases m with
  | append => exact mth1 o (fun s r h => rcv_list s r h) (fun T' h => by cases T' <;> first | rfl | exact Bool.noConfusion h) PySem.F.plainAttrs_list PySem.F.slot_list_append PySem.F.type_list_append mt_append om_append hb hl hs ho ha
  | extend => exact mth1 o (fun s r h => rcv_list s r h) (fun T' h => by cases T' <;> first | rfl | exact Bool.noConfusion h) PySem.F.plainAttrs_list PySem.F.slot_list_extend PySem.F.type_list_extend mt_extend om_extend hb hl hs ho ha
  | get => exact mthD o (fun T' h => by cases T' <;> first | rfl | exact Bool.noConfusion h) PySem.F.slot_dict_get PySem.F.type_dict_get (mt_getG o.gx o.un) om_get hb hl (by rw [star_cons hs]; rfl) hs rfl ho ha
  | join => exact mth1 o (fun s r h => rcv_str r h) (fun T' h => by cases T' <;> first | rfl | exact Bool.noConfusion h) PySem.F.plainAttrs_str PySem.F.slot_str_join PySem.F.type_str_join (by rw [hK] at *; exact mt_join) (by rw [← hK]; exact om_join) hb hl hs ho ha
  | _ => simp [Mt.ars] at har
theorem mth_ok0 {m : Mt} {x : Expr} {ap cp : Pos} {fo : En → Hm → R Mi.W} (har : m.ars.contains 0 = true) (hb : noSuper x = true) (hl : (ap.endLine == cp.line) = true) (ho : PE X x (tE g W fo)) :
    PE X (.Call (.Attribute x m.nm ap) [] [] cp) (tE g W (mAll fo (fun _ M => .ok [] M) m)) := by
  have hK := o.gx.K
  cases m with
  | pop => exact mth0 o (fun s r h => rcv_list s r h) (fun T' h => by cases T' <;> first | rfl | exact Bool.noConfusion h) PySem.F.plainAttrs_list PySem.F.slot_list_pop PySem.F.type_list_pop mt_pop om_pop hb hl ho
  | clear => exact mth0 o (fun s r h => rcv_list s r h) (fun T' h => by cases T' <;> first | rfl | exact Bool.noConfusion h) PySem.F.plainAttrs_list PySem.F.slot_list_clear PySem.F.type_list_clear mt_clear om_clear hb hl ho
  | upper => exact mth0 o (fun s r h => rcv_str r h) (fun T' h => by cases T' <;> first | rfl | exact Bool.noConfusion h) PySem.F.plainAttrs_str PySem.F.slot_str_upper PySem.F.type_str_upper mt_upper om_upper hb hl ho
  | _ => simp [Mt.ars] at har
theorem mth_ok2 {m : Mt} {x e e2 : Expr} {ap cp : Pos} {fo : En → Hm → R Mi.W} {fs : En → Hm → R (List Mi.W)} (har : m.ars.contains 2 = true) (hb : noSuper x = true) (hl : (ap.endLine == cp.line) = true) (hs : noStar e = true) (hs2 : noStar e2 = true) (ho : PE X x (tE g W fo)) (ha : PA X [e, e2] (tA g W fs)) :
    PE X (.Call (.Attribute x m.nm ap) [e, e2] [] cp) (tE g W (mAll fo fs m)) := by
  cases m with
  | get => exact mthD o (fun T' h => by cases T' <;> first | rfl | exact Bool.noConfusion h) PySem.F.slot_dict_get PySem.F.type_dict_get (mt_getG o.gx o.un) om_get hb hl (by rw [star_cons hs, star_cons hs2]; rfl) hs (by rw [List.all_cons, hs2]; rfl) ho ha
  | setdefault => exact mthD o (fun T' h => by cases T' <;> first | rfl | exact Bool.noConfusion h) PySem.F.slot_dict_setdefault PySem.F.type_dict_setdefault (mt_setd o.gx o.un) om_setd hb hl (by rw [star_cons hs, star_cons hs2]; rfl) hs (by rw [List.all_cons, hs2]; rfl) ho ha
  | _ => simp [Mt.ars] at har
end
end Mi

namespace Mi
open PySem PySem.Spec PyProof.Rows L2
section
variable (Q : Pg) (cl : Nat → List Mi.W → Hm → R Mi.W)
@[simp] theorem ev_var (i) : ev Q cl (.var i) = fun σ M => match σ[i]? with
    | some (some w) => .ok w M
    | _ => .bad := rfl
@[simp] theorem ev_cst (k) : ev Q cl (.cst k) = fun _ M => .ok (.p k) M := rfl
@[simp] theorem ev_glb (x k) : ev Q cl (.glb x k) = fun _ M => .ok (.p k) M := rfl
@[simp] theorem ev_tup (es) : ev Q cl (.tup es) = fun σ M => (evs Q cl es σ M).bnd fun ws M1 => if ws.length ≤ big then .ok (mkTup ws) M1 else .bad := rfl
@[simp] theorem ev_lst (es) : ev Q cl (.lst es) = fun σ M => (evs Q cl es σ M).bnd fun ws M1 => if ws.length ≤ big then newO (.lst ws) M1 else .bad := rfl
@[simp] theorem ev_bin (p a b) : ev Q cl (.bin p a b) = fun σ M => (ev Q cl a σ M).bnd fun x M1 => (ev Q cl b σ M1).bnd fun y M2 => opV p x y M2 := rfl
@[simp] theorem ev_neg (a) : ev Q cl (.neg a) = fun σ M => (ev Q cl a σ M).bnd fun x M1 => match x with
    | .p (.int i) => okV (.int (-i)) M1
    | _ => .bad := rfl
@[simp] theorem ev_cmp (p a b) : ev Q cl (.cmp p a b) = fun σ M => (ev Q cl a σ M).bnd fun x M1 => (ev Q cl b σ M1).bnd fun y M2 => cmpW p x y M2 := rfl
@[simp] theorem ev_chn (p p' a b d) : ev Q cl (.chn p p' a b d) = chnF p p' (ev Q cl a) (ev Q cl b) (ev Q cl d) := rfl
@[simp] theorem ev_and (a b) : ev Q cl (.and a b) = andF (ev Q cl a) (ev Q cl b) := rfl
@[simp] theorem ev_or (a b) : ev Q cl (.or a b) = orF (ev Q cl a) (ev Q cl b) := rfl
@[simp] theorem ev_not (a) : ev Q cl (.not a) = fun σ M => (ev Q cl a σ M).bnd fun x M1 => match x with
    | .p (.bl c) => okV (.bl (!c)) M1
    | _ => .bad := rfl
@[simp] theorem ev_idx (a b) : ev Q cl (.idx a b) = fun σ M => (ev Q cl a σ M).bnd fun x M1 => (ev Q cl b σ M1).bnd fun y M2 => idxV x y M2 := rfl
@[simp] theorem ev_slc (a lo hi) : ev Q cl (.slc a lo hi) = fun σ M => (ev Q cl a σ M).bnd fun x M1 => (evs Q cl lo σ M1).bnd fun l M2 => match partOf l with
    | some l' => (evs Q cl hi σ M2).bnd fun h M3 => match partOf h with
      | some h' => slcV x l' h' M3
      | none => .bad
    | none => .bad := rfl
@[simp] theorem ev_rvs (a) : ev Q cl (.rvs a) = fun σ M => (ev Q cl a σ M).bnd fun x M1 => rvsV x M1 := rfl
@[simp] theorem ev_srs (a) : ev Q cl (.srs a) = fun σ M => (ev Q cl a σ M).bnd fun w M1 => sortedSetF [w] M1 := rfl
@[simp] theorem ev_lns (a) : ev Q cl (.lns a) = fun σ M => (ev Q cl a σ M).bnd fun w M1 => lenSetF [w] M1 := rfl
@[simp] theorem ev_call (f es) : ev Q cl (.call f es) = fun σ M => (evs Q cl es σ M).bnd fun ws M1 => cl f ws M1 := rfl
@[simp] theorem ev_blt (b es) : ev Q cl (.blt b es) = fun σ M => (evs Q cl es σ M).bnd fun ws M1 => bltV b ws M1 := rfl
@[simp] theorem ev_isi (a ts) : ev Q cl (.isi a ts) = fun σ M => (ev Q cl a σ M).bnd fun w M1 => ofB (isTys Q M1 w ts) M1 := rfl
theorem ev_dct (es) : ev Q cl (.dct es) = fun σ M => (evs Q cl es σ M).bnd fun ws M1 => match pairUp ws with
    | some kvs => if kvs.length ≤ 15 then newO (.dic (kvs.foldl (fun d q => dput d q.1 q.2) [])) M1 else .bad
    | none => .bad := rfl
theorem ev_dct0 : ev Q cl (.dct []) = fun _ M => newO (.dic []) M := rfl
theorem ev_mth (m a es) : ev Q cl (.mth m a es) = mAll (ev Q cl a) (evs Q cl es) m := rfl
theorem ev_lc (own p k src cs e) : ev Q cl (.lc own p k src cs e) = lcV p own k (evs Q cl src) (cs.map (ev Q cl)) (ev Q cl e) := by
  have key : ∀ σ : En, (fun (w : Mi.W) (M3 : Hm) => match bindPt M3 p w (own.foldr (fun i s => s.set i none) σ) with
        | some σ' => match cs with
          | [] => (tidy M3 (ev Q cl e σ' M3)).bnd fun v M4 => R.ok (some v) M4
          | [c] => (tidy M3 (ev Q cl c σ' M3)).bnd fun b M4 => match b with
            | .p (.bl true) => (tidy M4 (ev Q cl e σ' M4)).bnd fun v M5 => .ok (some v) M5
            | .p (.bl false) => .ok none M4
            | _ => .bad
          | _ => .bad
        | none => .bad) = lcF p own (cs.map (ev Q cl)) (ev Q cl e) σ := fun σ => by
    funext w M3
    unfold lcF
    cases bindPt M3 p w (own.foldr (fun i s => s.set i none) σ) with
    | none => rfl
    | some σ' =>
      cases cs with
      | nil => rfl
      | cons c cs =>
        cases cs with
        | nil => rfl
        | cons _ _ => rfl
  funext σ M
  simp only [ev, lcV]
  congr 1
  funext ws M1
  cases itemsOf k ws M1 with
  | none => rfl
  | some its => exact congrArg (fun f => lcL f (stays ((pinsOf ws).filter (· < (srcH M its M1).length)) (srcH M its M1)) its [] (srcH M its M1)) (key σ)
@[simp] theorem evs_nil : evs Q cl [] = fun _ M => .ok [] M := rfl
@[simp] theorem evs_cons (e es) : evs Q cl (e :: es) = fun σ M => (ev Q cl e σ M).bnd fun w M1 => (evs Q cl es σ M1).bnd fun ws M2 => .ok (w :: ws) M2 := rfl
theorem evs_one (e) : evs Q cl [e] = fun σ M => (ev Q cl e σ M).bnd fun w M1 => .ok [w] M1 := rfl
end

theorem cks_star {t : Tb} {c : Sc} : ∀ {es : List E} {xs : List Expr}, cks t es c xs = true → xs.all noStar = true
  | [], [], _ => rfl
  | [], _ :: _, h => by simp [cks] at h
  | _ :: _, [], h => by simp [cks] at h
  | e :: es, x :: xs, h => by
    simp only [cks, Bool.and_eq_true] at h
    rw [List.all_cons, h.1.1, cks_star h.2]; rfl
theorem ckPs_star {c : Sc} : ∀ {ps : List Pt} {xs : List Expr}, ckPs c ps xs = true → xs.all noStar = true ∧ xs.length = ps.length
  | [], [], _ => ⟨rfl, rfl⟩
  | [], _ :: _, h => by simp [ckPs] at h
  | _ :: _, [], h => by simp [ckPs] at h
  | e :: es, x :: xs, h => by
    simp only [ckPs, Bool.and_eq_true] at h
    obtain ⟨h1, h2⟩ := ckPs_star h.2
    rw [List.all_cons, h.1.1, h1]
    exact ⟨rfl, by simp [h2]⟩
section
variable {X : Cx} {g : G} {W : WX} {Q : Pg} {cl : Nat → List Mi.W → Hm → R Mi.W} {t : Tb} {c : Sc} (o : Ok X g W cl t c)
include o
theorem cst_ok {k : P} {k' : Const} {j : Nat} {pos : Pos} (h : ckC k k' = true) : PE X (.Constant k' j pos) (tE g W fun _ M => .ok (.p k) M) := by
  cases k <;> cases k' <;> simp only [ckC, beq_iff_eq, decide_eq_true_eq] at h <;> first
    | (exact Bool.noConfusion h)
    | (subst h; first | exact sd_int | exact sd_str | exact sd_bl)
    | exact sd_non
theorem tys_ok : ∀ {ts : List Ty} {es : List Expr}, ckTys t c ts es = true → ∃ cs us r, TysX X ts es cs us r
  | [], [], _ => ⟨_, _, _, .nil⟩
  | [], _ :: _, h => by simp [ckTys] at h
  | _ :: _, [], h => by simp [ckTys] at h
  | y :: ys, e :: es, h => by
    cases e with
    | Name x p =>
      simp only [ckTys, Bool.and_eq_true, beq_iff_eq] at h
      obtain ⟨⟨⟨⟨h1, h2⟩, h3⟩, h4⟩, h5⟩ := h
      subst h2
      obtain ⟨n, hn⟩ := Option.isSome_iff_exists.mp h1
      obtain ⟨cs, us, r, ih⟩ := tys_ok h5
      exact ⟨_, _, _, .cons hn (o.isGl h3) (o.bl _ (by simpa using h4)) ih⟩
    | _ => simp [ckTys] at h
theorem Ok.blk (s : Shared) (H : Hp) (scope : Scope) (C : Addr) (cc : List (Str × Addr)) (fp : List Addr) (hk : scope.kind = .function) : Ok (X.blk s H scope (compEnvC scope cc C X.env) fp) g W0 cl t (c.blk scope) where
  gx := ⟨o.gx.K, o.gx.P, o.gx.w⟩
  N := o.N
  nd := o.nd
  sc := by
    show (scope.names.map fun ((n, k) : Str × NameKind) => if (k == NameKind.free && X.env.scope.kind == ScopeKind.function && X.env.kindOf n == some NameKind.cell) then (n, NameKind.cell) else (n, k)) = _
    unfold Sc.blk
    apply List.map_congr_left
    rintro ⟨n, k⟩ _
    have e1 : X.env.kindOf n = c.sc.lookup n := by rw [← o.sc]; rfl
    rw [o.bk]
    dsimp only
    rw [e1]
    simp
  calm := o.calm
  un := o.un
  fn := fun h => Bool.noConfusion h
  bk := hk
  pass := PassesOwn.never
  tk := takes0
  bl := o.bl
  cs := o.cs
  fs := fun f x h1 h2 => ⟨(o.fs f x h1 h2).ex⟩
mutual
theorem okP : ∀ (p : Pt) (x : Expr), ckP c p x = true → PG X x (gPt g p)
  | .name i, x, h => by
    cases x with
    | Name x pos =>
      simp only [ckP, Bool.and_eq_true] at h
      obtain ⟨h1, h2⟩ := o.isSto h.2
      exact sd_gname o.nd (o.isN h.1) h1 h2
    | _ => simp [ckP] at h
  | .tup ps, x, h => by
    cases x with
    | Tuple xs k pos =>
      simp only [ckP] at h
      obtain ⟨h1, h2⟩ := ckPs_star h
      exact sd_gtup o.gx o.calm (okPs ps xs h) (by rw [asg_len h1, h2]) (asg_idx h1 _)
    | _ => simp [ckP] at h
theorem okPs : ∀ (ps : List Pt) (xs : List Expr), ckPs c ps xs = true → PGs X xs (gPts g ps)
  | [], [], _ => sd_gnil
  | [], _ :: _, h => by simp [ckPs] at h
  | _ :: _, [], h => by simp [ckPs] at h
  | p :: ps, x :: xs, h => by
    simp only [ckPs, Bool.and_eq_true] at h
    exact sd_gcons (okP p x h.1.2) (okPs ps xs h.2) (by rw [asg_cons h.1.1]; rfl)
end
theorem blk_ok {scope : Scope} {own : List (Str × Nat)} (h : blkC c.N c.scope scope own = true) : BlkOk X.N X.env.scope scope own := by
  have b := blkOk_by h
  exact ⟨b.kind, b.uniq, by rw [o.N]; exact b.ix, fun y hy e => by rw [o.sc]; exact b.free y hy e, by rw [o.N]; exact b.own⟩
end
structure Snd (X : Cx) (g : G) (W : WX) (f : En → Hm → R Mi.W) (x : Expr) : Prop where
  pe : PE X x (tE g W f)
  pt : PT X x (tB' g W f)
  pw : ∀ op vs p, x = .BoolOp op vs p → PW X x (tB' g W f)
def byVal : Expr → Bool
  | .Call .. => true
  | .Name .. => true
  | .Constant .. => true
  | .Subscript .. => true
  | .Attribute .. => true
  | .BinOp .. => true
  | .Tuple .. => true
  | .List .. => true
  | .Dict .. => true
  | .ListComp .. => true
  | .UnaryOp .USub _ _ => true
  | _ => false
theorem byVal_ok {e : Expr} (h : byVal e = true) (env : Env) : ∀ whole, isTrue e env whole = (do let v ← whole; standAt e.pos; holding [v] (truthy v)) := by
  intro whole
  cases e <;> first
    | rfl
    | (rename_i op _ _; cases op <;> first | rfl | exact Bool.noConfusion h)
    | exact Bool.noConfusion h
theorem Snd.val {X : Cx} {g : G} {W : WX} {f : En → Hm → R Mi.W} {x : Expr} (h : PE X x (tE g W f)) (hb : byVal x = true) : Snd X g W f x := ⟨h, sd_test h (byVal_ok hb _), fun op vs p e => by subst e; exact Bool.noConfusion hb⟩
theorem own_snd (c : Sc) (own : List Nat) : (c.own own).map (·.2) = own := by
  unfold Sc.own
  rw [List.map_map]
  exact List.map_id _
theorem cks_len {t : Tb} {c : Sc} : ∀ {es : List E} {xs : List Expr}, cks t es c xs = true → es.length = xs.length
  | [], [], _ => rfl
  | [], _ :: _, h => by simp [cks] at h
  | _ :: _, [], h => by simp [cks] at h
  | e :: es, x :: xs, h => by
    simp only [cks, Bool.and_eq_true] at h
    simp [cks_len h.2]
theorem evs_len {Q : Pg} {cl : Nat → List Mi.W → Hm → R Mi.W} : ∀ {es : List E} {env : En} {M : Hm} {ws : List Mi.W} {M1 : Hm}, evs Q cl es env M = .ok ws M1 → ws.length = es.length
  | [], env, M, ws, M1, h => by rw [evs_nil] at h; cases h; rfl
  | e :: es, env, M, ws, M1, h => by
    rw [evs_cons] at h
    dsimp only at h
    cases h1 : ev Q cl e env M with
    | ok w M2 =>
      rw [h1, R.bnd_ok] at h
      cases h2 : evs Q cl es env M2 with
      | ok us M3 =>
        rw [h2, R.bnd_ok] at h
        cases h
        simp [evs_len h2]
      | err cc fs M3 => rw [h2] at h; cases h
      | bad => rw [h2] at h; cases h
    | err cc fs M3 => rw [h1] at h; cases h
    | bad => rw [h1] at h; cases h
section
variable {g : G} {Q : Pg} {cl : Nat → List Mi.W → Hm → R Mi.W} {t : Tb}
mutual
theorem okE : ∀ (e : E) {X : Cx} {W : WX} {c : Sc} (_ : Ok X g W cl t c) (x : Expr), ckE t e c x = true → Snd X g W (ev Q cl e) x
  | .var i, X, W, c, o, x, h => by
    cases x with
    | Name x p =>
      simp only [ckE, Bool.and_eq_true] at h
      rw [ev_var]
      exact .val (sd_var (o.isN h.1.1) (o.isVis h.1.2) (okNm1 h.2) (okNm2 h.2)) rfl
    | _ => simp [ckE] at h
  | .cst k, X, W, c, o, x, h => by
    cases x with
    | Constant k' j p =>
      simp only [ckE] at h
      rw [ev_cst]
      exact .val (cst_ok o h) rfl
    | _ => simp [ckE] at h
  | .glb y k, X, W, c, o, x, h => by
    cases x with
    | Name x p =>
      simp only [ckE, Bool.and_eq_true, beq_iff_eq] at h
      obtain ⟨⟨⟨h1, h2⟩, h3⟩, h4⟩ := h
      subst h1
      obtain ⟨u, v, q1, q2, q3⟩ := o.cs x k (by simpa using h2)
      rw [ev_glb]
      exact .val (sd_glb (o.isGl h3) q1 q2 q3 (okNm1 h4)) rfl
    | _ => simp [ckE] at h
  | .tup es, X, W, c, o, x, h => by
    cases x with
    | Tuple xs k p =>
      simp only [ckE] at h
      rw [ev_tup]
      exact .val (sd_tup (okEs es o xs h)) rfl
    | _ => simp [ckE] at h
  | .lst es, X, W, c, o, x, h => by
    cases x with
    | List xs p =>
      simp only [ckE] at h
      rw [ev_lst]
      exact .val (sd_lst (okEs es o xs h)) rfl
    | _ => simp [ckE] at h
  | .dct es, X, W, c, o, x, h => by
    cases x with
    | Dict ks vs p =>
      simp only [ckE, Bool.and_eq_true, decide_eq_true_eq] at h
      obtain ⟨fs, h1, h2, h3, h4⟩ := okD es o ks vs p h.2
      cases ks with
      | nil =>
        cases vs with
        | nil =>
          cases es with
          | nil => rw [ev_dct0]; exact .val sd_dct rfl
          | cons a r => cases r <;> simp [ckD] at h
        | cons _ _ => simp at h4
      | cons k ks =>
        have e : ev Q cl (.dct es) = fun env M => (pairsF fs env M).bnd fun ws M1 => match pairUp ws with
            | some kvs => if kvs.length ≤ 15 then newO (.dic (kvs.foldl (fun d q => dput d q.1 q.2) [])) M1 else .bad
            | none => .bad := by
          rw [ev_dct]
          funext env M
          rw [h2 env M]
        rw [e]
        exact .val (PE.weak (pe_disp h1 h3 h4 (by simp) h.1) fun σ H Q h => disp_read h) rfl
    | _ => simp [ckE] at h
  | .bin p a b, X, W, c, o, x, h => by
    cases x with
    | BinOp x op y pos =>
      simp only [ckE, Bool.and_eq_true, beq_iff_eq, Bool.not_eq_true'] at h
      obtain ⟨⟨⟨h1, h2⟩, h3⟩, h4⟩ := h
      subst h1
      rw [ev_bin]
      exact .val (bin_ok o (fun e => by subst e; exact Bool.noConfusion h2) (okE a o x h3).pe (okE b o y h4).pe) rfl
    | _ => simp [ckE] at h
  | .neg a, X, W, c, o, x, h => by
    cases x with
    | UnaryOp op x p =>
      cases op with
      | USub =>
        simp only [ckE] at h
        rw [ev_neg]
        exact .val (sd_neg (okE a o x h).pe) rfl
      | _ => simp [ckE] at h
    | _ => simp [ckE] at h
  | .cmp p a b, X, W, c, o, x, h => by
    cases x with
    | Compare x ops ys pos =>
      match ops, ys, h with
      | [p'], [y], h =>
        simp only [ckE, Bool.and_eq_true, beq_iff_eq] at h
        obtain ⟨⟨⟨h1, h2⟩, h3⟩, h4⟩ := h
        subst h1
        obtain ⟨r, q1, q2⟩ := cmp_ok o p
        rw [ev_cmp]
        exact ⟨sd_cmp q1 q2 (okE a o x h3).pe (okE b o y h4).pe (marks_no h2 _), sd_tcmp q1 q2 (okE a o x h3).pe (okE b o y h4).pe (marks_no h2 _), fun _ _ _ e => by cases e⟩
    | _ => simp [ckE] at h
  | .chn p p2 a b d, X, W, c, o, x, h => by
    cases x with
    | Compare x ops ys pos =>
      match ops, ys, h with
      | [q1, q2], [y, z], h =>
        simp only [ckE, Bool.and_eq_true, beq_iff_eq] at h
        obtain ⟨⟨⟨⟨⟨h1, h2⟩, h3⟩, h4⟩, h5⟩, h6⟩ := h
        subst h1 h2
        obtain ⟨r, a1, a2⟩ := cmp_ok o p
        obtain ⟨r', b1, b2⟩ := cmp_ok o p2
        rw [ev_chn]
        exact ⟨sd_chn a1 b1 a2 b2 (okE a o x h4).pe (okE b o y h5).pe (okE d o z h6).pe (marks_no h3 _), sd_tchn a1 b1 a2 b2 (okE a o x h4).pe (okE b o y h5).pe (okE d o z h6).pe (marks_no h3 _), fun _ _ _ e => by cases e⟩
    | _ => simp [ckE] at h
  | .and a b, X, W, c, o, x, h => by
    cases x with
    | BoolOp op vs p =>
      match op, vs, h with
      | .And, x :: [y], h =>
        simp only [ckE, Bool.and_eq_true] at h
        rw [ev_and]
        have key := sd_tand (pos := p) (okE a o x h.1).pt (pw_and1 (okE b o y h.2).pt)
        exact ⟨sd_and (okE a o x h.1).pe (pe_one (okE b o y h.2).pe), key.pt, fun _ _ _ _ => key⟩
      | .And, x :: y :: z :: r, h =>
        simp only [ckE, Bool.and_eq_true] at h
        rw [ev_and]
        have ih := okE b o (.BoolOp .And (y :: z :: r) p) h.2
        have key := sd_tand (okE a o x h.1).pt (ih.pw _ _ _ rfl)
        exact ⟨sd_and (okE a o x h.1).pe ih.pe, key.pt, fun _ _ _ _ => key⟩
      | .And, [x], h =>
        simp only [ckE, Bool.and_eq_true] at h
        exact absurd h.2 (by cases b <;> simp [ckE, asRev, asSet])
    | _ => simp [ckE] at h
  | .or a b, X, W, c, o, x, h => by
    cases x with
    | BoolOp op vs p =>
      match op, vs, h with
      | .Or, x :: [y], h =>
        simp only [ckE, Bool.and_eq_true] at h
        rw [ev_or]
        have key := sd_tor (pos := p) (okE a o x h.1).pt (pw_or1 (okE b o y h.2).pt)
        exact ⟨sd_or (okE a o x h.1).pe (pe_one (okE b o y h.2).pe), key.pt, fun _ _ _ _ => key⟩
      | .Or, x :: y :: z :: r, h =>
        simp only [ckE, Bool.and_eq_true] at h
        rw [ev_or]
        have ih := okE b o (.BoolOp .Or (y :: z :: r) p) h.2
        have key := sd_tor (okE a o x h.1).pt (ih.pw _ _ _ rfl)
        exact ⟨sd_or (okE a o x h.1).pe ih.pe, key.pt, fun _ _ _ _ => key⟩
      | .Or, [x], h =>
        simp only [ckE, Bool.and_eq_true] at h
        exact absurd h.2 (by cases b <;> simp [ckE, asRev, asSet])
    | _ => simp [ckE] at h
  | .not a, X, W, c, o, x, h => by
    cases x with
    | UnaryOp op x p =>
      cases op with
      | Not =>
        simp only [ckE] at h
        rw [ev_not]
        exact ⟨sd_not (okE a o x h).pe, sd_tnot (okE a o x h).pt, fun _ _ _ e => by cases e⟩
      | _ => simp [ckE] at h
    | _ => simp [ckE] at h
  | .idx a b, X, W, c, o, x, h => by
    cases x with
    | Subscript x y p =>
      have h' : (plainIx y && ckE t a c x && ckE t b c y) = true := by
        cases y <;> first | exact h | simpa [ckE] using h
      simp only [Bool.and_eq_true] at h'
      rw [ev_idx]
      exact .val (sd_idx o.gx o.un (okE a o x h'.1.2).pe (okE b o y h'.2).pe (plain_ok h'.1.1)) rfl
    | _ => simp [ckE] at h
  | .slc a lo hi, X, W, c, o, x, h => by
    cases x with
    | Subscript x y p =>
      cases y with
      | Slice l u s p2 =>
        cases s with
        | none =>
          simp only [ckE, Bool.and_eq_true] at h
          rw [ev_slc]
          exact .val (sd_slc o.gx (okE a o x h.1.1).pe (okO lo o l h.1.2) (okO hi o u h.2)) rfl
        | some s => simp [ckE] at h
      | _ => simp [ckE] at h
    | _ => simp [ckE] at h
  | .rvs a, X, W, c, o, x, h => by
    simp only [ckE] at h
    cases e : asRev x with
    | none => rw [e] at h; cases h
    | some y =>
      rw [e] at h
      obtain ⟨k2, p1, p2, p3, pos, rfl⟩ := asRev_some e
      rw [ev_rvs]
      exact .val (sd_rvs o.gx (okE a o y h).pe) rfl
  | .srs a, X, W, c, o, x, h => by
    simp only [ckE] at h
    cases e : asSet x with
    | none => rw [e] at h; cases h
    | some q =>
      obtain ⟨f, y, z⟩ := q
      rw [e] at h
      obtain ⟨p1, p2, p3, p4, rfl⟩ := asSet_some e
      simp only [Bool.and_eq_true, beq_iff_eq] at h
      obtain ⟨⟨⟨⟨⟨⟨⟨h1, h2⟩, h3⟩, h4⟩, h5⟩, h6⟩, h7⟩, h8⟩ := h
      subst h1 h2
      rw [ev_srs]
      exact .val (sd_sortSet o.gx o.calm o.un (o.isGl h3) (o.bl _ (List.contains_iff_mem.mp h5)) (o.isGl h4) (o.bl _ (List.contains_iff_mem.mp h6)) (okE a o z h8).pe (star_cons h7 _ _)) rfl
  | .lns a, X, W, c, o, x, h => by
    simp only [ckE] at h
    cases e : asSet x with
    | none => rw [e] at h; cases h
    | some q =>
      obtain ⟨f, y, z⟩ := q
      rw [e] at h
      obtain ⟨p1, p2, p3, p4, rfl⟩ := asSet_some e
      simp only [Bool.and_eq_true, beq_iff_eq] at h
      obtain ⟨⟨⟨⟨⟨⟨⟨h1, h2⟩, h3⟩, h4⟩, h5⟩, h6⟩, h7⟩, h8⟩ := h
      subst h1 h2
      rw [ev_lns]
      exact .val (sd_lenSet o.gx o.calm o.un (o.isGl h3) (o.bl _ (List.contains_iff_mem.mp h5)) (o.isGl h4) (o.bl _ (List.contains_iff_mem.mp h6)) (okE a o z h8).pe (star_cons h7 _ _)) rfl
  | .call f es, X, W, c, o, x, h => by
    cases x with
    | Call fn xs ks p =>
      cases fn with
      | Name x p2 =>
        cases ks with
        | nil =>
          simp only [ckE, Bool.and_eq_true, beq_iff_eq, Bool.not_eq_true'] at h
          obtain ⟨⟨⟨⟨h1, h2⟩, h3⟩, h4⟩, h5⟩ := h
          have co := o.fs f x h1 h2
          rw [ev_call]
          cases xs with
          | nil =>
            cases es with
            | nil => rw [evs_nil]; exact .val (sd_call0 o.tk co (o.isGl h3) (okNm1 h4)) rfl
            | cons _ _ => simp [cks] at h5
          | cons y ys =>
            have hs := cks_star h5
            rw [List.all_cons, Bool.and_eq_true] at hs
            exact .val (sd_call o.tk co (o.isGl h3) (okEs es o (y :: ys) h5) (okNm1 h4) (star_cons hs.1 ys _) (star_any hs.2 _ _)) rfl
        | cons _ _ => simp [ckE] at h
      | _ => simp [ckE] at h
    | _ => simp [ckE] at h
  | .blt b es, X, W, c, o, x, h => by
    cases x with
    | Call fn xs ks p =>
      cases fn with
      | Name x p2 =>
        cases ks with
        | nil =>
          simp only [ckE, Bool.and_eq_true, beq_iff_eq, Bool.not_eq_true'] at h
          obtain ⟨⟨⟨⟨⟨h1, h2⟩, h3⟩, h4⟩, h5⟩, h6⟩ := h
          subst h2
          rw [ev_blt]
          cases xs with
          | nil => simp at h5
          | cons y ys =>
            have hs := cks_star h6
            rw [List.all_cons, Bool.and_eq_true] at hs
            exact .val (blt_ok o h1 (o.isGl h3) (o.bl _ (by simpa using h4)) (okEs es o (y :: ys) h6) (star_cons hs.1 ys _) (star_any hs.2 _ _)) rfl
        | cons _ _ => simp [ckE] at h
      | _ => simp [ckE] at h
    | _ => simp [ckE] at h
  | .mth m a es, X, W, c, o, x, h => by
    cases x with
    | Call fn xs ks p =>
      cases fn with
      | Attribute x nm ap =>
        cases ks with
        | nil =>
          simp only [ckE, Bool.and_eq_true, beq_iff_eq] at h
          obtain ⟨⟨⟨⟨⟨h1, h2⟩, h3⟩, h4⟩, h5⟩, h6⟩ := h
          subst h1
          have ih := okE a o x h5
          have ihs := okEs es o xs h6
          have hs := cks_star h6
          rw [ev_mth]
          match xs, es, h2, h6, ihs, hs with
          | [], [], h2, h6, ihs, hs => rw [evs_nil]; exact .val (mth_ok0 o h2 h3 (by simpa using h4) ih.pe) rfl
          | [y], es, h2, h6, ihs, hs =>
            rw [List.all_cons, Bool.and_eq_true] at hs
            exact .val (mth_ok1 o h2 h3 (by simpa using h4) hs.1 ih.pe ihs) rfl
          | [y, z], es, h2, h6, ihs, hs =>
            rw [List.all_cons, List.all_cons, Bool.and_eq_true, Bool.and_eq_true] at hs
            exact .val (mth_ok2 o h2 h3 (by simpa using h4) hs.1 hs.2.1 ih.pe ihs) rfl
          | _ :: _ :: _ :: _, es, h2, h6, ihs, hs => exact absurd h2 (by cases m <;> simp [Mt.ars])
          | [], _ :: _, h2, h6, ihs, hs => simp [cks] at h6
        | cons _ _ => simp [ckE] at h
      | _ => simp [ckE] at h
    | _ => simp [ckE] at h
  | .isi a ts, X, W, c, o, x, h => by
    cases x with
    | Call fn xs ks p =>
      cases fn with
      | Name x p2 =>
        match xs, ks, h with
        | [y, T], [], h =>
          simp only [ckE, Bool.and_eq_true, beq_iff_eq] at h
          obtain ⟨⟨⟨⟨⟨h1, h2⟩, h3⟩, h4⟩, h5⟩, h6⟩ := h
          subst h1
          have ih := (okE a o y h5).pe
          have hg := o.isGl h2
          have hm := o.bl _ (by simpa using h3)
          rw [ev_isi]
          refine .val ?_ rfl
          have one : ∀ e : Expr, (ts.length == 1 && ckTys t c ts [e]) = true → PE X (.Call (.Name isiStr p2) [y, e] [] p) (tE g W fun env M => (ev Q cl a env M).bnd fun w M1 => ofB (isTys Q M1 w ts) M1) := fun e h6 => by
            rw [Bool.and_eq_true, beq_iff_eq] at h6
            match ts, h6 with
            | [ty], h6 =>
              cases e with
              | Name z pz =>
                simp only [ckTys, Bool.and_eq_true, beq_iff_eq] at h6
                obtain ⟨_, ⟨⟨⟨q1, q2⟩, q3⟩, q4⟩, _⟩ := h6
                subst q2
                obtain ⟨n, hn⟩ := Option.isSome_iff_exists.mp q1
                exact sd_isi1 o.gx hn hg hm (o.isGl q3) (o.bl _ (by simpa using q4)) ih (star_cons h4 _ _)
              | _ => simp [ckTys] at h6
          cases T with
          | Tuple es k p3 =>
            simp only [Bool.and_eq_true, Bool.not_eq_true', decide_eq_true_eq] at h6
            obtain ⟨cs, us, r, hT⟩ := tys_ok o h6.2
            exact sd_isiT o.gx (fun z => by rw [z] at h6; simp at h6) h6.1.2 hT hg hm ih (star_cons h4 _ _)
          | _ => exact one _ h6
      | _ => simp [ckE] at h
    | _ => simp [ckE] at h
  | .lc own p k src cs e, X, W, c, o, x, h => by
    cases x with
    | ListComp x gs scope pos =>
      match gs, h with
      | [⟨tg, it, ifs, 0⟩], h =>
        simp only [ckE, Bool.and_eq_true, decide_eq_true_eq, List.all_eq_true] at h
        obtain ⟨⟨⟨⟨⟨⟨⟨h1, h2⟩, h3⟩, h4⟩, h5⟩, h6⟩, h7⟩, h8⟩ := h
        have B := blk_ok o h2
        rw [ev_lc, ← own_snd c own]
        refine .val (sd_lc o.calm o.nd (okI k src o tg it h5) B (fun s H C cc fp => okP (o.blk s H scope C cc fp B.kind) p tg h3) (fun s H C cc fp => ?_) (fun s H C cc fp => (okE e (o.blk s H scope C cc fp B.kind) x h8).pe) (set_no h1 _) fun i hi => by rw [own_snd]; simpa using h4 i hi) rfl
        match cs, ifs, h6, h7 with
        | [], [], _, _ => exact .nil
        | [c1], [y], _, h7 =>
          simp only [cks, Bool.and_eq_true] at h7
          exact .one (okE c1 (o.blk s H scope C cc fp B.kind) y h7.1.2).pt
        | _, _ :: _ :: _, h6, _ => simp at h6
        | [], [_], _, h7 => simp [cks] at h7
        | _ :: _, [], _, h7 => simp [cks] at h7
        | _ :: _ :: _, [_], _, h7 => simp [cks] at h7
    | _ => simp [ckE] at h
  | .fld .., X, W, c, o, x, h => by cases x <;> simp [ckE] at h
  | .met .., X, W, c, o, x, h => by cases x <;> simp [ckE] at h
  | .mk .., X, W, c, o, x, h => by cases x <;> simp [ckE] at h
theorem okEs : ∀ (es : List E) {X : Cx} {W : WX} {c : Sc} (_ : Ok X g W cl t c) (xs : List Expr), cks t es c xs = true → PA X xs (tA g W (evs Q cl es))
  | [], X, W, c, o, [], _ => by rw [evs_nil]; exact sd_nil
  | [], X, W, c, o, _ :: _, h => by simp [cks] at h
  | _ :: _, X, W, c, o, [], h => by simp [cks] at h
  | e :: es, X, W, c, o, x :: xs, h => by
    simp only [cks, Bool.and_eq_true] at h
    rw [evs_cons]
    exact sd_cons (okE e o x h.1.2).pe (okEs es o xs h.2) (star_cons h.1.1 _ _)
theorem okO : ∀ (es : List E) {X : Cx} {W : WX} {c : Sc} (_ : Ok X g W cl t c) (x : Option Expr), ckO t es c x = true → PartX X g W x (evs Q cl es)
  | [], X, W, c, o, none, _ => by rw [evs_nil]; exact .no
  | [], X, W, c, o, some _, h => by simp [ckO] at h
  | [e], X, W, c, o, none, h => by simp [ckO] at h
  | [e], X, W, c, o, some x, h => by
    simp only [ckO] at h
    rw [evs_one]
    exact .yes (okE e o x h).pe
  | _ :: _ :: _, X, W, c, o, none, h => by simp [ckO] at h
  | _ :: _ :: _, X, W, c, o, some _, h => by simp [ckO] at h
theorem okD : ∀ (es : List E) {X : Cx} {W : WX} {c : Sc} (_ : Ok X g W cl t c) (ks : List (Option Expr)) (vs : List Expr) (pos : Pos), ckD t es c ks vs = true →
    ∃ fs : List (EF × EF), PPs X pos ks vs (fs.map fun p => (tE g W p.1, tE g W p.2)) ∧ (∀ env M, evs Q cl es env M = pairsF fs env M) ∧ ks.all (·.isSome) = true ∧ ks.length = vs.length
  | [], X, W, c, o, ks, vs, pos, h => by
    cases ks with
    | nil =>
      cases vs with
      | nil => exact ⟨[], pps_nil, fun env M => by rw [evs_nil]; rfl, rfl, rfl⟩
      | cons _ _ => simp [ckD] at h
    | cons _ _ => simp [ckD] at h
  | [_], X, W, c, o, ks, vs, pos, h => by simp [ckD] at h
  | k :: v :: es, X, W, c, o, ks, vs, pos, h => by
    match ks, vs, h with
    | some x :: ks, y :: vs, h =>
      simp only [ckD, Bool.and_eq_true] at h
      obtain ⟨fs, h1, h2, h3, h4⟩ := okD es o ks vs pos h.2
      refine ⟨(ev Q cl k, ev Q cl v) :: fs, pps_cons (okE k o x h.1.1).pe (okE v o y h.1.2).pe h1, fun env M => ?_, by rw [List.all_cons, h3]; rfl, by simp [h4]⟩
      rw [evs_cons, evs_cons]
      unfold pairsF
      dsimp only
      congr 1
      funext w M1
      rw [R.bnd_assoc]
      congr 1
      funext w2 M2
      rw [R.bnd_assoc, h2]
      rfl
theorem okI (k : Ik) : ∀ (es : List E) {X : Cx} {W : WX} {c : Sc} (_ : Ok X g W cl t c) (tg x : Expr), ckI t k es c tg x = true → PI X tg x (tI' g W k (evs Q cl es))
  | [], X, W, c, o, tg, x, h => by simp [ckI] at h
  | e :: es, X, W, c, o, tg, x, h => by
    cases k with
    | val =>
      simp only [ckI, Bool.and_eq_true, List.isEmpty_iff] at h
      obtain ⟨h1, h2⟩ := h
      subst h1
      rw [evs_one]
      exact sd_srcVal o.gx (okE e o x h2).pe
    | rng =>
      cases x with
      | Call fn xs ks p =>
        cases fn with
        | Name x p2 =>
          match xs, ks, h with
          | y :: ys, [], h =>
            simp only [ckI, Bool.and_eq_true, beq_iff_eq, decide_eq_true_eq] at h
            obtain ⟨⟨⟨⟨⟨⟨h1, h2⟩, h3⟩, h4⟩, h5⟩, h6⟩, h7⟩ := h
            subst h1
            have hm := o.bl _ (by simpa using h3)
            have hs := cks_star h7
            have hl := cks_len h7
            have ih : PA X (y :: ys) (tA g W (evs Q cl (e :: es))) := by
              rw [evs_cons]
              exact sd_cons (okE e o y h6).pe (okEs es o ys h7) (star_cons h5 _ _)
            match ys, h4, hs, hl, ih with
            | [], _, hs, hl, ih => exact sd_srcRng1 (o.isGl h2) hm ih (star_cons h5 _ _) fun env M ws M1 e => by rw [evs_len e, List.length_cons, hl]; rfl
            | [b], _, hs, hl, ih =>
              rw [List.all_cons, Bool.and_eq_true] at hs
              exact sd_srcRng2 (o.isGl h2) hm ih (by rw [star_cons h5, star_cons hs.1]; rfl) (star_cons hs.1 _ _) fun env M ws M1 e => by rw [evs_len e, List.length_cons, hl]; rfl
        | _ => simp [ckI] at h
      | _ => simp [ckI] at h
    | zip =>
      simp only [ckI] at h
      split at h
      · rename_i f y ys e'
        obtain ⟨p1, p2, rfl⟩ := asCall_some e'
        simp only [Bool.and_eq_true, beq_iff_eq] at h
        obtain ⟨⟨⟨⟨⟨⟨⟨h1, h2⟩, h3⟩, h4⟩, h5⟩, h6⟩, h7⟩, h8⟩ := h
        subst h2
        obtain ⟨ts, kk, tp, rfl⟩ := isTupT_some h1
        have hs := cks_star h8
        have hl := cks_len h8
        have ih : PA X (y :: ys) (tA g W (evs Q cl (e :: es))) := by
          rw [evs_cons]
          exact sd_cons (okE e o y h7).pe (okEs es o ys h8) (star_cons h6 _ _)
        match ys, h5, hs, hl, ih with
        | [b], _, hs, hl, ih =>
          rw [List.all_cons, Bool.and_eq_true] at hs
          exact sd_srcZip o.gx (o.isGl h3) (o.bl _ (List.contains_iff_mem.mp h4)) ih (star_cons h6 _ _) (by rw [star_cons hs.1]; rfl) fun env M ws M1 e => by rw [evs_len e, List.length_cons, hl]; rfl
      · cases h
    | enu =>
      simp only [ckI] at h
      split at h
      · rename_i f y e'
        obtain ⟨p1, p2, rfl⟩ := asCall_some e'
        simp only [Bool.and_eq_true, beq_iff_eq, List.isEmpty_iff] at h
        obtain ⟨⟨⟨⟨⟨⟨h1, h2⟩, h3⟩, h4⟩, h5⟩, h6⟩, h7⟩ := h
        subst h2 h6
        obtain ⟨ts, kk, tp, rfl⟩ := isTupT_some h1
        have ih : PA X [y] (tA g W (evs Q cl [e])) := by
          rw [evs_cons]
          exact sd_cons (okE e o y h7).pe sd_nil (star_cons h5 _ _)
        exact sd_srcEnu o.gx (o.isGl h3) (o.bl _ (List.contains_iff_mem.mp h4)) ih (star_cons h5 _ _) fun env M ws M1 e => by rw [evs_len e]; rfl
      · cases h
    | rev =>
      simp only [ckI] at h
      split at h
      · rename_i f y e'
        obtain ⟨p1, p2, rfl⟩ := asCall_some e'
        simp only [Bool.and_eq_true, beq_iff_eq, List.isEmpty_iff] at h
        obtain ⟨⟨⟨⟨⟨h1, h2⟩, h3⟩, h4⟩, h5⟩, h6⟩ := h
        subst h1 h5
        rw [evs_one]
        exact sd_srcRev o.gx (o.isGl h2) (o.bl _ (List.contains_iff_mem.mp h3)) (okE e o y h6).pe (star_cons h4 _ _)
      · cases h
end
end
end Mi

namespace Mi
open PySem PySem.Spec PyProof.Rows L2

theorem noStar_any {a b : Expr} (ha : noStar a = true) (hb : noStar b = true) : ([a, b].any fun | .Starred .. => true | _ => false) = false := by
  cases a <;> cases b <;> first | rfl | exact Bool.noConfusion ha | exact Bool.noConfusion hb
theorem sw_par {x y : Str} {px py pt pt2 : Pos} {kt k2 : Nat} {a b : Expr} {env : Env} (hk : env.scope.kind = .function) (hx : env.scope.names.lookup x = some .local) (hy : env.scope.names.lookup y = some .local) (hxy : (x == y) = false) (hl : (py.line == px.line) = true) (ha : noStar a = true) (hb : noStar b = true)
    (h1 : (foldedForSure 8 a && foldedForSure 8 b) = false) (h2 : (constantsAlone 8 a && constantsAlone 8 b) = false) :
    swappedStores [.Tuple [.Name x px, .Name y py] kt pt] (.Tuple [a, b] k2 pt2) env = pure (some [x, y]) := by
  have kx : env.kindOf x = some .local := hx
  have ky : env.kindOf y = some .local := hy
  have hb' : env.blockKind = .function := by unfold Env.blockKind; rw [hk]; rfl
  have hs := noStar_any ha hb
  have h1' : ([a, b].all (foldedForSure 8)) = false := by simpa [List.all_cons] using h1
  have h2' : ([a, b].all (constantsAlone 8)) = false := by simpa [List.all_cons] using h2
  have hne : x ≠ y := str_ne hxy
  unfold swappedStores
  simp only [hb', kx, ky, hl, Expr.pos, h1', h2', hs, List.filterMap, List.length_cons, List.length_nil, List.head?_cons, Option.map_some, Option.getD_some, beq_self_eq_true]
  have e2 : [x, y].eraseDups.length = 2 := by
    have hyx : (y == x) = false := beq_eq_false_iff_ne.mpr (Ne.symm hne)
    have e3 : [y].eraseDups = [y] := rfl
    rw [List.eraseDups_cons]
    simp only [List.filter, hyx, Bool.not_false]
    rw [e3]
    rfl
  refine (if_neg (by decide)).trans ?_
  refine (if_neg (fun z => ?_)).trans ?_
  · have z' : ([a, b].any fun | .Starred .. => true | _ => false) = true := z
    rw [noStar_any ha hb] at z'
    cases z'
  · refine (if_neg (fun z => ?_)).trans ?_
    · have z' : (([x, y].length != 2) || ([x, y].eraseDups.length != [x, y].length)) = true := z
      rw [e2] at z'
      exact absurd z' (by simp)
    · rfl

def noAsgSwap (tg x : Expr) : Bool := !(isTup tg && isTup x)
def lcSwap (c : Sc) (y : Str) (py pos : Pos) (scope : Scope) : Bool := c.sc.lookup y == some .local && py.line == pos.line && !(scope.names.any fun (n, k) => n == y && (k == .local || k == .cell))
def ckLcA (t : Tb) (c : Sc) : Pt → E → Expr → Expr → Bool
  | .name i, .lc own p k src cs e, .Name y py, .ListComp x [⟨tg, it, ifs, 0⟩] scope pos => ckE t (.lc own p k src cs e) c (.ListComp x [⟨tg, it, ifs, 0⟩] scope pos) && c.N[i]? == some y && c.sto y
  | _, _, _, _ => false
def ckAsg (t : Tb) (c : Sc) (p : Pt) (e : E) (tg x : Expr) : Bool := (noStar tg && noComp x && noAsgSwap tg x && ckP c p tg && ckE t e c x) || ckLcA t c p e tg x
mutual
def ckS (t : Tb) (c : Sc) : S → Stmt → Bool
  | .exp e, .Expr x _ => noComp x && ckE t e c x
  | .asg (.pt p) e, .Assign [tg] x _ => ckAsg t c p e tg x
  | .asg (.idx a i) e, .Assign [.Subscript x y _] z _ => plainIx y && ckE t a c x && ckE t i c y && ckE t e c z
  | .par i j a b, .Assign [.Tuple [.Name x px, .Name y py] _ _] (.Tuple [u, v] _ _) _ => c.top && c.N[i]? == some x && c.N[j]? == some y && !(i == j) && c.sc.lookup x == some .local && c.sc.lookup y == some .local && !(x == y) && py.line == px.line && noStar u && noStar v &&
      !(foldedForSure 8 u && foldedForSure 8 v) && !(constantsAlone 8 u && constantsAlone 8 v) && ckE t a c u && ckE t b c v
  | .ret e, .Return (some x) _ => ckE t e c x
  | .retN, .Return none _ => true
  | .ite e a b, .If x xs ys _ => ckE t e c x && ckSs t c a xs && ckSs t c b ys
  | .for_ p k src b, .For tg x xs [] _ => noSet x && ckP c p tg && ckI t k src c tg x && ckSs t c b xs
  | .whl e b, .While x xs [] _ => ckE t e c x && ckSs t c b xs
  | .brk, .Break _ => true
  | .pass, .Pass _ => true
  | .raise _ _, _ => true
  | _, _ => false
def ckSs (t : Tb) (c : Sc) : List S → List Stmt → Bool
  | [], [] => true
  | s :: ss, x :: xs => ckS t c s x && ckSs t c ss xs
  | _, _ => false
end
section
variable (Q : Pg) (cl : Nat → List Mi.W → Hm → R Mi.W)
@[simp] theorem run_exp (e) : run Q cl (.exp e) = fun σ M => (tidy M (ev Q cl e σ M)).toS σ fun _ M1 => .nx σ M1 := rfl
@[simp] theorem run_asgp (p e) : run Q cl (.asg (.pt p) e) = fun σ M => (tidy M (ev Q cl e σ M)).toS σ fun w M1 => match bindPt M1 p w σ with
    | some σ' => .nx σ' M1
    | none => .bad := rfl
@[simp] theorem run_asgi (a i e) : run Q cl (.asg (.idx a i) e) = fun σ M => (tidy M (ev Q cl e σ M)).toS σ fun w M1 => (ev Q cl a σ M1).toS σ fun x M2 => (ev Q cl i σ M2).toS σ fun b M3 => match setV x b w M3 with
    | some M4 => .nx σ M4
    | none => .bad := rfl
@[simp] theorem run_par (i j a b) : run Q cl (.par i j a b) = fun σ M => (tidy M (ev Q cl a σ M)).toS σ fun x M1 => (tidy M1 (ev Q cl b σ M1)).toS σ fun y M2 => .nx ((σ.set i (some x)).set j (some y)) M2 := rfl
@[simp] theorem run_ret (e) : run Q cl (.ret e) = fun σ M => (tidy M (ev Q cl e σ M)).toS σ fun w M1 => .rt w M1 := rfl
@[simp] theorem run_retN : run Q cl .retN = fun _ M => .rt (.p .non) M := rfl
theorem run_ite (e a b) : run Q cl (.ite e a b) = fun σ M => (tidy M (ev Q cl e σ M)).toS σ fun x M1 => match x with
    | .p (.bl true) => runs Q cl a σ M1
    | .p (.bl false) => runs Q cl b σ M1
    | _ => .bad := rfl
@[simp] theorem run_for (p k src b) : run Q cl (.for_ p k src b) = fun σ M => match evs Q cl src σ M with
    | .ok ws M1 => match itemsOf k ws M1 with
      | some its => forL p (runs Q cl b) (stays ((pinsOf ws).filter (· < (srcH M its M1).length)) (srcH M its M1)) its σ (srcH M its M1)
      | none => .bad
    | .err c fs M1 => .er c fs σ M1
    | .bad => .bad := rfl
@[simp] theorem run_whl (e b) : run Q cl (.whl e b) = fun σ M => whlL (fun σ M => tidy M (ev Q cl e σ M)) (runs Q cl b) turns σ M := rfl
@[simp] theorem run_brk : run Q cl .brk = fun σ M => .bk σ M := rfl
@[simp] theorem run_pass : run Q cl .pass = fun σ M => .nx σ M := rfl
@[simp] theorem runs_nil : runs Q cl [] = fun σ M => .nx σ M := rfl
@[simp] theorem runs_cons (s ss) : runs Q cl (s :: ss) = fun σ M => (run Q cl s σ M).seq fun σ' M' => runs Q cl ss σ' M' := rfl
end
section
variable {X : Cx} {g : G} {W : WX} {Q : Pg} {cl : Nat → List Mi.W → Hm → R Mi.W} {t : Tb} {c : Sc} (o : Ok X g W cl t c)
include o
theorem lk {x : Str} {k : NameKind} (h : (c.sc.lookup x == some k) = true) : X.env.scope.names.lookup x = some k := by rw [o.sc]; exact beq_iff_eq.mp h
theorem sw_lc {elt : Expr} {gs : List Comprehension} {scope : Scope} {pos py : Pos} {y : Str} {l : Nat} : swapsWith (.ListComp elt gs scope pos) (some (.Name y py)) l X.env = pure (lcSwap c y py pos scope) := by
  have hb : X.env.blockKind = .function := by unfold Env.blockKind; rw [o.bk]; rfl
  have ky : X.env.kindOf y = c.sc.lookup y := by rw [← o.sc]; rfl
  unfold swapsWith lcSwap
  simp only [hb, ky, Expr.pos, beq_self_eq_true, Bool.true_and]
theorem asg_ok {p : Pt} {e : E} {tg x : Expr} {pos : Pos} (h : ckAsg t c p e tg x = true) : PS X (.Assign [tg] x pos) (tS g W (run Q cl (.asg (.pt p) e))) := by
  unfold ckAsg at h
  rw [Bool.or_eq_true] at h
  rw [run_asgp]
  rcases h with h | h
  · simp only [Bool.and_eq_true, noAsgSwap, Bool.not_eq_true'] at h
    obtain ⟨⟨⟨⟨h1, h2⟩, h3⟩, h4⟩, h5⟩ := h
    exact sd_asg (okE e o x h5).pe (okP o p tg h4) (swap_no h2 _ _ _) (swst_no h3 _) (by rw [asg_cons h1]; rfl)
  · unfold ckLcA at h
    split at h
    · rename_i i own p k src cs e y py x tg it ifs scope pos
      simp only [Bool.and_eq_true] at h
      obtain ⟨⟨h0, hi⟩, hs⟩ := h
      obtain ⟨l1, l2⟩ := o.isSto hs
      cases hsw : lcSwap c y py pos scope with
      | false => exact sd_setn o.nd (o.isN hi) l1 (okE _ o _ h0).pe (by rw [sw_lc o, hsw]) l2
      | true =>
        have hl : X.env.scope.names.lookup y = some .local := by
          unfold lcSwap at hsw
          simp only [Bool.and_eq_true] at hsw
          rw [o.sc]
          exact beq_iff_eq.mp hsw.1.1
        simp only [ckE, Bool.and_eq_true, decide_eq_true_eq, List.all_eq_true] at h0
        obtain ⟨⟨⟨⟨⟨⟨⟨h1, h2⟩, h3⟩, h4⟩, h5⟩, h6⟩, h7⟩, h8⟩ := h0
        have B := blk_ok o h2
        rw [ev_lc, ← own_snd c own]
        refine sd_setLc o.calm o.nd (o.isN hi) hl (by rw [sw_lc o, hsw]) (okI k src o tg it h5) B (fun s H C cc fp => okP (o.blk s H scope C cc fp B.kind) p tg h3) (fun s H C cc fp => ?_) (fun s H C cc fp => (okE e (o.blk s H scope C cc fp B.kind) x h8).pe) (set_no h1 _) fun i hi => by rw [own_snd]; simpa using h4 i hi
        match cs, ifs, h6, h7 with
        | [], [], _, _ => exact .nil
        | [c1], [y], _, h7 =>
          simp only [cks, Bool.and_eq_true] at h7
          exact .one (okE c1 (o.blk s H scope C cc fp B.kind) y h7.1.2).pt
        | _, _ :: _ :: _, h6, _ => simp at h6
        | [], [_], _, h7 => simp [cks] at h7
        | _ :: _, [], _, h7 => simp [cks] at h7
        | _ :: _ :: _, [_], _, h7 => simp [cks] at h7
    · cases h
omit o in
theorem ckS_idx {a i e : E} {x : Stmt} (h : ckS t c (.asg (.idx a i) e) x = true) : ∃ u y tp z pos, x = .Assign [.Subscript u y tp] z pos ∧ (plainIx y && ckE t a c u && ckE t i c y && ckE t e c z) = true := by
  cases x with
  | Assign ts z pos =>
    cases ts with
    | nil => exact Bool.noConfusion (show false = true from h)
    | cons y r =>
      cases y with
      | Subscript u y tp =>
        cases r with
        | cons _ _ => exact Bool.noConfusion (show false = true from h)
        | nil => exact ⟨u, y, tp, z, pos, rfl, h⟩
      | _ => cases r <;> exact Bool.noConfusion (show false = true from h)
  | _ => exact Bool.noConfusion (show false = true from h)
theorem asgi_ok {a i e : E} {x : Stmt} (h : ckS t c (.asg (.idx a i) e) x = true) : PS X x (tS g W (run Q cl (.asg (.idx a i) e))) := by
  obtain ⟨u, y, tp, z, pos, rfl, hh⟩ := ckS_idx (t := t) (c := c) h
  rw [Bool.and_eq_true, Bool.and_eq_true, Bool.and_eq_true] at hh
  obtain ⟨⟨⟨h1, h2⟩, h3⟩, h4⟩ := hh
  rw [run_asgi]
  refine sd_asgI o.gx o.un (okE e o z h4).pe (okE a o u h2).pe (okE i o y h3).pe (fun v => ?_) ?_ (swst_no rfl _)
  · cases y <;> first | rfl | exact Bool.noConfusion h1
  · cases z <;> rfl
mutual
theorem okS : ∀ (s : S) (x : Stmt), ckS t c s x = true → PS X x (tS g W (run Q cl s))
  | .exp e, x, h => by
    cases x with
    | Expr x p =>
      simp only [ckS, Bool.and_eq_true] at h
      rw [run_exp]
      exact sd_exp (okE e o x h.2).pe (swap_no h.1 _ _ _)
    | _ => simp [ckS] at h
  | .asg tg e, x, h => by
    cases tg with
    | pt p =>
      cases x with
      | Assign ts x pos =>
        match ts, h with
        | [y], h =>
          simp only [ckS] at h
          exact asg_ok o h
      | _ => simp [ckS] at h
    | idx a i => exact asgi_ok o h
    | _ => cases x <;> simp [ckS] at h
  | .par i j a b, x, h => by
    cases x with
    | Assign ts x pos =>
      match ts, x, h with
      | [.Tuple [.Name x px, .Name y py] kt pt], .Tuple [u, v] k2 pt2, h =>
        simp only [ckS, Bool.and_eq_true, Bool.not_eq_true'] at h
        obtain ⟨⟨⟨⟨⟨⟨⟨⟨⟨⟨⟨⟨⟨h0, h1⟩, h2⟩, h3⟩, h4⟩, h5⟩, h6⟩, h7⟩, h8⟩, h9⟩, ha⟩, hb⟩, hc⟩, hd⟩ := h
        rw [run_par]
        exact sd_par o.calm o.nd (o.isN h1) (o.isN h2) (by simpa using h3) (lk o h4) (lk o h5) (okE a o u hc).pe (okE b o v hd).pe (star_cons h8 _ _) (star_cons h9 _ _) (sw_par o.bk (lk o h4) (lk o h5) h6 h7 h8 h9 ha hb)
    | _ => simp [ckS] at h
  | .ret e, x, h => by
    cases x with
    | Return x p =>
      cases x with
      | some x =>
        simp only [ckS] at h
        rw [run_ret]
        exact sd_ret (okE e o x h).pe
      | none => simp [ckS] at h
    | _ => simp [ckS] at h
  | .retN, x, h => by
    cases x with
    | Return x p =>
      cases x with
      | some x => simp [ckS] at h
      | none =>
        rw [run_retN]
        exact sd_retN
    | _ => simp [ckS] at h
  | .ite e a b, x, h => by
    cases x with
    | If x xs ys p =>
      simp only [ckS, Bool.and_eq_true] at h
      rw [run_ite]
      exact sd_if (okE e o x h.1.1).pt (okSs a xs h.1.2) (okSs b ys h.2)
    | _ => simp [ckS] at h
  | .for_ p k src b, x, h => by
    cases x with
    | For tg x xs ys pos =>
      cases ys with
      | nil =>
        simp only [ckS, Bool.and_eq_true] at h
        obtain ⟨⟨⟨h1, h2⟩, h3⟩, h4⟩ := h
        rw [run_for]
        exact sd_for o.pass o.calm (okI k src o tg x h3) (okP o p tg h2) (okSs b xs h4) (set_no h1 _)
      | cons _ _ => simp [ckS] at h
    | _ => simp [ckS] at h
  | .whl e b, x, h => by
    cases x with
    | While x xs ys pos =>
      cases ys with
      | nil =>
        simp only [ckS, Bool.and_eq_true] at h
        rw [run_whl]
        exact sd_whl o.pass (okE e o x h.1).pt (okSs b xs h.2) turns
      | cons _ _ => simp [ckS] at h
    | _ => simp [ckS] at h
  | .brk, x, h => by
    cases x with
    | Break p => rw [run_brk]; exact sd_brk
    | _ => simp [ckS] at h
  | .pass, x, h => by
    cases x with
    | Pass p => rw [run_pass]; exact sd_pass
    | _ => simp [ckS] at h
  | .raise .., x, h => ⟨fun pins s σ H D I ⟨ρ, M, env, _, _, q⟩ => q.elim⟩
  | .try_ .., x, h => by cases x <;> simp [ckS] at h
theorem okSs : ∀ (ss : List S) (xs : List Stmt), ckSs t c ss xs = true → PSs X xs (tS g W (runs Q cl ss))
  | [], [], _ => by rw [runs_nil]; exact sd_nilS
  | [], _ :: _, h => by simp [ckSs] at h
  | _ :: _, [], h => by simp [ckSs] at h
  | s :: ss, x :: xs, h => by
    simp only [ckSs, Bool.and_eq_true] at h
    rw [runs_cons]
    exact sd_consS (okS s x h.1) (okSs ss xs h.2)
end
end
end Mi

namespace Mi
open PySem PySem.Spec PyProof.Rows L2

structure Dd where
  x : Str
  qual : Str
  st : Stmt
  N : List Str
  ps : List Str
def ckSc (N P : List Str) (sc : Scope) : Bool :=
  sc.kind == .function && !sc.isCoroutine && !sc.isGenerator && decide N.Nodup && decide (N.take P.length = P) && (P.all fun x => sc.names.lookup x == some .local || sc.names.lookup x == some .cell) && (sc.names.all fun y => y.2 != .free)
theorem sc_ok {N P : List Str} {sc : Scope} (h : ckSc N P sc = true) : FnScope N P sc := by
  unfold ckSc at h
  simp only [Bool.and_eq_true, Bool.not_eq_true', decide_eq_true_eq, beq_iff_eq, List.all_eq_true, Bool.or_eq_true, bne_iff_ne] at h
  obtain ⟨⟨⟨⟨⟨⟨h1, h2⟩, h3⟩, h4⟩, h5⟩, h6⟩, h7⟩ := h
  exact ⟨h1, h2, h3, h4, h5, h6, h7⟩
def ckDf (t : Tb) (d : Df) (dd : Dd) : Bool :=
  d.size == dd.N.length && d.ar == dd.ps.length && ckSc dd.N dd.ps (defScope dd.st) && ckSs t ⟨dd.N, (defScope dd.st).names, true⟩ d.body (defBody dd.st)
structure HasDef (K : PySem.W.Frag) (mg : Str → Option Value) (dd : Dd) : Prop where
  ex : ∃ fa fd, mg dd.x = some (.ref fa) ∧ Fun K dd.x dd.qual dd.st fa fd ∧ ∀ us : List Value, us.length = dd.ps.length → bindArgs fd ⟨us, []⟩ = pure (dd.ps.zip us)
section
variable {P : Program} {w : World} {K : PySem.W.Frag} {mg : Str → Option Value} {base : Heap} {g : G} {Q : Pg} {t : Tb} {ds : List Dd}
structure Top (K : PySem.W.Frag) (mg : Str → Option Value) (g : G) (Q : Pg) (t : Tb) (ds : List Dd) : Prop where
  fns : t.fns = ds.map (·.x)
  len : Q.defs.length = ds.length
  has : ∀ dd ∈ ds, HasDef K mg dd
  ck : ∀ (f : Nat) (d : Df) (dd : Dd), Q.defs[f]? = some d → ds[f]? = some dd → ckDf t d dd = true
  bl : ∀ x ∈ t.blt, mg x = none
  cs : ∀ x k, (x, k) ∈ t.cst → ∃ u v, mg x = some u ∧ L2.RelV v u ∧ ∀ H, RelP g.K H k v
theorem callN_len {n f : Nat} {d : Df} (hd : Q.defs[f]? = some d) : ∀ ws M, callN Q n f ws M = .bad ∨ ws.length = d.ar := by
  intro ws M
  cases n with
  | zero => exact .inl rfl
  | succ n =>
    simp only [callN, hd]
    by_cases h : ws.length = d.ar
    · exact .inr h
    · rw [if_neg h]; exact .inl rfl
theorem relEn_start {ρ : List Addr} {H : Hp} {d : Df} {N : List Str} {ws : List Mi.W} {vs : List V} (hs : d.size = N.length) (r : RelWs K ρ H ws vs) : RelEn K ρ H (startE d ws) (start N vs) := by
  have hl := relWs_len r
  refine ⟨by simp [startE, L2.start, hs, hl], fun i u e => ?_⟩
  unfold startE at e
  by_cases hi : i < ws.length
  · rw [List.getElem?_append_left (by simpa using hi), List.getElem?_map] at e
    cases e2 : ws[i]? with
    | none => rw [e2] at e; cases e
    | some u' =>
      rw [e2] at e
      cases e
      obtain ⟨v, h1, h2⟩ := relWs_get r e2
      refine ⟨v, ?_, h2⟩
      unfold L2.start
      rw [List.getElem?_append_left (by rw [List.length_map, ← hl]; exact hi), List.getElem?_map, h1]
      rfl
  · rw [List.getElem?_append_right (by simpa using hi), List.getElem?_replicate] at e
    split at e <;> cases e
theorem fin_post {W : WX} {E : XK} {ρ : List Addr} {H : Hp} {M : Hm} {r : RS} {Q' : VK} (s : Sim g ρ M H) (h : PostE g (fun c d _ H => E c d H) [] ρ H (tidy M r.fin) (relW g) Q') : PostS g (fun c d _ H => E c d H) ρ H r { nx := fun _ H' => Q' .non H', rt := Q' } := by
  have h' := post_tidy s h
  cases r with
  | nx env M1 => exact fun ρ' H' σ t s _ => h' ρ' H' .non t s (by simp [RelW, RelP])
  | rt w M1 => exact h'
  | bk env M1 => exact h'.elim
  | er c fs env M1 => exact fun ρ' H' σ d t s _ x => h' ρ' H' d t s x
  | bad => exact h'.elim
theorem fn_ok (T : Top K mg g Q t ds) (hK : g.K = K) (hP : g.P = P) (hw : g.w = w) : ∀ (n f : Nat) (d : Df) (dd : Dd), Q.defs[f]? = some d → ds[f]? = some dd → ∀ fa fd, mg dd.x = some (.ref fa) → Fun K dd.x dd.qual dd.st fa fd → FnOk P w K mg base (L2.CX P w) n fa fd dd.ps (spOf g (callN Q n f) dd.ps.length) := by
  intro n
  induction n with
  | zero =>
    intro f d dd hd hdd fa fd hm F
    refine ⟨fun vs H Q' E ⟨ρ, M, ws, s, r, l, q⟩ => by rw [← relWs_len r, l], fun A outer s H args us vs Q' E _ _ _ _ ⟨ρ, M, ws, _, _, _, q⟩ => ?_⟩
    exact q.elim
  | succ n ih =>
    intro f d dd hd hdd fa fd hm F
    have hc := T.ck f d dd hd hdd
    unfold ckDf at hc
    simp only [Bool.and_eq_true, beq_iff_eq] at hc
    obtain ⟨⟨⟨c1, c2⟩, c3⟩, c4⟩ := hc
    have S := sc_ok c3
    refine F.okX S (fun vs H Q' E ⟨ρ, M, ws, s, r, l, q⟩ => by rw [← relWs_len r, l]) fun cdv A outer s H vs Q' E hr ⟨ρ, M, ws, sm, r, l, q⟩ => ?_
    simp only [callN, hd] at q
    rw [if_pos (by rw [l, c2])] at q
    have o : Ok (cxOf (L2.CX P w) P w K mg base dd.N dd.qual (defScope dd.st) fa cdv A outer s H E) g (fun c d _ H => E c d H) (callN Q n) t ⟨dd.N, (defScope dd.st).names, true⟩ :=
      { gx := ⟨hK, hP, hw⟩
        N := rfl
        nd := S.nd
        sc := rfl
        calm := rfl
        un := by have := hr.un; show (A.deeper (envOfC dd.qual (defScope dd.st) s.heap.objs.size fa cdv)).units + 200 < _; omega
        fn := fun _ _ => rfl
        bk := S.kind
        pass := passes_of rfl
        tk := takes_of rfl rfl rfl rfl
        bl := T.bl
        cs := T.cs
        fs := fun f' x hx hne => by
          rw [T.fns, List.getElem?_map] at hx
          cases e : ds[f']? with
          | none => rw [e] at hx; cases hx
          | some dd' =>
            rw [e] at hx
            cases hx
            obtain ⟨fa', fd', m', F', b'⟩ := (T.has dd' (List.mem_of_getElem? e)).ex
            have hlt : f' < Q.defs.length := by rw [T.len]; exact (List.getElem?_eq_some_iff.mp e).1
            obtain ⟨d', hd'⟩ : ∃ d', Q.defs[f']? = some d' := ⟨_, List.getElem?_eq_getElem hlt⟩
            have hc' := T.ck f' d' dd' hd' e
            unfold ckDf at hc'
            simp only [Bool.and_eq_true, beq_iff_eq] at hc'
            refine ⟨fa', fd', dd'.ps, n, m', F'.kp, .all b', ih f' d' dd' hd' e fa' fd' m' F', hr, ?_⟩
            rw [← hc'.1.1.2]
            exact callN_len hd' }
    refine ⟨tS g (fun c d _ H => E c d H) (runs Q (callN Q n) d.body), okSs o _ _ c4, ρ, M, startE d ws, ?_, sm, fin_post (W := fun c d _ H => E c d H) sm q⟩
    exact relEn_start c1 r

def spLaw (K : PySem.W.Frag) : Sp := fun vs H Q _ => ∃ (a : Addr) (ns : List Int), vs = [.ref a] ∧ SqL K H a (ns.map V.int) ∧ Only H ∧ ns.length ≤ 63 ∧ (∀ z ∈ ns, Builtin.Int.intBits z ≤ 1048576) ∧ ∀ H', Q (.bl true) H'
abbrev script (ns : List Int) : Mi.W := .fl (ns.map .int)
theorem relPs_ints {H : Hp} : ∀ ns : List Int, RelPs K H (ns.map .int) (ns.map V.int)
  | [] => by simp [RelPs]
  | i :: ns => by
    simp only [List.map_cons, RelPs]
    exact ⟨.int i, ns.map V.int, rfl, by simp [RelP], relPs_ints ns⟩
theorem law_imp (hK : g.K = K) {f : List Mi.W → Hm → R Mi.W} (hlaw : ∀ ns : List Int, ns.length ≤ 63 → (∀ z ∈ ns, Builtin.Int.intBits z ≤ 1048576) → ∃ M, f [script ns] [] = .ok (.p (.bl true)) M) :
    ∀ vs H Q E, spLaw K vs H Q E → spOf g f 1 vs H Q E := by
  rintro vs H Q' E ⟨a, ns, rfl, hS, ho, h1, h2, q⟩
  obtain ⟨M, e⟩ := hlaw ns h1 h2
  have hk : (∃ o, H a = some (.frz o (.lst (ns.map V.int)))) ∨ KL g.K a (ns.map V.int) := by
    rw [hK]
    rcases hS with (hS | hS) | hS
    · rcases ho a with z | ⟨o, xs, z⟩
      · rw [z] at hS; cases hS
      · rw [z] at hS; cases hS
    · exact .inl hS
    · exact .inr hS
  refine ⟨[], [], [script ns], ⟨rfl, fun i j b hi hj => by simp at hi, fun i o hi => by simp at hi⟩, ?_, rfl, ?_⟩
  · simp only [RelWs, RelW]
    exact ⟨.ref a, [], rfl, ⟨a, ns.map V.int, rfl, hk, relPs_ints ns⟩, rfl⟩
  · rw [e]
    intro ρ' H' v _ _ r
    have r' : RelW g.K ρ' H' (.p (.bl true)) v := r
    simp only [RelW, RelP] at r'
    rw [r']
    exact q H'
theorem has_mk {h : Heap} {dd : Dd} {f : Addr} {oc : Value} {od an : Option Addr} {osl : Array (Option Value)} {kV doc pm cdv ct : Value} (X : K.In h) (G : h.Ns mainGlobals mg) (a : PySem.W.nsIn K mainGlobals dd.x = some (some (.ref f)))
    (l : K.lookup f = some ⟨oc, od, .func (PySem.W.fnOf dd.x dd.qual (defArgs dd.st) (defBody dd.st) (defScope dd.st) .none kV doc pm an cdv ct), osl⟩) (c : PySem.W.codeIn K cdv dd.qual = true) (k : PySem.W.keepIn K (.ref f) = true)
    (b : ∀ us : List Value, us.length = dd.ps.length → bindArgs (PySem.W.fnOf dd.x dd.qual (defArgs dd.st) (defBody dd.st) (defScope dd.st) .none kV doc pm an cdv ct) ⟨us, []⟩ = pure (dd.ps.zip us)) : HasDef K mg dd :=
  ⟨f, _, PySem.W.mg_of X G a, fun_mk l c k, b⟩
theorem has_then {goal : Prop} {h : Heap} {dd : Dd} {f : Addr} {oc : Value} {od an : Option Addr} {osl : Array (Option Value)} {kV doc pm cdv ct : Value} (X : K.In h) (G : h.Ns mainGlobals mg) (a : PySem.W.nsIn K mainGlobals dd.x = some (some (.ref f)))
    (l : K.lookup f = some ⟨oc, od, .func (PySem.W.fnOf dd.x dd.qual (defArgs dd.st) (defBody dd.st) (defScope dd.st) .none kV doc pm an cdv ct), osl⟩) (c : PySem.W.codeIn K cdv dd.qual = true) (k : PySem.W.keepIn K (.ref f) = true)
    (b : ∀ us : List Value, us.length = dd.ps.length → bindArgs (PySem.W.fnOf dd.x dd.qual (defArgs dd.st) (defBody dd.st) (defScope dd.st) .none kV doc pm an cdv ct) ⟨us, []⟩ = pure (dd.ps.zip us)) (next : HasDef K mg dd → goal) : goal :=
  next (has_mk X G a l c k b)
theorem none_then {goal : Prop} {h : Heap} {x : Str} (X : K.In h) (G : h.Ns mainGlobals mg) (a : PySem.W.nsIn K mainGlobals x = some none) (next : mg x = none → goal) : goal := next (PySem.W.mg_none_of X G a)
theorem cst_then {goal : Prop} {h : Heap} {x : Str} {u : Value} (X : K.In h) (G : h.Ns mainGlobals mg) (a : PySem.W.nsIn K mainGlobals x = some (some u)) (next : mg x = some u → goal) : goal := next (PySem.W.mg_of X G a)
theorem cs_int {K' : PySem.W.Frag} {x : Str} {i : Int} {t : Tok} (h : mg x = some (.int i t)) : ∃ u v, mg x = some u ∧ L2.RelV v u ∧ ∀ H, RelP K' H (.int i) v := ⟨_, .int i, h, ⟨t, rfl⟩, fun _ => by simp [RelP]⟩
theorem cs_str {K' : PySem.W.Frag} {x : Str} {i : Str} {t : Tok} (h : mg x = some (.str i t)) : ∃ u v, mg x = some u ∧ L2.RelV v u ∧ ∀ H, RelP K' H (.str i) v := ⟨_, .str i, h, ⟨t, rfl⟩, fun _ => by simp [RelP]⟩
theorem ck_all (h : ((Q.defs.zip ds).all fun p => ckDf t p.1 p.2) = true) : ∀ (f : Nat) (d : Df) (dd : Dd), Q.defs[f]? = some d → ds[f]? = some dd → ckDf t d dd = true := fun f d dd h1 h2 => by
  rw [List.all_eq_true] at h
  have : (Q.defs.zip ds)[f]? = some (d, dd) := by rw [List.getElem?_zip_eq_some]; exact ⟨h1, h2⟩
  exact h (d, dd) (List.mem_of_getElem? this)
theorem law_fn (T : Top K mg g Q t ds) (hK : g.K = K) (hP : g.P = P) (hw : g.w = w) {n f : Nat} {d : Df} {dd : Dd} (hd : Q.defs[f]? = some d) (hdd : ds[f]? = some dd) (hx : dd.x = "law") {x : Str} (hps : dd.ps = [x])
    (hlaw : ∀ ns : List Int, ns.length ≤ 63 → (∀ z ∈ ns, Builtin.Int.intBits z ≤ 1048576) → ∃ M, callN Q n f [script ns] [] = .ok (.p (.bl true)) M) {fa : Addr} (hmg : mg "law" = some (.ref fa)) :
    ∃ fd : FuncData, (∀ (s : Shared) (u : Value), BindsTo s fd ⟨[u], []⟩ [(x, u)]) ∧ ∀ base : Heap, K.In base → base.Ns mainGlobals mg → FnOk P w K mg base (L2.CX P w) n fa fd [x] (spLaw K) := by
  obtain ⟨fa', fd, m, F, b⟩ := (T.has dd (List.mem_of_getElem? hdd)).ex
  rw [hx, hmg] at m
  cases m
  refine ⟨fd, fun s u => .of_eq (by have := b [u] (by rw [hps]; rfl); rw [hps] at this; exact this), fun base _ _ => ?_⟩
  have := fn_ok (base := base) T hK hP hw n f d dd hd hdd fa fd (by rw [hx]; exact hmg) F
  rw [hps] at this
  exact this.imp (law_imp hK hlaw)
end
theorem walk_mi {l : PySem.W.OpenLaw} {k : Nat} {x : Str} {q : Program} {loose : List Str} {XP : (Str → Option Value) → Heap → Prop} {YP : World → Heap → Prop} {d : DefRec} {K : Params → PySem.W.Frag} (hn : l.most = some 63) (hdf : d.params.defaults = [])
    (hr : Room k callerA) (hY : ∀ (w : World) (h : Heap), YP w h → (K w.params).In h)
    (F : ∀ (w : World) (mg : Str → Option Value) (fa : Addr) (h : Heap), (K w.params).In h → h.Ns mainGlobals mg → mg d.name = some (.ref fa) →
      ∃ fd : FuncData, (∀ (s : Shared) (u : Value), BindsTo s fd ⟨[u], []⟩ [(x, u)]) ∧ ∀ base : Heap, (K w.params).In base → base.Ns mainGlobals mg → FnOk l.prog w (K w.params) mg base (L2.CX l.prog w) k fa fd [x] (spLaw (K w.params))) :
    PySem.W.WalkO q loose XP YP l.row.toRowW d [] (fun f vs => PySem.call f vs) :=
  L2.walk_ofB (n := 63) (k := k) (x := x) (CX := fun w => L2.CX l.prog w) (sp := fun w => spLaw (K w.params)) hn (by decide) hdf hr hY F (fun _ H a ns hl hb ho hS => ⟨a, ns, rfl, hS, ho, hl, hb, fun _ => rfl⟩) fun _ _ _ _ _ z => by
    obtain ⟨_, _, _, _, _, _, _, _, _, _, _, _, z⟩ := z
    exact z
end Mi

namespace Mi
open PySem

@[simp] theorem tidy_pp (M : Hm) (x : P) : tidy M (.ok (.p x) M) = .ok (.p x) M := by simp [tidy]
@[simp] theorem tidy_pa (M L : Hm) (x : P) : tidy M (.ok (.p x) (M ++ L)) = .ok (.p x) M := by simp [tidy]
@[simp] theorem tidy_rr (M : Hm) (k : Nat) : tidy M (.ok (.ref k) M) = .ok (.ref k) M := by
  simp only [tidy, List.take_length]
  rw [if_pos trivial]
  split
  · rfl
  · split
    · rename_i h1 _ e
      have := (List.getElem?_eq_some_iff.mp e).1
      omega
    · rfl
theorem tidy_new (M : Hm) (xs : List W) : tidy M (.ok (.ref M.length) (M ++ [.lst xs])) = .ok (.ref M.length) (M ++ [.lst xs]) := by
  simp [tidy]
@[simp] theorem tidy_err (M : Hm) (c : Nat) (fs : List P) : tidy M (.err c fs M) = .err c fs M := by simp [tidy]
@[simp] theorem tidy_bad (M : Hm) : tidy M .bad = .bad := rfl
@[simp] theorem mkTup_p2 (x y : P) : mkTup [.p x, .p y] = .p (.tup [x, y]) := rfl
@[simp] theorem mkTup_p3 (x y z : P) : mkTup [.p x, .p y, .p z] = .p (.tup [x, y, z]) := rfl
@[simp] theorem mkTup_ps (xs : List P) : mkTup (xs.map .p) = .p (.tup xs) := by simp [mkTup]

mutual
theorem eqv_noB : ∀ (x y : P), P.noB x = true → P.noB y = true → PyData.eqv x.toD y.toD = decide (x = y)
  | .non, y, _, h2 => by cases y <;> simp_all [P.toD, P.noB, PyData.eqv]
  | .bl a, y, h1, h2 => by simp [P.noB] at h1
  | .int a, y, h1, h2 => by cases y <;> simp_all [P.toD, P.noB, PyData.eqv, Bool.beq_eq_decide_eq]
  | .str a, y, h1, h2 => by cases y <;> simp_all [P.toD, P.noB, PyData.eqv, Bool.beq_eq_decide_eq]
  | .tup a, y, h1, h2 => by
    cases y with
    | tup b =>
      simp only [P.noB] at h1 h2
      have := eqvs_noB a b h1 h2
      simp [P.toD, PyData.eqv, this]
    | _ => simp_all [P.toD, P.noB, PyData.eqv]
theorem eqvs_noB : ∀ (x y : List P), P.noBs x = true → P.noBs y = true → PyData.eqvAll (P.toDs x) (P.toDs y) = decide (x = y)
  | [], [], _, _ => by simp [P.toDs, PyData.eqvAll]
  | [], _ :: _, _, _ => by simp [P.toDs, PyData.eqvAll]
  | _ :: _, [], _, _ => by simp [P.toDs, PyData.eqvAll]
  | a :: s, b :: t, h1, h2 => by
    simp only [P.noBs, Bool.and_eq_true] at h1 h2
    simp [P.toDs, PyData.eqvAll, eqv_noB a b h1.1 h2.1, eqvs_noB s t h1.2 h2.2]
end

def P.good (x : P) : Bool := P.noB x && decide (x.toD.depth ≤ 100)
theorem dataOf_p {M : Hm} {x : P} (h : x.toD.depth ≤ 100) : dataOf M (.p x) = some x.toD := by
  simp only [dataOf]
  have : toD M deepest (.p x) = some x.toD := by unfold toD; rfl
  rw [this]
  simp [h]
theorem eqW_good {M : Hm} {x y : P} (h1 : P.good x = true) (h2 : P.good y = true) : eqW M (.p x) (.p y) = some (decide (x = y)) := by
  unfold P.good at h1 h2
  simp only [Bool.and_eq_true, decide_eq_true_eq] at h1 h2
  unfold eqW
  rw [dataOf_p h1.2, dataOf_p h2.2]
  simp [eqv_noB x y h1.1 h2.1]
@[simp] theorem good_int (i : Int) : P.good (.int i) = true := by simp [P.good, P.noB, P.toD, PyData.depth]
@[simp] theorem good_str (i : Str) : P.good (.str i) = true := by simp [P.good, P.noB, P.toD, PyData.depth]
@[simp] theorem good_non : P.good .non = true := by simp [P.good, P.noB, P.toD, PyData.depth]

@[simp] theorem good_tup2i (i j : Int) : P.good (.tup [.int i, .int j]) = true := by simp [P.good, P.noB, P.noBs, P.toD, P.toDs, PyData.depth, PyData.depthAll]
theorem cmp_eq {M : Hm} {x y : P} (h1 : P.good x = true) (h2 : P.good y = true) : cmpV .Eq (.p x) (.p y) M = some (decide (x = y)) := eqW_good h1 h2
theorem cmp_ne {M : Hm} {x y : P} (h1 : P.good x = true) (h2 : P.good y = true) : cmpV .NotEq (.p x) (.p y) M = some (!decide (x = y)) := by
  show (eqW M (.p x) (.p y)).map _ = _
  rw [eqW_good h1 h2]; rfl
theorem dataOf_int (M : Hm) (i : Int) : dataOf M (.p (.int i)) = some (.int i) := dataOf_p (by simp [P.toD, PyData.depth])
theorem ltW_int (M : Hm) (i j : Int) : ltW M (.p (.int i)) (.p (.int j)) = some (decide (i < j)) := by
  have e : PySem.W.alike (.int i) (.int j) = true := PySem.W.DatumOrd.alike i j
  unfold ltW
  rw [dataOf_int, dataOf_int]
  exact (if_pos e).trans (congrArg some (PySem.W.dataLt_int i j))
@[simp] theorem cmp_lt_int (M : Hm) (i j : Int) : cmpV .Lt (.p (.int i)) (.p (.int j)) M = some (decide (i < j)) := ltW_int M i j
@[simp] theorem cmp_gt_int (M : Hm) (i j : Int) : cmpV .Gt (.p (.int i)) (.p (.int j)) M = some (decide (j < i)) := ltW_int M j i
@[simp] theorem cmp_le_int (M : Hm) (i j : Int) : cmpV .LtE (.p (.int i)) (.p (.int j)) M = some (!decide (j < i)) := by
  simp only [cmpV, ltW_int, Option.map_some]
@[simp] theorem cmp_ge_int (M : Hm) (i j : Int) : cmpV .GtE (.p (.int i)) (.p (.int j)) M = some (!decide (i < j)) := by
  simp only [cmpV, ltW_int, Option.map_some]
@[simp] theorem cmp_eq_int (M : Hm) (i j : Int) : cmpV .Eq (.p (.int i)) (.p (.int j)) M = some (decide (i = j)) := by rw [cmp_eq (by simp) (by simp)]; simp
@[simp] theorem cmp_ne_int (M : Hm) (i j : Int) : cmpV .NotEq (.p (.int i)) (.p (.int j)) M = some (!decide (i = j)) := by rw [cmp_ne (by simp) (by simp)]; simp
@[simp] theorem cmp_eq_hole (M : Hm) (i j k l : Int) : cmpV .Eq (.p (.tup [.int i, .int j])) (.p (.tup [.int k, .int l])) M = some (decide (i = k ∧ j = l)) := by rw [cmp_eq (by simp) (by simp)]; simp
@[simp] theorem cmp_ne_hole (M : Hm) (i j k l : Int) : cmpV .NotEq (.p (.tup [.int i, .int j])) (.p (.tup [.int k, .int l])) M = some (!decide (i = k ∧ j = l)) := by rw [cmp_ne (by simp) (by simp)]; simp
@[simp] theorem sub_int (i j : Int) (M : Hm) : opV .sub (.p (.int i)) (.p (.int j)) M = .ok (.p (.int (i - j))) M := rfl
@[simp] theorem add_int (i j : Int) (M : Hm) : opV .add (.p (.int i)) (.p (.int j)) M = .ok (.p (.int (i + j))) M := rfl
@[simp] theorem mul_intR (i j : Int) (M : Hm) (h : (decide (-(2 ^ 64) < j) && decide (j < 2 ^ 64)) = true) : opV .mul (.p (.int i)) (.p (.int j)) M = .ok (.p (.int (i * j))) M := by
  show (if mulOk i j then _ else _) = _
  rw [if_pos (by unfold mulOk; rw [h]; simp)]
@[simp] theorem mod_int (i j : Int) (M : Hm) (h : 0 < j) : opV .mod (.p (.int i)) (.p (.int j)) M = .ok (.p (.int (i % j))) M := by
  show (if 0 < j then _ else _) = _
  rw [if_pos h]
@[simp] theorem fdiv_int (i j : Int) (M : Hm) (h : 0 < j ∧ j < 1073741824) : opV .fdiv (.p (.int i)) (.p (.int j)) M = .ok (.p (.int (i / j))) M := by
  show (if 0 < j ∧ j < 1073741824 then _ else _) = _
  rw [if_pos h]
@[simp] theorem pow_int (i j : Int) (M : Hm) (h : 0 ≤ j ∧ j ≤ 1000000 ∧ i.natAbs < 2 ^ 64) : opV .pow (.p (.int i)) (.p (.int j)) M = .ok (.p (.int (i ^ j.toNat))) M := by
  show (if _ then _ else _) = _
  rw [if_pos h]

@[simp] theorem bindPt_name (M : Hm) (i : Nat) (w : W) (σ : En) : bindPt M (.name i) w σ = some (σ.set i (some w)) := rfl
@[simp] theorem bindPt_tup (M : Hm) (ps : List Pt) (w : W) (σ : En) : bindPt M (.tup ps) w σ = match seqOf M w with
    | some ws => bindPts M ps ws σ
    | none => none := rfl
@[simp] theorem bindPts_nil (M : Hm) (σ : En) : bindPts M [] [] σ = some σ := rfl
@[simp] theorem bindPts_cons (M : Hm) (p : Pt) (ps : List Pt) (w : W) (ws : List W) (σ : En) : bindPts M (p :: ps) (w :: ws) σ = match bindPt M p w σ with
    | some σ' => bindPts M ps ws σ'
    | none => none := rfl
@[simp] theorem cmpW_def (o : CmpOp) (x y : W) (M : Hm) : cmpW o x y M = ofB (cmpV o x y M) M := rfl
@[simp] theorem ofB_some (b : Bool) (M : Hm) : ofB (some b) M = .ok (.p (.bl b)) M := rfl
@[simp] theorem ofO_some (x : P) (M : Hm) : ofO (some x) M = .ok (.p x) M := rfl
@[simp] theorem fin_nx (σ : En) (M : Hm) : RS.fin (.nx σ M) = .ok (.p .non) M := rfl
@[simp] theorem fin_rt (w : W) (M : Hm) : RS.fin (.rt w M) = .ok w M := rfl
@[simp] theorem fin_er (c : Nat) (fs : List P) (σ : En) (M : Hm) : RS.fin (.er c fs σ M) = .err c fs M := rfl
@[simp] theorem fin_bad : RS.fin .bad = .bad := rfl
@[simp] theorem newO_def (o : MO) (M : Hm) : newO o M = .ok (.ref M.length) (M ++ [o]) := rfl
@[simp] theorem isTys_nil (Q : Pg) (M : Hm) (w : W) : isTys Q M w [] = some false := rfl
@[simp] theorem isTys_cons (Q : Pg) (M : Hm) (w : W) (t : Ty) (ts : List Ty) : isTys Q M w (t :: ts) = match isTy Q M t w with
    | some true => some true
    | some false => isTys Q M w ts
    | none => none := rfl
@[simp] theorem partOf_nil : partOf [] = some none := rfl
@[simp] theorem partOf_int (i : Int) : partOf [.p (.int i)] = some (some i) := rfl
theorem andF_def (fa fb : En → Hm → R W) (env : En) (M : Hm) : andF fa fb env M = (fa env M).bnd fun x M1 => match x with
    | .p (.bl true) => fb env M1
    | .p (.bl false) => okV (.bl false) M1
    | _ => .bad := rfl
theorem orF_def (fa fb : En → Hm → R W) (env : En) (M : Hm) : orF fa fb env M = (fa env M).bnd fun x M1 => match x with
    | .p (.bl true) => okV (.bl true) M1
    | .p (.bl false) => fb env M1
    | _ => .bad := rfl
theorem chnF_def (o o' : CmpOp) (fa fb fc : En → Hm → R W) (env : En) (M : Hm) : chnF o o' fa fb fc env M = (fa env M).bnd fun x M1 => (fb env M1).bnd fun y M2 => match cmpV o x y M2 with
    | some true => (fc env M2).bnd fun z M3 => ofB (cmpV o' y z M3) M3
    | some false => okV (.bl false) M2
    | none => .bad := rfl
@[simp] theorem ev_mth' (Q : Pg) (cl : Nat → List W → Hm → R W) (m : Mt) (a : E) (es : List E) (σ : En) (M : Hm) : ev Q cl (.mth m a es) σ M = (ev Q cl a σ M).bnd fun w M1 => match rcv M1 w with
    | some T => if mthOk m T then (evs Q cl es σ M1).bnd fun ws M2 => mthV m T w ws M2 else .bad
    | none => .bad := by rw [ev_mth]; rfl
@[simp] theorem rcv_strV (M : Hm) (x : Str) : rcv M (.p (.str x)) = some .str := rfl
@[simp] theorem rcv_ref (M : Hm) (k : Nat) : rcv M (.ref k) = match M[k]? with
    | some (.lst _) => some .list
    | some (.dic _) => some .dict
    | _ => none := rfl
@[simp] theorem mthOk_append : mthOk .append .list = true := rfl
@[simp] theorem mthOk_clear : mthOk .clear .list = true := rfl
@[simp] theorem mthOk_extend : mthOk .extend .list = true := rfl
@[simp] theorem mthOk_pop : mthOk .pop .list = true := rfl
@[simp] theorem mthOk_setdefault : mthOk .setdefault .dict = true := rfl
@[simp] theorem mthOk_get : mthOk .get .dict = true := rfl
@[simp] theorem mth_setdefault (k : Nat) (y : P) (w : W) (M : Hm) : mthV .setdefault .dict (.ref k) [.p y, w] M = match M[k]? with
    | some (.dic kvs) => if dictOk kvs y = true ∧ kvs.length < big then match dget kvs y with
      | some v => .ok v M
      | none => .ok w (M.set k (.dic (dput kvs y w)))
      else .bad
    | _ => .bad := rfl
@[simp] theorem mthOk_join : mthOk .join .str = true := rfl
@[simp] theorem mthOk_upper : mthOk .upper .str = true := rfl
@[simp] theorem mth_append (k : Nat) (w : W) (M : Hm) : mthV .append .list (.ref k) [w] M = match M[k]? with
    | some (.lst xs) => if xs.length < big then .ok (.p .non) (M.set k (.lst (xs ++ [w]))) else .bad
    | _ => .bad := rfl
@[simp] theorem mth_clear (k : Nat) (M : Hm) : mthV .clear .list (.ref k) [] M = match M[k]? with
    | some (.lst _) => .ok (.p .non) (M.set k (.lst []))
    | _ => .bad := rfl
@[simp] theorem mth_join (a : Str) (w : W) (M : Hm) : mthV .join .str (.p (.str a)) [w] M = match (seqOf M w).bind strsOf with
    | some ys => if (ys.map (·.length)).sum + ys.length * a.length ≤ 16777216 then okV (.str (Txt.join a ys)) M else .bad
    | none => .bad := rfl
@[simp] theorem blt_min : bltV .min = minF := rfl
@[simp] theorem blt_max : bltV .max = maxF := rfl
@[simp] theorem blt_sorted : bltV .sorted = sortedF := rfl
@[simp] theorem blt_sum : bltV .sum = sumF := rfl
@[simp] theorem blt_all : bltV .all = allF := rfl
@[simp] theorem blt_int : bltV .int = intF := rfl
@[simp] theorem blt_str : bltV .str = strF := rfl
@[simp] theorem blt_list : bltV .list = listF := rfl
@[simp] theorem blt_tuple : bltV .tuple = tupleF := rfl
@[simp] theorem min_int2 (i j : Int) (M : Hm) : minF [.p (.int i), .p (.int j)] M = .ok (.p (.int (if j < i then j else i))) M := rfl
@[simp] theorem max_int2 (i j : Int) (M : Hm) : maxF [.p (.int i), .p (.int j)] M = .ok (.p (.int (if j > i then j else i))) M := rfl
@[simp] theorem int_int (i : Int) (M : Hm) : intF [.p (.int i)] M = .ok (.p (.int i)) M := rfl
@[simp] theorem int_bl (i : Bool) (M : Hm) : intF [.p (.bl i)] M = .ok (.p (.int (if i then 1 else 0))) M := rfl
@[simp] theorem list_ref (k : Nat) (M : Hm) : listF [.ref k] M = match M[k]? with
    | some (.lst xs) => .ok (.ref M.length) (M ++ [.lst xs])
    | _ => .bad := by
  simp only [listF, seqOf]
  cases M[k]? with
  | none => rfl
  | some o => cases o <;> rfl
@[simp] theorem list_tup (xs : List P) (M : Hm) : listF [.p (.tup xs)] M = .ok (.ref M.length) (M ++ [.lst (xs.map .p)]) := rfl
@[simp] theorem tuple_tup (xs : List P) (M : Hm) : tupleF [.p (.tup xs)] M = .ok (.p (.tup xs)) M := by simp [tupleF, seqOf]
@[simp] theorem tuple_ref (k : Nat) (M : Hm) : tupleF [.ref k] M = match M[k]? with
    | some (.lst xs) => .ok (mkTup xs) M
    | _ => .bad := by
  simp only [tupleF, seqOf]
  cases M[k]? with
  | none => rfl
  | some o => cases o <;> rfl
@[simp] theorem seqOf_tup (M : Hm) (xs : List P) : seqOf M (.p (.tup xs)) = some (xs.map .p) := rfl
@[simp] theorem seqOf_wtup (M : Hm) (xs : List W) : seqOf M (.tup xs) = some xs := rfl
theorem seqOf_lst {M : Hm} {k : Nat} {xs : List W} (h : M[k]? = some (.lst xs)) : seqOf M (.ref k) = some xs := by simp [seqOf, h]
@[simp] theorem seqOf_fl (M : Hm) (xs : List P) : seqOf M (.fl xs) = some (xs.map .p) := rfl
@[simp] theorem seqOf_ref (M : Hm) (k : Nat) : seqOf M (.ref k) = match M[k]? with
    | some (.lst xs) => some xs
    | _ => none := rfl
@[simp] theorem items_val_ref (M : Hm) (k : Nat) : itemsOf .val [.ref k] M = seqOf M (.ref k) := rfl
@[simp] theorem items_val_fl (M : Hm) (xs : List P) : itemsOf .val [.fl xs] M = some (xs.map .p) := rfl
@[simp] theorem items_val_tup (M : Hm) (xs : List P) : itemsOf .val [.p (.tup xs)] M = some (xs.map .p) := rfl
@[simp] theorem items_val_wtup (M : Hm) (xs : List W) : itemsOf .val [.tup xs] M = some xs := rfl
@[simp] theorem items_val_str (M : Hm) (x : Str) : itemsOf .val [.p (.str x)] M = if x.length ≤ big then some (signsOf x) else none := rfl
@[simp] theorem items_rng1 (M : Hm) (j : Int) : itemsOf .rng [.p (.int j)] M = if rngOk j then some (rangeL 0 j.toNat 1) else none := rfl
@[simp] theorem items_rng2 (M : Hm) (i j : Int) : itemsOf .rng [.p (.int i), .p (.int j)] M = if rngOk i && rngOk j then some (rangeL i (j - i).toNat 1) else none := rfl
@[simp] theorem items_enu (M : Hm) (w : W) : itemsOf .enu [w] M = if w.isLst then (seqOf M w).map (enumW 0) else none := rfl
@[simp] theorem isLst_ref (k : Nat) : W.isLst (.ref k) = true := rfl
@[simp] theorem isLst_fl (k : List P) : W.isLst (.fl k) = true := rfl
@[simp] theorem zipTyp_rr (a b : Nat) : zipTyp (.ref a) (.ref b) = true := rfl
@[simp] theorem zipTyp_tt (a b : List P) : zipTyp (.p (.tup a)) (.p (.tup b)) = true := rfl
@[simp] theorem items_zip (M : Hm) (a b : W) : itemsOf .zip [a, b] M = match zipTyp a b, seqOf M a, seqOf M b with
    | true, some xs, some ys => if xs.length = ys.length ∨ ((pures xs).isSome = true ∧ (pures ys).isSome = true) then some (zipW xs ys) else none
    | _, _, _ => none := rfl
@[simp] theorem items_rev (M : Hm) (w : W) : itemsOf .rev [w] M = (seqOf M w).map List.reverse := rfl
@[simp] theorem rvs_ref (k : Nat) (M : Hm) : rvsV (.ref k) M = match M[k]? with
    | some (.lst xs) => .ok (.ref M.length) (M ++ [.lst xs.reverse])
    | _ => .bad := rfl
@[simp] theorem rvs_tup (xs : List P) (M : Hm) : rvsV (.p (.tup xs)) M = .ok (.p (.tup xs.reverse)) M := by
  show R.ok (mkTup (xs.map .p).reverse) M = _
  rw [← List.map_reverse, mkTup_ps]
@[simp] theorem forL_nil (p : Pt) (f : En → Hm → RS) (ok : Hm → Bool) (σ : En) (M : Hm) : forL p f ok [] σ M = .nx σ M := rfl
@[simp] theorem forL_cons (p : Pt) (f : En → Hm → RS) (ok : Hm → Bool) (w : W) (ws : List W) (σ : En) (M : Hm) : forL p f ok (w :: ws) σ M = match bindPt M p w σ with
    | some σ' => match f σ' M with
      | .nx σ2 M2 => if ok M2 then forL p f ok ws σ2 M2 else .bad
      | .bk σ2 M2 => .nx σ2 M2
      | r => r
    | none => .bad := rfl
@[simp] theorem srcH_same (M : Hm) (its : List W) : srcH M its M = M := by unfold srcH; split <;> rfl
@[simp] theorem stays_nil (M0 : Hm) : stays [] M0 = fun _ => true := rfl
@[simp] theorem stays_same (pins : List Nat) (M : Hm) : stays pins M M = true := by simp [stays]
@[simp] theorem rngOk_lit (n : Nat) (h : n < 2 ^ 62) : rngOk (n : Int) = true := by
  simp only [rngOk, Bool.and_eq_true, decide_eq_true_eq]
  omega

@[simp] theorem isTy_non (Q : Pg) (M : Hm) (t : Ty) : isTy Q M t (.p .non) = some false := rfl
@[simp] theorem isTy_bl (Q : Pg) (M : Hm) (t : Ty) (b : Bool) : isTy Q M t (.p (.bl b)) = some (decide (t = .int ∨ t = .bool)) := rfl
@[simp] theorem isTy_int (Q : Pg) (M : Hm) (t : Ty) (b : Int) : isTy Q M t (.p (.int b)) = some (decide (t = .int)) := rfl
@[simp] theorem isTy_str (Q : Pg) (M : Hm) (t : Ty) (b : Str) : isTy Q M t (.p (.str b)) = some (decide (t = .str)) := rfl
@[simp] theorem isTy_tup (Q : Pg) (M : Hm) (t : Ty) (b : List P) : isTy Q M t (.p (.tup b)) = some (decide (t = .tuple)) := rfl
@[simp] theorem isTy_wtup (Q : Pg) (M : Hm) (t : Ty) (b : List W) : isTy Q M t (.tup b) = some (decide (t = .tuple)) := rfl
@[simp] theorem pures_mapf {α : Type} (f : α → P) : ∀ l : List α, pures (l.map fun i => .p (f i)) = some (l.map f)
  | [] => rfl
  | x :: l => by rw [List.map_cons, pures, pures_mapf f l]; rfl
@[simp] theorem add_str (x y : Str) (M : Hm) : opV .add (.p (.str x)) (.p (.str y)) M = if x.length + y.length ≤ big then .ok (.p (.str (x ++ y))) M else .bad := rfl
@[simp] theorem add_ref (a b : Nat) (M : Hm) : opV .add (.ref a) (.ref b) M = match M[a]?, M[b]? with
    | some (.lst xs), some (.lst ys) => if xs.length + ys.length ≤ big then .ok (.ref M.length) (M ++ [.lst (xs ++ ys)]) else .bad
    | _, _ => .bad := rfl
@[simp] theorem add_tup (x y : List P) (M : Hm) : opV .add (.p (.tup x)) (.p (.tup y)) M = if x.length + y.length ≤ big then .ok (.p (.tup (x ++ y))) M else .bad := by
  show (if (x.map W.p).length + (y.map W.p).length ≤ big then R.ok (mkTup (x.map W.p ++ y.map W.p)) M else .bad) = _
  rw [List.length_map, List.length_map, ← List.map_append, mkTup_ps]
@[simp] theorem mul_ref (a : Nat) (j : Int) (M : Hm) : opV .mul (.ref a) (.p (.int j)) M = match M[a]? with
    | some (.lst xs) => if j < 1000000 ∧ -1000000 < j ∧ xs.length * j.toNat ≤ big then .ok (.ref M.length) (M ++ [.lst (List.replicate j.toNat xs).flatten]) else .bad
    | _ => .bad := rfl
@[simp] theorem idx_str (x : Str) (i : Int) (M : Hm) : idxV (.p (.str x)) (.p (.int i)) M = if x.length ≤ big then ofO ((atW x.cps.toList i).map fun c => .str ⟨#[c]⟩) M else .bad := rfl
@[simp] theorem idx_ref (k : Nat) (i : Int) (M : Hm) : idxV (.ref k) (.p (.int i)) M = match M[k]? with
    | some (.lst xs) => match atW xs i with
      | some w => .ok w M
      | none => .bad
    | some (.dic kvs) => if dictOk kvs (.int i) then match dget kvs (.int i) with
        | some w => .ok w M
        | none => .bad
      else .bad
    | _ => .bad := rfl
@[simp] theorem idx_tup (xs : List P) (i : Int) (M : Hm) : idxV (.p (.tup xs)) (.p (.int i)) M = match atW xs i with
    | some x => .ok (.p x) M
    | none => .bad := by
  show (match atW (xs.map W.p) i with
    | some w => R.ok w M
    | none => .bad) = _
  unfold atW
  rw [List.length_map]
  cases Mi.placeOf xs.length i with
  | none => rfl
  | some j =>
    simp only [Option.bind_some, List.getElem?_map]
    cases xs[j]? <;> rfl
@[simp] theorem idx_wtup (xs : List W) (i : Int) (M : Hm) : idxV (.tup xs) (.p (.int i)) M = match atW xs i with
    | some x => .ok x M
    | none => .bad := rfl
@[simp] theorem slc_ref (k : Nat) (lo hi : Option Int) (M : Hm) : slcV (.ref k) lo hi M = match M[k]? with
    | some (.lst xs) => .ok (.ref M.length) (M ++ [.lst (cutL xs lo hi)])
    | _ => .bad := rfl
@[simp] theorem slc_fl (xs : List P) (lo hi : Option Int) (M : Hm) : slcV (.fl xs) lo hi M = .ok (.ref M.length) (M ++ [.lst ((cutL xs lo hi).map .p)]) := rfl
@[simp] theorem idx_fl (xs : List P) (i : Int) (M : Hm) : idxV (.fl xs) (.p (.int i)) M = match atW xs i with
    | some x => .ok (.p x) M
    | none => .bad := rfl
@[simp] theorem len_fl (x : List P) (M : Hm) : lenF [.fl x] M = .ok (.p (.int x.length)) M := rfl
@[simp] theorem isTy_fl (Q : Pg) (M : Hm) (t : Ty) (b : List P) : isTy Q M t (.fl b) = some (decide (t = .list)) := rfl
@[simp] theorem tidy_fl' (M : Hm) (xs : List P) : tidy M (.ok (.fl xs) M) = .ok (.fl xs) M := by simp [tidy]
@[simp] theorem slc_str (x : Str) (lo hi : Option Int) (M : Hm) : slcV (.p (.str x)) lo hi M = if x.length ≤ big then .ok (.p (.str ⟨(cutL x.cps.toList lo hi).toArray⟩)) M else .bad := rfl
@[simp] theorem atW_zero {α : Type} (x : α) (xs : List α) : atW (x :: xs) 0 = some x := by
  unfold atW Mi.placeOf
  simp
@[simp] theorem atW_nat {α : Type} (xs : List α) (n : Nat) : atW xs (n : Int) = xs[n]? := by
  unfold atW Mi.placeOf
  rw [if_pos (Int.natCast_nonneg n)]
  by_cases h : (n : Int) < (xs.length : Int)
  · rw [if_pos h]
    simp
  · rw [if_neg h]
    simp
    omega
@[simp] theorem blt_len : bltV .len = lenF := rfl
@[simp] theorem blt_abs : bltV .abs = absF := rfl
@[simp] theorem len_str (x : Str) (M : Hm) : lenF [.p (.str x)] M = if x.length ≤ big then .ok (.p (.int x.length)) M else .bad := by
  simp only [lenF, lenV]
  split <;> rfl
@[simp] theorem len_tup (x : List P) (M : Hm) : lenF [.p (.tup x)] M = .ok (.p (.int x.length)) M := rfl
@[simp] theorem len_wtup (x : List W) (M : Hm) : lenF [.tup x] M = .ok (.p (.int x.length)) M := rfl
@[simp] theorem len_ref (k : Nat) (M : Hm) : lenF [.ref k] M = match M[k]? with
    | some (.lst xs) => .ok (.p (.int xs.length)) M
    | some (.dic kvs) => .ok (.p (.int kvs.length)) M
    | _ => .bad := by
  simp only [lenF, lenV]
  cases M[k]? with
  | none => rfl
  | some o => cases o <;> rfl
@[simp] theorem abs_int (i : Int) (M : Hm) : absF [.p (.int i)] M = .ok (.p (.int (if i < 0 then -i else i))) M := rfl
@[simp] theorem not_add_lt (n k : Nat) : (n + k < n) = False := by
  rw [eq_iff_iff, iff_false]
  omega
theorem tidy_ex (M0 M : Hm) (x : P) : ∃ M', tidy M0 (.ok (.p x) M) = .ok (.p x) M' := by
  rw [tidy_p]
  split
  · exact ⟨_, rfl⟩
  · exact ⟨_, rfl⟩
theorem law_of {Q : Pg} {n f : Nat} {d : Df} {M0 M : Hm} {w : W} (hd : Q.defs[f]? = some d) (ha : d.ar = 1) (h : runs Q (callN Q n) d.body (startE d [w]) M0 = .rt (.p (.bl true)) M) : ∃ M', callN Q (n + 1) f [w] M0 = .ok (.p (.bl true)) M' := by
  simp only [callN, hd]
  rw [if_pos (by simp [ha]), h, fin_rt]
  exact tidy_ex _ _ _
def NxI (M : Hm) (I : En → Prop) : RS → Prop
  | .nx σ M' => M' = M ∧ I σ
  | _ => False
@[simp] theorem NxI_nx (M M' : Hm) (I : En → Prop) (σ : En) : NxI M I (.nx σ M') ↔ M' = M ∧ I σ := Iff.rfl
theorem NxI.out {M : Hm} {I : En → Prop} {r : RS} (h : NxI M I r) : ∃ σ, r = .nx σ M ∧ I σ := by
  cases r with
  | nx σ M' => obtain ⟨rfl, h⟩ := h; exact ⟨σ, rfl, h⟩
  | _ => exact h.elim
theorem forL_all {p : Pt} {f : En → Hm → RS} {ok : Hm → Bool} {M : Hm} (I : En → Prop) (hok : ok M = true) : ∀ (its : List W) (σ : En), I σ → (∀ w ∈ its, ∀ σ, I σ → ∃ σ1, bindPt M p w σ = some σ1 ∧ NxI M I (f σ1 M)) → ∃ σ', forL p f ok its σ M = .nx σ' M ∧ I σ'
  | [], σ, h0, _ => ⟨σ, rfl, h0⟩
  | w :: ws, σ, h0, hs => by
    obtain ⟨σ1, h1, h2⟩ := hs w List.mem_cons_self σ h0
    obtain ⟨σ2, h2, h3⟩ := h2.out
    obtain ⟨σ', h4, h5⟩ := forL_all I hok ws σ2 h3 fun w hw => hs w (List.mem_cons_of_mem _ hw)
    exact ⟨σ', by rw [forL_cons, h1]; simp only [h2, hok, if_true]; exact h4, h5⟩

def NxJ (I : En → Hm → Prop) : RS → Prop
  | .nx σ M' => I σ M'
  | _ => False
@[simp] theorem NxJ_nx (M' : Hm) (I : En → Hm → Prop) (σ : En) : NxJ I (.nx σ M') ↔ I σ M' := Iff.rfl
theorem NxJ.out {I : En → Hm → Prop} {r : RS} (h : NxJ I r) : ∃ σ M, r = .nx σ M ∧ I σ M := by
  cases r with
  | nx σ M' => exact ⟨σ, M', rfl, h⟩
  | _ => exact h.elim
theorem forL_inv {p : Pt} {f : En → Hm → RS} {ok : Hm → Bool} (I : List W → En → Hm → Prop) : ∀ (its : List W) (σ : En) (M : Hm), I its σ M → (∀ w ws σ M, I (w :: ws) σ M → ∃ σ1, bindPt M p w σ = some σ1 ∧ NxJ (fun σ' M' => ok M' = true ∧ I ws σ' M') (f σ1 M)) → ∃ σ' M', forL p f ok its σ M = .nx σ' M' ∧ I [] σ' M'
  | [], σ, M, h0, _ => ⟨σ, M, rfl, h0⟩
  | w :: ws, σ, M, h0, hs => by
    obtain ⟨σ1, h1, h2⟩ := hs w ws σ M h0
    obtain ⟨σ2, M2, h2, h3, h4⟩ := h2.out
    obtain ⟨σ', M', h5, h6⟩ := forL_inv I ws σ2 M2 h4 hs
    exact ⟨σ', M', by rw [forL_cons, h1]; simp only [h2, h3, if_true]; exact h5, h6⟩

theorem lcL_map {f : W → Hm → R (Option W)} {ok : Hm → Bool} {M : Hm} (g : W → W) (hok : ok M = true) : ∀ (its acc : List W), acc.length + its.length ≤ big → (∀ w ∈ its, f w M = .ok (some (g w)) M) → lcL f ok its acc M = .ok (.ref M.length) (M ++ [.lst (acc ++ its.map g)])
  | [], acc, _, _ => by simp [lcL]
  | w :: ws, acc, hl, h => by
    rw [List.length_cons] at hl
    unfold lcL
    rw [h w List.mem_cons_self]
    have hlt : acc.length < big := by omega
    simp only [hok, hlt, decide_true, Bool.and_self, if_true]
    rw [lcL_map g hok ws (acc ++ [g w]) (by rw [List.length_append, List.length_singleton]; omega) fun w' hw => h w' (List.mem_cons_of_mem _ hw)]
    simp
@[simp] theorem rangeL_zero (n : Nat) : rangeL 0 n 1 = (List.range n).map fun i : Nat => .p (.int i) := by
  unfold rangeL
  apply List.map_congr_left
  intro i _
  simp
@[simp] theorem strsOf_map {α : Type} (f : α → Str) : ∀ l : List α, strsOf (l.map fun i => .p (.str (f i))) = some (l.map f)
  | [] => rfl
  | x :: l => by rw [List.map_cons, strsOf, strsOf_map f l]; rfl
theorem join_ones {α : Type} (f : α → Nat) (l : List α) : Txt.join Str.empty (l.map fun i => (⟨#[f i]⟩ : Str)) = ⟨(l.map f).toArray⟩ := by
  unfold Txt.join Builtin.Str.glued
  have key : ∀ (l : List α) (acc : Array Nat), (l.map fun i => (⟨#[f i]⟩ : Str)).foldl (fun acc p => acc ++ Str.empty.cps ++ p.cps) acc = acc ++ (l.map f).toArray := by
    intro l
    induction l with
    | nil => intro acc; simp
    | cons x l ih =>
      intro acc
      rw [List.map_cons, List.foldl_cons, ih]
      simp [Str.empty]
  cases l with
  | nil => simp [Str.empty]
  | cons x l =>
    simp only [List.map_cons, List.drop_succ_cons, List.drop_zero, List.headD_cons]
    rw [key]
    simp
theorem in_one (M : Hm) (c : Nat) (x : Str) : cmpV .In (.p (.str ⟨#[c]⟩)) (.p (.str x)) M = some (decide (c ∈ x.cps.toList)) := by
  show some (!(Builtin.Str.occurrences x ⟨#[c]⟩ 0 x.length 1).isEmpty) = _
  rw [StrLaws.found_one]
theorem notIn_one (M : Hm) (c : Nat) (x : Str) : cmpV .NotIn (.p (.str ⟨#[c]⟩)) (.p (.str x)) M = some (!decide (c ∈ x.cps.toList)) := by
  show (some (!(Builtin.Str.occurrences x ⟨#[c]⟩ 0 x.length 1).isEmpty)).map (!·) = _
  rw [StrLaws.found_one]
  rfl
theorem is_bl (M : Hm) (a b : Bool) : cmpV .Is (.p (.bl a)) (.p (.bl b)) M = some (decide (a = b)) := by simp [cmpV, isV, W.flat]
theorem isNot_bl (M : Hm) (a b : Bool) : cmpV .IsNot (.p (.bl a)) (.p (.bl b)) M = some (!decide (a = b)) := by simp [cmpV, isV, W.flat]
theorem ne_bl (M : Hm) (a b : Bool) : cmpV .NotEq (.p (.bl a)) (.p (.bl b)) M = some (!decide (a = b)) := by
  have e : ∀ b : Bool, dataOf M (.p (.bl b)) = some (.bool b) := fun b => dataOf_p (by simp [P.toD, PyData.depth])
  simp only [cmpV, eqW, e, Option.map_some]
  cases a <;> cases b <;> rfl
theorem ev_lc_rng {Q : Pg} {cl : Nat → List W → Hm → R W} {i : Nat} {own : List Nat} {a e : E} {σ : En} {M : Hm} {j : Int} (g : Nat → P) (ha : ev Q cl a σ M = .ok (.p (.int j)) M) (h0 : 0 ≤ j) (hj : j ≤ 100000)
    (h : ∀ k : Nat, (k : Int) < j → ev Q cl e ((own.foldr (fun i s => s.set i none) σ).set i (some (.p (.int k)))) M = .ok (.p (g k)) M) :
    ev Q cl (.lc own (.name i) .rng [a] [] e) σ M = .ok (.ref M.length) (M ++ [.lst ((List.range j.toNat).map fun k => .p (g k))]) := by
  have hr : rngOk j = true := by
    simp only [rngOk, Bool.and_eq_true, decide_eq_true_eq]
    omega
  simp only [ev_lc, lcV, evs_cons, evs_nil, ha, R.bnd_ok, items_rng1, hr, if_true, List.map_nil, srcH_same]
  rw [lcL_map (fun w => match w with
    | .p (.int k) => .p (g k.toNat)
    | w => w) (by simp) _ _ (by simp [big]; omega) ?_]
  · simp only [rangeL_zero, List.map_map, List.nil_append]
    rfl
  · intro w hw
    rw [rangeL_zero] at hw
    obtain ⟨k, hk, rfl⟩ := List.mem_map.mp hw
    have := h k (by have := List.mem_range.mp hk; omega)
    simp only [lcF, bindPt_name, condF, R.bnd_ok, this, tidy_pp]
    rfl
theorem mth_join_ones {α : Type} (f : α → Nat) (l : List α) {k : Nat} {M : Hm} {a : Str} (ha : a = Str.empty) (h : M[k]? = some (.lst (l.map fun i => .p (.str ⟨#[f i]⟩)))) (hl : l.length ≤ 16777216) : mthV .join .str (.p (.str a)) [.ref k] M = .ok (.p (.str ⟨(l.map f).toArray⟩)) M := by
  subst ha
  have e1 : (l.map fun i => (⟨#[f i]⟩ : Str).length) = l.map fun _ => 1 := rfl
  have e2 : ∀ l : List α, (l.map fun _ => 1).sum = l.length := fun l => by
    induction l with
    | nil => rfl
    | cons x l ih => rw [List.map_cons, List.sum_cons, ih, List.length_cons]; omega
  simp only [mth_join, seqOf_lst h, Option.bind_some, strsOf_map (fun i => (⟨#[f i]⟩ : Str)), List.map_map, Function.comp_def, join_ones, List.length_map]
  rw [if_pos]
  rw [e1, e2]
  show _ + _ * 0 ≤ _
  omega
end Mi

namespace Mi
open PySem
def iteS (x : W) (a b : RS) : RS := match x with
  | .p (.bl true) => a
  | .p (.bl false) => b
  | _ => .bad
@[simp] theorem iteS_bl (c : Bool) (a b : RS) : iteS (.p (.bl c)) a b = if c = true then a else b := by cases c <;> rfl
@[simp] theorem run_ite' (Q : Pg) (cl : Nat → List W → Hm → R W) (e : E) (a b : List S) (σ : En) (M : Hm) : run Q cl (.ite e a b) σ M = (tidy M (ev Q cl e σ M)).toS σ fun x M1 => iteS x (runs Q cl a σ M1) (runs Q cl b σ M1) := by
  rw [run_ite]
  congr 1
theorem run_ite_def (Q : Pg) (cl : Nat → List W → Hm → R W) (e : E) (a b : List S) : run Q cl (.ite e a b) = fun σ M => (tidy M (ev Q cl e σ M)).toS σ fun x M1 => iteS x (runs Q cl a σ M1) (runs Q cl b σ M1) := by
  funext σ M
  exact run_ite' Q cl e a b σ M
def andV (x : W) (M : Hm) (r : R W) : R W := match x with
  | .p (.bl true) => r
  | .p (.bl false) => .ok (.p (.bl false)) M
  | _ => .bad
def orV (x : W) (M : Hm) (r : R W) : R W := match x with
  | .p (.bl true) => .ok (.p (.bl true)) M
  | .p (.bl false) => r
  | _ => .bad
def chnV (x : Option Bool) (M : Hm) (r : R W) : R W := match x with
  | some true => r
  | some false => .ok (.p (.bl false)) M
  | none => .bad
@[simp] theorem andV_bl (c : Bool) (M : Hm) (r : R W) : andV (.p (.bl c)) M r = if c = true then r else .ok (.p (.bl false)) M := by cases c <;> rfl
@[simp] theorem orV_bl (c : Bool) (M : Hm) (r : R W) : orV (.p (.bl c)) M r = if c = true then .ok (.p (.bl true)) M else r := by cases c <;> rfl
@[simp] theorem chnV_bl (c : Bool) (M : Hm) (r : R W) : chnV (some c) M r = if c = true then r else .ok (.p (.bl false)) M := by cases c <;> rfl
@[simp] theorem andF_to (fa fb : En → Hm → R W) (env : En) (M : Hm) : andF fa fb env M = (fa env M).bnd fun x M1 => andV x M1 (fb env M1) := rfl
@[simp] theorem orF_to (fa fb : En → Hm → R W) (env : En) (M : Hm) : orF fa fb env M = (fa env M).bnd fun x M1 => orV x M1 (fb env M1) := rfl
@[simp] theorem chnF_to (o o' : CmpOp) (fa fb fc : En → Hm → R W) (env : En) (M : Hm) : chnF o o' fa fb fc env M = (fa env M).bnd fun x M1 => (fb env M1).bnd fun y M2 => chnV (cmpV o x y M2) M2 ((fc env M2).bnd fun z M3 => ofB (cmpV o' y z M3) M3) := rfl
section
variable {p : Prop} [Decidable p]
@[simp] theorem ite_nx (σ σ' : En) (M : Hm) : (if p then RS.nx σ M else RS.nx σ' M) = RS.nx (if p then σ else σ') M := by split <;> rfl
@[simp] theorem ite_rt (w w' : W) (M : Hm) : (if p then RS.rt w M else RS.rt w' M) = RS.rt (if p then w else w') M := by split <;> rfl
@[simp] theorem ite_ok (w w' : W) (M : Hm) : (if p then (R.ok w M : R W) else R.ok w' M) = R.ok (if p then w else w') M := by split <;> rfl
@[simp] theorem ite_en (a b : Option W) (s t : List (Option W)) : (if p then a :: s else b :: t) = (if p then a else b) :: (if p then s else t) := by split <;> rfl
@[simp] theorem ite_sm (a b : W) : (if p then some a else some b) = some (if p then a else b) := by split <;> rfl
@[simp] theorem ite_wp (a b : P) : (if p then W.p a else W.p b) = W.p (if p then a else b) := by split <;> rfl
@[simp] theorem ite_int (a b : Int) : (if p then P.int a else P.int b) = P.int (if p then a else b) := by split <;> rfl
@[simp] theorem ite_bl (a b : Bool) : (if p then P.bl a else P.bl b) = P.bl (if p then a else b) := by split <;> rfl
theorem ite_tup2 (a b c d : P) : (if p then P.tup [a, b] else P.tup [c, d]) = P.tup [if p then a else c, if p then b else d] := by split <;> rfl
@[simp] theorem ite_seq (a b : RS) (k : En → Hm → RS) : RS.seq (if p then a else b) k = if p then RS.seq a k else RS.seq b k := by split <;> rfl
@[simp] theorem ite_fin (a b : RS) : RS.fin (if p then a else b) = if p then RS.fin a else RS.fin b := by split <;> rfl
@[simp] theorem ite_tidy (M : Hm) (a b : R W) : tidy M (if p then a else b) = if p then tidy M a else tidy M b := by split <;> rfl
@[simp] theorem ite_bnd {α β : Type} (a b : R α) (k : α → Hm → R β) : R.bnd (if p then a else b) k = if p then R.bnd a k else R.bnd b k := by split <;> rfl
@[simp] theorem ite_toS (σ : En) (a b : R W) (k : W → Hm → RS) : R.toS σ (if p then a else b) k = if p then R.toS σ a k else R.toS σ b k := by split <;> rfl
end
@[simp] theorem atW_lit {α : Type} (xs : List α) (n : Nat) : atW xs (no_index (@OfNat.ofNat Int n instOfNat)) = xs[n]? := atW_nat xs n
theorem atW_last {α : Type} (xs : List α) : atW xs (-1) = xs.getLast? := by
  unfold atW Mi.placeOf
  rw [if_neg (by decide)]
  cases xs with
  | nil => rfl
  | cons x xs =>
    rw [if_pos (by simp; omega)]
    simp [List.getLast?_eq_getElem?]
    rw [show (-1 + ((xs.length : Int) + 1)).toNat = xs.length by omega]
    simp
theorem tidy_at {M L : Hm} {k : Nat} {xs : List W} (hk : L[k]? = some (.lst xs)) (hp : (pures xs).isSome = true) : tidy M (.ok (.ref (M.length + k)) (M ++ L)) = .ok (.ref M.length) (M ++ [.lst xs]) := by
  have h1 : (M ++ L).take M.length = M := by simp
  have h2 : (M ++ L)[M.length + k]? = some (.lst xs) := by
    rw [List.getElem?_append_right (by omega)]
    simpa using hk
  simp only [tidy, h1, if_true, h2, hp]
  rw [if_neg (by omega)]
theorem tidy_at0 {M L : Hm} {xs : List W} (hp : (pures xs).isSome = true) : tidy M (.ok (.ref M.length) (M ++ .lst xs :: L)) = .ok (.ref M.length) (M ++ [.lst xs]) := tidy_at (k := 0) rfl hp
@[simp] theorem tidy_at0p {M L : Hm} (xs : List P) : tidy M (.ok (.ref M.length) (M ++ .lst (xs.map .p) :: L)) = .ok (.ref M.length) (M ++ [.lst (xs.map .p)]) := tidy_at0 (by rw [pures_map]; rfl)
theorem tidy_atp {M L : Hm} {k : Nat} {xs : List P} (hk : L[k]? = some (.lst (xs.map .p))) : tidy M (.ok (.ref (M.length + k)) (M ++ L)) = .ok (.ref M.length) (M ++ [.lst (xs.map .p)]) := tidy_at hk (by rw [pures_map]; rfl)
@[simp] theorem tidy_len {M M1 : Hm} {x : P} (h : M1.length = M.length) : tidy M (.ok (.p x) M1) = .ok (.p x) M1 := by
  have e : M1.take M.length = M1 := List.take_of_length_le (by omega)
  simp only [tidy, e]
  by_cases h : M1 = M
  · rw [if_pos h, h]
  · rw [if_neg h]
theorem tidy_gp (M L L' : Hm) (x : P) : tidy (M ++ L) (.ok (.p x) (M ++ L')) = if L'.take L.length = L then .ok (.p x) (M ++ L) else .ok (.p x) (M ++ L') := by
  have e : ((M ++ L').take (M ++ L).length = M ++ L) = (L'.take L.length = L) := by
    rw [List.length_append, List.take_append]
    have : M.take (M.length + L.length) = M := List.take_of_length_le (by omega)
    rw [this, show M.length + L.length - M.length = L.length by omega, List.append_cancel_left_eq]
  simp only [tidy, e]
theorem tidy_gr (M L L' : Hm) (k : Nat) : tidy (M ++ L) (.ok (.ref (M.length + k)) (M ++ L')) = if L'.take L.length = L then (if k < L.length then .ok (.ref (M.length + k)) (M ++ L) else
    match L'[k]? with
    | some (.lst xs) => if (pures xs).isSome then .ok (.ref (M.length + L.length)) (M ++ (L ++ [.lst xs])) else .ok (.ref (M.length + k)) (M ++ L')
    | _ => .ok (.ref (M.length + k)) (M ++ L')) else .ok (.ref (M.length + k)) (M ++ L') := by
  have e : ((M ++ L').take (M ++ L).length = M ++ L) = (L'.take L.length = L) := by
    rw [List.length_append, List.take_append]
    have : M.take (M.length + L.length) = M := List.take_of_length_le (by omega)
    rw [this, show M.length + L.length - M.length = L.length by omega, List.append_cancel_left_eq]
  have e2 : (M ++ L')[M.length + k]? = L'[k]? := by rw [List.getElem?_append_right (by omega)]; simp
  simp only [tidy, e, e2]
  by_cases h : L'.take L.length = L
  · rw [if_pos h, if_pos h]
    simp only [List.length_append]
    by_cases hk : k < L.length
    · rw [if_pos hk, if_pos (by omega)]
    · rw [if_neg hk, if_neg (by omega)]
      simp only [List.append_assoc] <;> (rcases L'[k]? with _ | o <;> first | rfl | (cases o <;> rfl))
  · rw [if_neg h, if_neg h]
theorem tidy_gr0 (M L' : Hm) (k : Nat) : tidy M (.ok (.ref (M.length + k)) (M ++ L')) =
    match L'[k]? with
    | some (.lst xs) => if (pures xs).isSome then .ok (.ref M.length) (M ++ [.lst xs]) else .ok (.ref (M.length + k)) (M ++ L')
    | _ => .ok (.ref (M.length + k)) (M ++ L') := by
  have := tidy_gr M [] L' k
  simpa using this
@[simp] theorem get_past (M L : Hm) : (M ++ L)[M.length]? = L[0]? := by rw [List.getElem?_append_right (Nat.le_refl _)]; simp
@[simp] theorem get_past' (M L : Hm) (k : Nat) : (M ++ L)[M.length + k]? = L[k]? := by rw [List.getElem?_append_right (by omega)]; simp
theorem get_old {M L : Hm} {k : Nat} {o : MO} (h : M[k]? = some o) : (M ++ L)[k]? = some o := by
  rw [List.getElem?_append_left (List.getElem?_eq_some_iff.mp h).1]
  exact h
@[simp] theorem set_past (M L : Hm) (o : MO) : (M ++ L).set M.length o = M ++ L.set 0 o := by rw [List.set_append_right _ _ (Nat.le_refl _)]; simp
@[simp] theorem set_past' (M L : Hm) (k : Nat) (o : MO) : (M ++ L).set (M.length + k) o = M ++ L.set k o := by rw [List.set_append_right _ _ (by omega)]; simp
@[simp] theorem len_app (M L : Hm) : (M ++ L).length = M.length + L.length := List.length_append

theorem forL_go {α : Type} {pt : Pt} {f : En → Hm → RS} {ok : Hm → Bool} (enc : α → W) (I : List α → En → Hm → Prop) : ∀ (rest done : List α) (σ : En) (M : Hm), I done σ M →
    (∀ done a rest' σ M, rest = done ++ a :: rest' ∨ True → I done σ M → ∃ σ1 σ2 M2, bindPt M pt (enc a) σ = some σ1 ∧ f σ1 M = .nx σ2 M2 ∧ ok M2 = true ∧ I (done ++ [a]) σ2 M2) →
    ∃ σ' M', forL pt f ok (rest.map enc) σ M = .nx σ' M' ∧ I (done ++ rest) σ' M'
  | [], done, σ, M, h, _ => ⟨σ, M, rfl, by simpa using h⟩
  | a :: rest, done, σ, M, h, hs => by
    obtain ⟨σ1, σ2, M2, h1, h2, h3, h4⟩ := hs done a rest σ M (.inr trivial) h
    obtain ⟨σ', M', h5, h6⟩ := forL_go enc I rest (done ++ [a]) σ2 M2 h4 fun done b rest' σ M _ h => hs done b rest' σ M (.inr trivial) h
    refine ⟨σ', M', ?_, by simpa using h6⟩
    rw [List.map_cons, forL_cons, h1]
    simp only [h2, h3, if_true]
    exact h5
theorem forL_at {α : Type} {pt : Pt} {f : En → Hm → RS} {ok : Hm → Bool} (enc : α → W) (I : List α → En → Hm → Prop) {xs : List α} : ∀ (rest done : List α) (σ : En) (M : Hm), xs = done ++ rest → I done σ M →
    (∀ done a rest' σ M, xs = done ++ a :: rest' → I done σ M → ∃ σ1 σ2 M2, bindPt M pt (enc a) σ = some σ1 ∧ f σ1 M = .nx σ2 M2 ∧ ok M2 = true ∧ I (done ++ [a]) σ2 M2) →
    ∃ σ' M', forL pt f ok (rest.map enc) σ M = .nx σ' M' ∧ I xs σ' M'
  | [], done, σ, M, e, h, _ => ⟨σ, M, rfl, by rw [e]; simpa using h⟩
  | a :: rest, done, σ, M, e, h, hs => by
    obtain ⟨σ1, σ2, M2, h1, h2, h3, h4⟩ := hs done a rest σ M e h
    obtain ⟨σ', M', h5, h6⟩ := forL_at enc I rest (done ++ [a]) σ2 M2 (by rw [e]; simp) h4 hs
    refine ⟨σ', M', ?_, h6⟩
    rw [List.map_cons, forL_cons, h1]
    simp only [h2, h3, if_true]
    exact h5
theorem forL_mem {α : Type} {pt : Pt} {f : En → Hm → RS} {ok : Hm → Bool} (enc : α → W) (I : List α → En → Hm → Prop) : ∀ (rest done : List α) (σ : En) (M : Hm), I done σ M →
    (∀ done a σ M, a ∈ rest → I done σ M → ∃ σ1 σ2 M2, bindPt M pt (enc a) σ = some σ1 ∧ f σ1 M = .nx σ2 M2 ∧ ok M2 = true ∧ I (done ++ [a]) σ2 M2) →
    ∃ σ' M', forL pt f ok (rest.map enc) σ M = .nx σ' M' ∧ I (done ++ rest) σ' M'
  | [], done, σ, M, h, _ => ⟨σ, M, rfl, by simpa using h⟩
  | a :: rest, done, σ, M, h, hs => by
    obtain ⟨σ1, σ2, M2, h1, h2, h3, h4⟩ := hs done a σ M List.mem_cons_self h
    obtain ⟨σ', M', h5, h6⟩ := forL_mem enc I rest (done ++ [a]) σ2 M2 h4 fun done b σ M hb h => hs done b σ M (List.mem_cons_of_mem _ hb) h
    refine ⟨σ', M', ?_, by simpa using h6⟩
    rw [List.map_cons, forL_cons, h1]
    simp only [h2, h3, if_true]
    exact h5
theorem forL_put {α : Type} {pt : Pt} {f : En → Hm → RS} {ok : Hm → Bool} (enc : α → W) (g : α → List W) (Good : En → Prop) {M0 : Hm} (hok : ∀ acc, ok (M0 ++ [.lst acc]) = true) :
    ∀ (xs : List α) (acc : List W) (σ : En), Good σ →
    (∀ a ∈ xs, ∀ σ acc, Good σ → acc.length < big → ∃ σ1 σ2, bindPt (M0 ++ [.lst acc]) pt (enc a) σ = some σ1 ∧ f σ1 (M0 ++ [.lst acc]) = .nx σ2 (M0 ++ [.lst (acc ++ g a)]) ∧ Good σ2) →
    (acc.length + (xs.flatMap g).length < big) →
    ∃ σ', forL pt f ok (xs.map enc) σ (M0 ++ [.lst acc]) = .nx σ' (M0 ++ [.lst (acc ++ xs.flatMap g)]) ∧ Good σ'
  | [], acc, σ, h, _, _ => ⟨σ, by simp, h⟩
  | a :: xs, acc, σ, h, hs, hl => by
    rw [List.flatMap_cons, List.length_append] at hl
    obtain ⟨σ1, σ2, h1, h2, h3⟩ := hs a List.mem_cons_self σ acc h (by omega)
    obtain ⟨σ', h4, h5⟩ := forL_put enc g Good hok xs (acc ++ g a) σ2 h3 (fun b hb => hs b (List.mem_cons_of_mem _ hb)) (by rw [List.length_append]; omega)
    refine ⟨σ', ?_, h5⟩
    rw [List.map_cons, forL_cons, h1]
    simp only [h2, hok, if_true]
    rw [h4]
    simp
theorem forL_all' {α : Type} {pt : Pt} {f : En → Hm → RS} {ok : Hm → Bool} (enc : α → W) (p : α → Bool) (w : W) (Good : En → Prop) {M : Hm} (hok : ok M = true) :
    ∀ (xs : List α) (σ : En), Good σ →
    (∀ a ∈ xs, ∀ σ, Good σ → ∃ σ1, bindPt M pt (enc a) σ = some σ1 ∧ ((p a = true ∧ ∃ σ2, f σ1 M = .nx σ2 M ∧ Good σ2) ∨ (p a = false ∧ f σ1 M = .rt w M))) →
    (xs.all p = true ∧ ∃ σ', forL pt f ok (xs.map enc) σ M = .nx σ' M ∧ Good σ') ∨ (xs.all p = false ∧ forL pt f ok (xs.map enc) σ M = .rt w M)
  | [], σ, h, _ => .inl ⟨rfl, σ, rfl, h⟩
  | a :: xs, σ, h, hs => by
    obtain ⟨σ1, h1, h2⟩ := hs a List.mem_cons_self σ h
    rw [List.map_cons, forL_cons, h1, List.all_cons]
    rcases h2 with ⟨hp, σ2, h3, h4⟩ | ⟨hp, h3⟩
    · simp only [h3, hok, if_true, hp, Bool.true_and]
      exact forL_all' enc p w Good hok xs σ2 h4 fun b hb => hs b (List.mem_cons_of_mem _ hb)
    · exact .inr ⟨by rw [hp]; rfl, by simp only [h3]⟩

theorem lcL_fm {α : Type} {f : W → Hm → R (Option W)} {ok : Hm → Bool} {M : Hm} (enc : α → W) (g : α → Option W) (hok : ok M = true) : ∀ (xs : List α) (acc : List W), acc.length + xs.length ≤ big → (∀ a ∈ xs, f (enc a) M = .ok (g a) M) →
    lcL f ok (xs.map enc) acc M = .ok (.ref M.length) (M ++ [.lst (acc ++ xs.filterMap g)])
  | [], acc, _, _ => by simp [lcL]
  | a :: xs, acc, hl, h => by
    rw [List.length_cons] at hl
    rw [List.map_cons]
    unfold lcL
    rw [h a List.mem_cons_self]
    have hlt : acc.length < big := by omega
    cases hg : g a with
    | none =>
      simp only [hok, if_true]
      rw [lcL_fm enc g hok xs acc (by omega) fun b hb => h b (List.mem_cons_of_mem _ hb), List.filterMap_cons_none hg]
    | some v =>
      simp only [hok, hlt, decide_true, Bool.and_self, if_true]
      rw [lcL_fm enc g hok xs (acc ++ [v]) (by rw [List.length_append, List.length_singleton]; omega) fun b hb => h b (List.mem_cons_of_mem _ hb), List.filterMap_cons_some hg]
      simp

theorem toD_refl : ∀ d : P, PyData.eqv d.toD d.toD = true
  | .non => by simp [P.toD, PyData.eqv]
  | .bl _ => by simp [P.toD, PyData.eqv]
  | .int _ => by simp [P.toD, PyData.eqv]
  | .str _ => by simp [P.toD, PyData.eqv]
  | .tup xs => by
    have : ∀ xs : List P, (∀ x ∈ xs, PyData.eqv x.toD x.toD = true) → PyData.eqvAll (P.toDs xs) (P.toDs xs) = true := by
      intro xs
      induction xs with
      | nil => intro _; simp [P.toDs, PyData.eqvAll]
      | cons x xs ih => intro h; simp [P.toDs, PyData.eqvAll, h x List.mem_cons_self, ih fun y hy => h y (List.mem_cons_of_mem _ hy)]
    rw [P.toD, PyData.eqv]
    exact this xs fun x _ => toD_refl x
theorem toDs_refl (xs : List P) : PyData.eqvAll (P.toDs xs) (P.toDs xs) = true := by
  have := toD_refl (.tup xs)
  rwa [P.toD, PyData.eqv] at this
theorem mapO_p (M : Hm) (n : Nat) : ∀ xs : List P, mapO (toD M n) (xs.map .p) = some (P.toDs xs)
  | [] => rfl
  | x :: xs => by
    have e : toD M n (.p x) = some x.toD := by cases n <;> rfl
    simp [mapO, e, mapO_p M n xs, P.toDs]
def P.flatD (xs : List P) : Bool := decide (PyData.depthAll (P.toDs xs) ≤ 90)
theorem dataOf_lst {M : Hm} {k : Nat} {xs : List P} (h : M[k]? = some (.lst (xs.map .p))) (hd : P.flatD xs = true) : dataOf M (.ref k) = some (.list (P.toDs xs)) := by
  have : toD M deepest (.ref k) = some (.list (P.toDs xs)) := by
    show (match M[k]? with
      | some (.lst xs) => (mapO (toD M 7) xs).map PyData.list
      | _ => none) = _
    rw [h]
    simp [mapO_p]
  simp only [dataOf, this]
  rw [if_pos]
  simp only [P.flatD, decide_eq_true_eq] at hd
  simp only [PyData.depth]
  omega
theorem eqW_lst {M : Hm} {a b : Nat} {xs ys : List P} (ha : M[a]? = some (.lst (xs.map .p))) (hb : M[b]? = some (.lst (ys.map .p))) (h1 : P.flatD xs = true) (h2 : P.flatD ys = true) : eqW M (.ref a) (.ref b) = some (PyData.eqvAll (P.toDs xs) (P.toDs ys)) := by
  unfold eqW
  rw [dataOf_lst ha h1, dataOf_lst hb h2]
  simp [PyData.eqv]
theorem eq_lst {M : Hm} {a b : Nat} {xs : List P} (ha : M[a]? = some (.lst (xs.map .p))) (hb : M[b]? = some (.lst (xs.map .p))) (h1 : P.flatD xs = true) : cmpV .Eq (.ref a) (.ref b) M = some true := by
  show eqW M (.ref a) (.ref b) = _
  rw [eqW_lst ha hb h1 h1, toDs_refl]
theorem ne_lst {M : Hm} {a b : Nat} {xs : List P} (ha : M[a]? = some (.lst (xs.map .p))) (hb : M[b]? = some (.lst (xs.map .p))) (h1 : P.flatD xs = true) : cmpV .NotEq (.ref a) (.ref b) M = some false := by
  show (eqW M (.ref a) (.ref b)).map _ = _
  rw [eqW_lst ha hb h1 h1, toDs_refl]
  rfl
theorem flatD_map {α : Type} {f : α → P} (h : ∀ a, (f a).toD.depth ≤ 90) : ∀ xs : List α, P.flatD (xs.map f) = true
  | [] => by simp [P.flatD, P.toDs, PyData.depthAll]
  | x :: xs => by
    have ih := flatD_map h xs
    simp only [P.flatD, decide_eq_true_eq] at ih ⊢
    simp only [List.map_cons, P.toDs, PyData.depthAll]
    have := h x
    omega

end Mi

namespace Mi
open PySem PySem.W
class Pd (α : Type) [DecidableEq α] extends DatumOrd α where
  enc : α → P
  encD : ∀ a, (enc a).toD = toD a
  noB : ∀ a, P.noB (enc a) = true
  tri : ∀ a b, lt a b = false → lt b a = false → a = b
  isT : Bool
  tupOf : ∀ a, (enc a).isTup = isT ∧ (enc a).isAtom = !isT
  kd : Nat
  kdep : ∀ a, (P.key (enc a)).depth ≤ kd
  scal : ∀ a, (enc a).scal = !isT
  isKey : ∀ a, isT = true → ∃ xs, enc a = .tup xs
instance : Pd Int where
  enc := .int
  encD _ := rfl
  noB _ := rfl
  tri a b h1 h2 := by
    have h1 : decide (a < b) = false := h1
    have h2 : decide (b < a) = false := h2
    simp only [decide_eq_false_iff_not] at h1 h2
    omega
  isT := false
  tupOf _ := ⟨rfl, rfl⟩
  kd := 0
  kdep _ := by simp [P.key, NestedKey.depth]
  scal _ := rfl
  isKey _ h := by cases h
theorem str_tri (a b : Str) (h1 : (DatumOrd.lt a b : Bool) = false) (h2 : DatumOrd.lt b a = false) : a = b := by
  have h1 : decide (a.cps.toList < b.cps.toList) = false := h1
  have h2 : decide (b.cps.toList < a.cps.toList) = false := h2
  simp only [decide_eq_false_iff_not] at h1 h2
  have h3 := List.not_lt.mp h1
  have h4 := List.not_lt.mp h2
  have : a.cps.toList = b.cps.toList := List.le_antisymm h4 h3
  cases a
  cases b
  congr 1
  exact Array.ext' this
instance : Pd Str where
  enc := .str
  encD _ := rfl
  noB _ := rfl
  tri := str_tri
  isT := false
  tupOf _ := ⟨rfl, rfl⟩
  kd := 0
  kdep _ := by simp [P.key, NestedKey.depth]
  scal _ := rfl
  isKey _ h := by cases h
section
variable {α β : Type} [DecidableEq α] [DecidableEq β]
theorem lt_asym [DatumOrd α] (a b : α) (h : DatumOrd.lt a b = true) : DatumOrd.lt b a = false := by
  cases h2 : (DatumOrd.lt b a : Bool) with
  | false => rfl
  | true =>
    rw [← DatumOrd.lt_eq] at h h2
    have := PyProof.Rows.lex_trans _ _ _ h h2
    rw [PyProof.Rows.lex_irrefl] at this
    cases this
theorem lt_self' [DatumOrd α] (a : α) : DatumOrd.lt a a = false := by
  rw [← DatumOrd.lt_eq]
  exact dataLt_self _
instance [Pd α] [Pd β] : Pd (α × β) where
  enc p := .tup [Pd.enc p.1, Pd.enc p.2]
  encD p := by
    show PyData.tuple [(Pd.enc p.1).toD, (Pd.enc p.2).toD] = PyData.tuple [Datum.toD p.1, Datum.toD p.2]
    rw [Pd.encD, Pd.encD]
  noB p := by simp [P.noB, P.noBs, Pd.noB]
  tri p q h1 h2 := by
    have h1 : (if p.1 = q.1 then DatumOrd.lt p.2 q.2 else DatumOrd.lt p.1 q.1) = false := h1
    have h2 : (if q.1 = p.1 then DatumOrd.lt q.2 p.2 else DatumOrd.lt q.1 p.1) = false := h2
    by_cases e : p.1 = q.1
    · rw [if_pos e] at h1
      rw [if_pos e.symm] at h2
      exact Prod.ext e (Pd.tri _ _ h1 h2)
    · rw [if_neg e] at h1
      rw [if_neg (Ne.symm e)] at h2
      exact absurd (Pd.tri _ _ h1 h2) e
  isT := true
  tupOf _ := ⟨rfl, rfl⟩
  kd := max (Pd.kd α) (Pd.kd β) + 1
  kdep p := by
    have h1 := Pd.kdep p.1
    have h2 := Pd.kdep p.2
    simp only [P.key, P.keys, NestedKey.depth, NestedKey.depthAll]
    omega
  scal _ := rfl
  isKey _ _ := ⟨_, rfl⟩
theorem enc_inj [Pd α] {a b : α} (h : Pd.enc a = Pd.enc b) : a = b := by
  have := congrArg P.toD h
  rw [Pd.encD, Pd.encD] at this
  have e2 := Datum.eqv a b
  rw [show Datum.toD a = Datum.toD b from this, Datum.eqv b b, decide_eq_true rfl] at e2
  exact of_decide_eq_true e2.symm
@[simp] theorem enc_eq [Pd α] (a b : α) : (Pd.enc a = Pd.enc b) = (a = b) := propext ⟨enc_inj, fun h => by rw [h]⟩
@[simp] theorem ltP_enc [Pd α] (a b : α) : ltP (Pd.enc a) (Pd.enc b) = DatumOrd.lt a b := by
  unfold ltP
  rw [Pd.encD, Pd.encD]
  exact DatumOrd.lt_eq a b
@[simp] theorem alikeP_enc [Pd α] (a b : α) : alikeP (Pd.enc a) (Pd.enc b) = true := by
  unfold alikeP
  rw [Pd.encD, Pd.encD, show PySem.W.alike (Datum.toD a) (Datum.toD b) = true from DatumOrd.alike a b]
  have := DatumOrd.notNone a
  rw [← show (Pd.enc a).toD = Datum.toD a from Pd.encD a] at this
  cases h : Pd.enc a with
  | non => rw [h] at this; exact absurd rfl this
  | _ => rfl
@[simp] theorem allAlike_enc [Pd α] (xs : List α) : allAlike (xs.map Pd.enc) = true := by
  simp only [allAlike, List.all_map, List.all_eq_true, Function.comp_apply]
  intro x _ y _
  exact alikeP_enc x y
@[simp] theorem sortable_enc [Pd α] (xs : List α) : sortable (xs.map Pd.enc) = true := by
  simp only [sortable, List.all_map, Bool.or_eq_true, List.all_eq_true, Function.comp_apply]
  cases h : Pd.isT α with
  | true => exact .inl fun x _ => by rw [(Pd.tupOf x).1, h]
  | false => exact .inr fun x _ => by rw [(Pd.tupOf x).2, h]; rfl
theorem enc_dep [Pd α] (a : α) (h : Datum.depth α ≤ 50) : (Pd.enc a).toD.depth ≤ 50 := by
  rw [Pd.encD]
  exact Nat.le_trans (Datum.depth_le a) h
theorem depthOk_enc [Pd α] (xs : List α) (h : Datum.depth α ≤ 50) : depthOk (xs.map Pd.enc) = true := by
  simp only [depthOk, List.all_map, List.all_eq_true, Function.comp_apply, decide_eq_true_eq]
  intro x _
  have := enc_dep x h
  omega
theorem flatD_enc [Pd α] (xs : List α) (h : Datum.depth α ≤ 50) : P.flatD (xs.map Pd.enc) = true := flatD_map (fun a => by have := enc_dep a h; omega) xs
theorem eqv_enc [Pd α] (a b : α) : PyData.eqv (Pd.enc a).toD (Pd.enc b).toD = decide (a = b) := by
  rw [Pd.encD, Pd.encD]
  exact Datum.eqv a b

def sortB [DatumOrd α] (xs : List α) : List α := xs.mergeSort fun a b => !DatumOrd.lt b a
theorem sortP_enc [Pd α] (xs : List α) : sortP (xs.map Pd.enc) = (sortB xs).map Pd.enc := by
  unfold sortP sortB
  rw [List.map_mergeSort (r := fun a b : α => !DatumOrd.lt b a) (s := fun x y => !ltP y x)]
  intro a _ b _
  rw [ltP_enc]
theorem sortB_perm [DatumOrd α] (xs : List α) : (sortB xs).Perm xs := List.mergeSort_perm _ _
theorem leB_trans [DatumOrd α] (a b c : α) (h1 : (!DatumOrd.lt b a) = true) (h2 : (!DatumOrd.lt c b) = true) : (!DatumOrd.lt c a) = true := by
  rw [← DatumOrd.lt_eq] at *
  exact le_trans' _ _ _ h1 h2
theorem leB_total [DatumOrd α] (a b : α) : ((!DatumOrd.lt b a) || (!DatumOrd.lt a b)) = true := by
  rw [← DatumOrd.lt_eq, ← DatumOrd.lt_eq]
  exact le_total' _ _
theorem sortB_pw [DatumOrd α] (xs : List α) : (sortB xs).Pairwise fun a b => DatumOrd.lt b a = false := by
  have := List.pairwise_mergeSort (le := fun a b : α => !DatumOrd.lt b a) leB_trans leB_total xs
  exact this.imp fun h => by simpa using h
theorem pw_eq [Pd α] : ∀ {xs ys : List α}, xs.Perm ys → xs.Pairwise (fun a b => DatumOrd.lt b a = false) → ys.Pairwise (fun a b => DatumOrd.lt b a = false) → xs = ys
  | [], ys, h, _, _ => by rw [List.nil_perm.mp h]
  | x :: xs, [], h, _, _ => by simp at h
  | x :: xs, y :: ys, h, h1, h2 => by
    rw [List.pairwise_cons] at h1 h2
    have e : x = y := by
      apply Classical.byContradiction
      intro hne
      have hx : x ∈ ys := by
        rcases List.mem_cons.mp (h.mem_iff.mp List.mem_cons_self) with z | z
        · exact absurd z hne
        · exact z
      have hy : y ∈ xs := by
        rcases List.mem_cons.mp (h.mem_iff.mpr (List.mem_cons_self (a := y))) with z | z
        · exact absurd z.symm hne
        · exact z
      exact hne (Pd.tri _ _ (h2.1 x hx) (h1.1 y hy))
    subst e
    rw [pw_eq h.cons_inv h1.2 h2.2]
theorem sortB_eq [Pd α] {xs ys : List α} (h : xs.Perm ys) : sortB xs = sortB ys := pw_eq ((sortB_perm xs).trans (h.trans (sortB_perm ys).symm)) (sortB_pw xs) (sortB_pw ys)
theorem sortB_id [Pd α] {xs : List α} (h : xs.Pairwise fun a b => DatumOrd.lt b a = false) : sortB xs = xs := pw_eq (sortB_perm xs) (sortB_pw xs) h
def onceB : List α → List α
  | [] => []
  | x :: xs => x :: (onceB xs).filter fun y => decide (y ≠ x)
theorem onceP_enc [Pd α] : ∀ xs : List α, onceP (xs.map Pd.enc) = (onceB xs).map Pd.enc
  | [] => rfl
  | x :: xs => by
    simp only [List.map_cons, onceP, onceB, onceP_enc xs, List.filter_map]
    congr 2
    apply List.filter_congr
    intro y _
    simp
theorem onceB_mem : ∀ {xs : List α} {x : α}, x ∈ onceB xs ↔ x ∈ xs
  | [], x => by simp [onceB]
  | y :: xs, x => by
    simp only [onceB, List.mem_cons, List.mem_filter, decide_eq_true_eq, onceB_mem (xs := xs)]
    by_cases e : x = y <;> simp [e]
theorem onceB_nodup : ∀ xs : List α, (onceB xs).Nodup
  | [] => List.nodup_nil
  | y :: xs => by
    simp only [onceB]
    exact List.nodup_cons.mpr ⟨by simp, (onceB_nodup xs).filter _⟩
theorem onceB_id : ∀ {xs : List α}, xs.Nodup → onceB xs = xs
  | [], _ => rfl
  | x :: xs, h => by
    rw [List.nodup_cons] at h
    simp only [onceB, onceB_id h.2]
    congr 1
    rw [List.filter_eq_self]
    intro y hy
    simp only [decide_eq_true_eq]
    exact fun e => h.1 (e ▸ hy)
theorem onceB_len : ∀ xs : List α, (onceB xs).length ≤ xs.length
  | [] => Nat.le_refl _
  | x :: xs => by
    simp only [onceB, List.length_cons]
    have := List.length_filter_le (fun y => decide (y ≠ x)) (onceB xs)
    have := onceB_len xs
    omega
theorem ascP_enc [Pd α] : ∀ {xs : List α}, xs.Nodup → xs.Pairwise (fun a b => DatumOrd.lt b a = false) → ascP (xs.map Pd.enc) = true
  | [], _, _ => rfl
  | x :: xs, h1, h2 => by
    rw [List.nodup_cons] at h1
    rw [List.pairwise_cons] at h2
    simp only [List.map_cons, ascP, Bool.and_eq_true, List.all_map, List.all_eq_true, Function.comp_apply, ltP_enc]
    refine ⟨fun y hy => ?_, ascP_enc h1.2 h2.2⟩
    cases h : (DatumOrd.lt x y : Bool) with
    | true => rfl
    | false => exact absurd (Pd.tri _ _ h (h2.1 y hy)) fun e => h1.1 (e ▸ hy)
def setB [DatumOrd α] (xs : List α) : List α := sortB (onceB xs)
theorem keyT_enc [Pd α] (a : α) (h1 : Pd.isT α = true) (h2 : Pd.kd α ≤ 8) : (keyT (Pd.enc a)).isSome = true := by
  obtain ⟨xs, e⟩ := Pd.isKey a h1
  have hn := Pd.noB a
  have hk := Pd.kdep a
  rw [e] at hn hk ⊢
  simp only [P.noB] at hn
  simp only [keyT]
  rw [if_pos ⟨hn, by omega⟩]
  rfl
theorem setOk_enc [Pd α] (xs : List α) (h2 : Pd.kd α ≤ 8) (hl : xs.length ≤ 300) : (((xs.map Pd.enc).all (fun x => (keyT x).isSome) && decide ((xs.map Pd.enc).length ≤ 300)) || ((xs.map Pd.enc).all P.scal && decide ((xs.map Pd.enc).length < 4000))) = true := by
  rw [List.length_map, Bool.or_eq_true, Bool.and_eq_true, Bool.and_eq_true, decide_eq_true_eq, decide_eq_true_eq, List.all_map, List.all_map, List.all_eq_true, List.all_eq_true]
  cases h : Pd.isT α with
  | true => exact .inl ⟨fun x _ => keyT_enc x h h2, hl⟩
  | false => exact .inr ⟨fun x _ => by show (Pd.enc x).scal = true; rw [Pd.scal, h]; rfl, by omega⟩
theorem sortSetV_enc [Pd α] (xs : List α) (h1 : Datum.depth α ≤ 50) (h2 : Pd.kd α ≤ 8) (hl : xs.length ≤ 300) : sortSetV (xs.map Pd.enc) = some ((setB xs).map Pd.enc) := by
  unfold sortSetV
  rw [onceP_enc, sortP_enc]
  have a1 : ascP ((sortB (onceB xs)).map Pd.enc) = true := ascP_enc ((sortB_perm _).nodup_iff.mpr (onceB_nodup xs)) (sortB_pw _)
  rw [if_pos]
  · rfl
  · simp only [a1, allAlike_enc, depthOk_enc xs h1, sortable_enc, setOk_enc xs h2 hl, Bool.and_self]
theorem lenSetV_enc [Pd α] (xs : List α) (h2 : Pd.kd α ≤ 8) (hl : xs.length ≤ 300) : lenSetV (xs.map Pd.enc) = some (onceB xs).length := by
  unfold lenSetV
  rw [if_pos (setOk_enc xs h2 hl), onceP_enc, List.length_map]
theorem sortKeysV_enc [Pd α] (xs : List α) (h1 : Datum.depth α ≤ 50) (hn : xs.Nodup) (hl : xs.length ≤ 100000) : sortKeysV (xs.map Pd.enc) = some ((sortB xs).map Pd.enc) := by
  unfold sortKeysV
  rw [sortP_enc]
  have a1 : ascP ((sortB xs).map Pd.enc) = true := ascP_enc ((sortB_perm _).nodup_iff.mpr hn) (sortB_pw _)
  rw [if_pos]
  simp only [a1, allAlike_enc, depthOk_enc xs h1, sortable_enc, List.length_map, hl, decide_true, Bool.and_self]
theorem setB_mem [DatumOrd α] {xs : List α} {x : α} : x ∈ setB xs ↔ x ∈ xs := by
  unfold setB
  rw [(sortB_perm _).mem_iff, onceB_mem]
theorem setB_nodup [DatumOrd α] (xs : List α) : (setB xs).Nodup := (sortB_perm _).nodup_iff.mpr (onceB_nodup xs)
theorem setB_pw [DatumOrd α] (xs : List α) : (setB xs).Pairwise fun a b => DatumOrd.lt b a = false := sortB_pw _
theorem setB_len [DatumOrd α] (xs : List α) : (setB xs).length ≤ xs.length := by
  unfold setB
  rw [(sortB_perm _).length_eq]
  exact onceB_len xs
theorem setB_eq [Pd α] {xs ys : List α} (h : ∀ x, x ∈ xs ↔ x ∈ ys) : setB xs = setB ys := by
  refine pw_eq ?_ (setB_pw xs) (setB_pw ys)
  refine (List.perm_ext_iff_of_nodup (setB_nodup xs) (setB_nodup ys)).mpr fun x => ?_
  rw [setB_mem, setB_mem, h]
theorem setB_id [Pd α] {xs : List α} (h1 : xs.Nodup) (h2 : xs.Pairwise fun a b => DatumOrd.lt b a = false) : setB xs = xs := by
  unfold setB
  rw [onceB_id h1, sortB_id h2]
def minB [DatumOrd α] (a b : α) : α := if DatumOrd.lt b a then b else a
def maxB [DatumOrd α] (a b : α) : α := if DatumOrd.lt a b then b else a
theorem min_enc [Pd α] (a b : α) (M : Hm) (h1 : Datum.depth α ≤ 50) : minF [.p (Pd.enc a), .p (Pd.enc b)] M = .ok (.p (Pd.enc (minB a b))) M := by
  have hc : (allAlike [Pd.enc a, Pd.enc b] && depthOk [Pd.enc a, Pd.enc b]) = true := by
    have e1 := allAlike_enc [a, b]
    have e2 := depthOk_enc [a, b] h1
    simp only [List.map_cons, List.map_nil] at e1 e2
    rw [e1, e2]
    rfl
  have hm : minP (Pd.enc a) [Pd.enc b] = Pd.enc (minB a b) := by
    simp only [minP, ltP_enc, minB]
    split <;> rfl
  have key : ∀ x y : P, (allAlike [x, y] && depthOk [x, y]) = true → (∀ i j, x = .int i → y = .int j → ltP y x = decide (j < i)) → minF [.p x, .p y] M = .ok (.p (minP x [y])) M := by
    intro x y h hi
    cases x with
    | int i =>
      cases y with
      | int j =>
        have := hi i j rfl rfl
        simp only [minF, minP, this, decide_eq_true_eq]
        split <;> rfl
      | _ => exact if_pos (e := (.bad : R W)) h
    | _ => cases y <;> exact if_pos (e := (.bad : R W)) h
  rw [key _ _ hc (fun i j e1 e2 => by rw [e1, e2]; exact dataLt_int j i), hm]
theorem max_enc [Pd α] (a b : α) (M : Hm) (h1 : Datum.depth α ≤ 50) : maxF [.p (Pd.enc a), .p (Pd.enc b)] M = .ok (.p (Pd.enc (maxB a b))) M := by
  have hc : (allAlike [Pd.enc a, Pd.enc b] && depthOk [Pd.enc a, Pd.enc b]) = true := by
    have e1 := allAlike_enc [a, b]
    have e2 := depthOk_enc [a, b] h1
    simp only [List.map_cons, List.map_nil] at e1 e2
    rw [e1, e2]
    rfl
  have hm : maxP (Pd.enc a) [Pd.enc b] = Pd.enc (maxB a b) := by
    simp only [maxP, ltP_enc, maxB]
    split <;> rfl
  have key : ∀ x y : P, (allAlike [x, y] && depthOk [x, y]) = true → (∀ i j, x = .int i → y = .int j → ltP x y = decide (i < j)) → maxF [.p x, .p y] M = .ok (.p (maxP x [y])) M := by
    intro x y h hi
    cases x with
    | int i =>
      cases y with
      | int j =>
        have := hi i j rfl rfl
        simp only [maxF, maxP, this, decide_eq_true_eq, gt_iff_lt]
        split <;> rfl
      | _ => exact if_pos (e := (.bad : R W)) h
    | _ => cases y <;> exact if_pos (e := (.bad : R W)) h
  rw [key _ _ hc (fun i j e1 e2 => by rw [e1, e2]; exact dataLt_int i j), hm]
end
end Mi

namespace Mi
open PySem PySem.W
theorem ev_lc_val {Q : Pg} {cl : Nat → List W → Hm → R W} {own : List Nat} {pt : Pt} {a e : E} {cs : List E} {σ : En} {M : Hm} {k : Nat} {α : Type} (enc : α → W) (g : α → Option W) {xs : List α} (ha : ev Q cl a σ M = .ok (.ref k) M) (hk : M[k]? = some (.lst (xs.map enc))) (hl : xs.length ≤ 100000)
    (hf : ∀ x ∈ xs, lcF pt own (cs.map fun c => ev Q cl c) (ev Q cl e) σ (enc x) M = .ok (g x) M) :
    ev Q cl (.lc own pt .val [a] cs e) σ M = .ok (.ref M.length) (M ++ [.lst (xs.filterMap g)]) := by
  have hi : itemsOf .val [.ref k] M = some (xs.map enc) := seqOf_lst hk
  simp only [ev_lc, lcV, evs_cons, evs_nil, ha, R.bnd_ok, hi, srcH_same]
  rw [lcL_fm enc g (by simp) xs [] (by simp [big]; omega) hf]
  simp
theorem ev_lc_rngf {Q : Pg} {cl : Nat → List W → Hm → R W} {own : List Nat} {pt : Pt} {a e : E} {cs : List E} {σ : En} {M : Hm} {j : Int} (g : Nat → Option W) (ha : ev Q cl a σ M = .ok (.p (.int j)) M) (h0 : 0 ≤ j) (hl : j ≤ 100000)
    (hf : ∀ x : Nat, (x : Int) < j → lcF pt own (cs.map fun c => ev Q cl c) (ev Q cl e) σ (.p (.int x)) M = .ok (g x) M) :
    ev Q cl (.lc own pt .rng [a] cs e) σ M = .ok (.ref M.length) (M ++ [.lst ((List.range j.toNat).filterMap g)]) := by
  have hr : rngOk j = true := by
    simp only [rngOk, Bool.and_eq_true, decide_eq_true_eq]
    omega
  simp only [ev_lc, lcV, evs_cons, evs_nil, ha, R.bnd_ok, items_rng1, hr, if_true, srcH_same, rangeL_zero]
  rw [lcL_fm (fun k : Nat => W.p (.int k)) g (by simp) (List.range j.toNat) [] (by simp [big]; omega) fun x hx => hf x (by have := List.mem_range.mp hx; omega)]
  simp
theorem fm_if {α : Type} (p : α → Bool) (f : α → W) : ∀ xs : List α, xs.filterMap (fun x => if p x = true then some (f x) else none) = (xs.filter p).map f
  | [] => rfl
  | x :: xs => by
    rw [List.filterMap_cons, List.filter_cons, fm_if p f xs]
    cases p x <;> simp
section
variable {α : Type} [DecidableEq α]
abbrev end_ [Pd α] (kvs : List (α × W)) : MO := .dic (kvs.map fun q => (Pd.enc q.1, q.2))
def putA (kvs : List (α × W)) (k : α) (v : W) : List (α × W) := if kvs.any (fun q => decide (q.1 = k)) then kvs.map fun q => if q.1 = k then (k, v) else q else kvs ++ [(k, v)]
def getA (kvs : List (α × W)) (k : α) : Option W := (kvs.find? fun q => decide (q.1 = k)).map (·.2)
theorem dput_enc [Pd α] (kvs : List (α × W)) (k : α) (v : W) : dput (kvs.map fun q => (Pd.enc q.1, q.2)) (Pd.enc k) v = (putA kvs k v).map fun q => (Pd.enc q.1, q.2) := by
  unfold dput putA
  have e : (kvs.map fun q => (Pd.enc q.1, q.2)).any (fun q => decide (q.1 = Pd.enc k)) = kvs.any fun q => decide (q.1 = k) := by
    rw [List.any_map]
    congr 1
    funext q
    simp
  rw [e]
  split
  · rw [List.map_map, List.map_map]
    apply List.map_congr_left
    intro q _
    by_cases h : q.1 = k <;> simp [h]
  · simp
theorem dget_enc [Pd α] (k : α) : ∀ kvs : List (α × W), dget (kvs.map fun q => (Pd.enc q.1, q.2)) (Pd.enc k) = getA kvs k
  | [] => rfl
  | q :: kvs => by
    have ih := dget_enc k kvs
    unfold dget getA at ih ⊢
    rw [List.map_cons, List.lookup_cons, List.find?_cons]
    by_cases h : q.1 = k
    · simp [h]
    · have h2 : ¬ k = q.1 := fun e => h e.symm
      have h3 : (Pd.enc k == Pd.enc q.1) = false := by
        rw [beq_eq_false_iff_ne]
        exact fun e => h2 (enc_inj e)
      simp [h, h3]
      simpa using ih
theorem dictOk_enc [Pd α] (kvs : List (α × W)) (k : α) (h1 : Pd.isT α = true) (h2 : Pd.kd α ≤ 8) : dictOk (kvs.map fun q => (Pd.enc q.1, q.2)) (Pd.enc k) = true := by
  have := keyT_enc k h1 h2
  cases kvs with
  | nil => simp [dictOk, this]
  | cons q kvs =>
    have h3 := keyT_enc q.1 h1 h2
    simp [dictOk, this, h3]
theorem notIn_dic [Pd α] {M : Hm} {d : Nat} {kvs : List (α × W)} (h : M[d]? = some (end_ kvs)) (k : α) (h1 : Pd.isT α = true) (h2 : Pd.kd α ≤ 8) : cmpV .NotIn (.p (Pd.enc k)) (.ref d) M = some (!(getA kvs k).isSome) := by
  have e : dataOf M (.ref d) = none := by
    have : toD M deepest (.ref d) = none := by
      show (match M[d]? with
        | some (.lst xs) => (mapO (toD M 7) xs).map PyData.list
        | _ => none) = _
      rw [h]
    simp only [dataOf, this]
  show (inV M (.p (Pd.enc k)) (.ref d)).map _ = _
  have : inV M (.p (Pd.enc k)) (.ref d) = some (getA kvs k).isSome := by
    unfold inV
    rw [e]
    simp only [h]
    rw [if_pos (dictOk_enc kvs k h1 h2), dget_enc]
  rw [this]
  rfl
theorem getA_put (kvs : List (α × W)) (k l : α) (v : W) : getA (putA kvs k v) l = if l = k then some v else getA kvs l := by
  unfold putA
  split
  · rename_i h
    have key : ∀ kvs : List (α × W), kvs.any (fun q => decide (q.1 = k)) = true ∨ l ≠ k → getA (kvs.map fun q => if q.1 = k then (k, v) else q) l = if l = k then some v else getA kvs l := by
      intro kvs
      induction kvs with
      | nil => intro h; rcases h with h | h <;> simp_all [getA]
      | cons q kvs ih =>
        intro h
        unfold getA at ih ⊢
        rw [List.map_cons, List.find?_cons, List.find?_cons]
        by_cases hq : q.1 = k
        · by_cases hl : l = k
          · simp [hq, hl]
          · have hl2 : ¬ k = l := fun e => hl e.symm
            have := ih (.inr hl)
            simp [hq, hl, hl2] at this ⊢
            exact this
        · by_cases hl : l = k
          · have hq2 : ¬ q.1 = l := by rw [hl]; exact hq
            have : kvs.any (fun q => decide (q.1 = k)) = true := by
              rcases h with h | h
              · simpa [hq] using h
              · exact absurd hl h
            have := ih (.inl this)
            simp [hq, hl] at this ⊢
            exact this
          · have := ih (.inr hl)
            by_cases hql : q.1 = l
            · simp [hq, hl, hql]
            · simp [hq, hl, hql] at this ⊢
              exact this
    exact key kvs (.inl h)
  · rename_i h
    have hn : ∀ q ∈ kvs, ¬ q.1 = k := fun q hq e => h (List.any_eq_true.mpr ⟨q, hq, by simp [e]⟩)
    unfold getA
    rw [List.find?_append]
    by_cases hl : l = k
    · subst hl
      have : kvs.find? (fun q => decide (q.1 = l)) = none := List.find?_eq_none.mpr fun q hq => by simpa using hn q hq
      simp [this]
    · have hl2 : ¬ k = l := fun e => hl e.symm
      simp [hl, hl2]
theorem putA_len (kvs : List (α × W)) (k : α) (v : W) : (putA kvs k v).length ≤ kvs.length + 1 := by
  unfold putA
  split <;> simp
theorem setV_enc [Pd α] {M : Hm} {d : Nat} {kvs : List (α × W)} (h : M[d]? = some (end_ kvs)) (k : α) (w : W) (h1 : Pd.isT α = true) (h2 : Pd.kd α ≤ 8) (hl : kvs.length < big) : setV (.ref d) (.p (Pd.enc k)) w M = some (M.set d (end_ (putA kvs k w))) := by
  unfold setV
  simp only [h]
  rw [if_pos ⟨dictOk_enc kvs k h1 h2, by rw [List.length_map]; exact hl⟩, dput_enc]
theorem any_enc [Pd α] (k : α) : ∀ xs : List α, (P.toDs (xs.map Pd.enc)).any (fun e => PyData.eqv e (Pd.enc k).toD) = decide (k ∈ xs)
  | [] => by simp [P.toDs]
  | x :: xs => by
    rw [List.map_cons, P.toDs, List.any_cons, any_enc k xs, eqv_enc]
    by_cases h : x = k
    · simp [h]
    · have h2 : ¬ k = x := fun e => h e.symm
      simp [h, h2]
theorem in_lst [Pd α] {M : Hm} {d : Nat} {xs : List α} (h : M[d]? = some (.lst ((xs.map Pd.enc).map .p))) (k : α) (h1 : Datum.depth α ≤ 50) : cmpV .In (.p (Pd.enc k)) (.ref d) M = some (decide (k ∈ xs)) := by
  have e := dataOf_lst h (flatD_enc xs h1)
  have e2 : dataOf M (.p (Pd.enc k)) = some (Pd.enc k).toD := dataOf_p (by have := enc_dep k h1; omega)
  show inV M (.p (Pd.enc k)) (.ref d) = _
  unfold inV
  rw [e, e2]
  simp only [any_enc]
theorem notIn_lst [Pd α] {M : Hm} {d : Nat} {xs : List α} (h : M[d]? = some (.lst ((xs.map Pd.enc).map .p))) (k : α) (h1 : Datum.depth α ≤ 50) : cmpV .NotIn (.p (Pd.enc k)) (.ref d) M = some (!decide (k ∈ xs)) := by
  have := in_lst h k h1
  show (inV M (.p (Pd.enc k)) (.ref d)).map _ = _
  have e : inV M (.p (Pd.enc k)) (.ref d) = some (decide (k ∈ xs)) := this
  rw [e]
  rfl
end
theorem toD_lst {M : Hm} {n a : Nat} {xs : List P} (h : M[a]? = some (.lst (xs.map .p))) : toD M (n + 1) (.ref a) = some (.list (P.toDs xs)) := by
  show (match M[a]? with
    | some (.lst xs) => (mapO (toD M n) xs).map PyData.list
    | _ => none) = _
  rw [h]
  simp [mapO_p]
theorem dataOf_lst2 {M : Hm} {k a b : Nat} {xs ys : List P} (hk : M[k]? = some (.lst [.ref a, .ref b])) (ha : M[a]? = some (.lst (xs.map .p))) (hb : M[b]? = some (.lst (ys.map .p))) (h1 : P.flatD xs = true) (h2 : P.flatD ys = true) : dataOf M (.ref k) = some (.list [.list (P.toDs xs), .list (P.toDs ys)]) := by
  have : toD M deepest (.ref k) = some (.list [.list (P.toDs xs), .list (P.toDs ys)]) := by
    show (match M[k]? with
      | some (.lst xs) => (mapO (toD M 7) xs).map PyData.list
      | _ => none) = _
    rw [hk]
    simp [mapO, toD_lst ha, toD_lst hb]
  simp only [dataOf, this]
  rw [if_pos]
  simp only [P.flatD, decide_eq_true_eq] at h1 h2
  simp only [PyData.depth, PyData.depthAll]
  omega
theorem eq_lst2 {M : Hm} {k a b k' a' b' : Nat} {xs ys : List P} (hk : M[k]? = some (.lst [.ref a, .ref b])) (ha : M[a]? = some (.lst (xs.map .p))) (hb : M[b]? = some (.lst (ys.map .p))) (hk' : M[k']? = some (.lst [.ref a', .ref b'])) (ha' : M[a']? = some (.lst (xs.map .p))) (hb' : M[b']? = some (.lst (ys.map .p))) (h1 : P.flatD xs = true) (h2 : P.flatD ys = true) : eqW M (.ref k) (.ref k') = some true := by
  unfold eqW
  rw [dataOf_lst2 hk ha hb h1 h2, dataOf_lst2 hk' ha' hb' h1 h2]
  simp [PyData.eqv, PyData.eqvAll, toDs_refl]
theorem ne_lst2 {M : Hm} {k a b k' a' b' : Nat} {xs ys : List P} (hk : M[k]? = some (.lst [.ref a, .ref b])) (ha : M[a]? = some (.lst (xs.map .p))) (hb : M[b]? = some (.lst (ys.map .p))) (hk' : M[k']? = some (.lst [.ref a', .ref b'])) (ha' : M[a']? = some (.lst (xs.map .p))) (hb' : M[b']? = some (.lst (ys.map .p))) (h1 : P.flatD xs = true) (h2 : P.flatD ys = true) : cmpV .NotEq (.ref k) (.ref k') M = some false := by
  show (eqW M (.ref k) (.ref k')).map _ = _
  rw [eq_lst2 hk ha hb hk' ha' hb' h1 h2]
  rfl
end Mi

namespace Vl
open PySem Mi
inductive Kd where
  | fl | lst | dic (ks : List P) | ins (c : Nat) (fs : List Str)
  deriving DecidableEq
inductive V where
  | p (x : P) | tup (xs : List V) | nd (k : Kd) (xs : List V)
abbrev V.lst (xs : List V) : V := .nd .lst xs
abbrev V.dic (ks : List P) (xs : List V) : V := .nd (.dic ks) xs
abbrev VD := V × Nat
abbrev EV := List (Option VD)
inductive RV (α : Type) where
  | ok (a : α) | err (c : Nat) (fs : List P) | bad
def RV.bnd {α β : Type} (r : RV α) (k : α → RV β) : RV β := match r with
  | .ok a => k a
  | .err c fs => .err c fs
  | .bad => .bad
@[simp] theorem RV.bnd_ok {α β : Type} (a : α) (k : α → RV β) : (RV.ok a).bnd k = k a := id rfl
@[simp] theorem RV.bnd_err {α β : Type} (c : Nat) (fs : List P) (k : α → RV β) : (RV.err c fs : RV α).bnd k = .err c fs := id rfl
@[simp] theorem RV.bnd_bad {α β : Type} (k : α → RV β) : (RV.bad : RV α).bnd k = .bad := id rfl
def ofV {α : Type} (o : Option α) : RV α := match o with
  | some a => .ok a
  | none => .bad
@[simp] theorem ofV_some {α : Type} (a : α) : ofV (some a) = .ok a := id rfl
@[simp] theorem ofV_none {α : Type} : ofV (none : Option α) = .bad := id rfl

def vpures : List V → Option (List P)
  | [] => some []
  | .p x :: ws => (vpures ws).map (x :: ·)
  | _ :: _ => none
def mkTupV (ws : List V) : V := match vpures ws with
  | some xs => .p (.tup xs)
  | none => .tup ws
def mind : List VD → Nat
  | [] => 8
  | (.p _, _) :: r => mind r
  | (_, d) :: r => min d (mind r)
mutual
def fullV : Nat → V → Bool
  | _, .p _ => true
  | d, .tup xs => fullVs d xs
  | d, .nd _ xs => decide (0 < d) && fullVs (d - 1) xs
def fullVs : Nat → List V → Bool
  | _, [] => true
  | d, v :: vs => fullV d v && fullVs d vs
end
def seqV : V → Option (List V)
  | .p (.tup xs) => some (xs.map .p)
  | .tup ws => some ws
  | .nd .fl ws => some ws
  | .nd .lst ws => some ws
  | _ => none
def tupItemsV : V → Option (List V)
  | .p (.tup xs) => some (xs.map .p)
  | .tup ws => some ws
  | _ => none
def toDV : Nat → V → Option PyData
  | _, .p x => some x.toD
  | 0, _ => none
  | n + 1, .nd .lst xs => (mapO (toDV n) xs).map .list
  | n + 1, .tup xs => (mapO (toDV n) xs).map .tuple
  | _, _ => none
def dataV (w : V) : Option PyData := match toDV deepest w with
  | some d => if d.depth ≤ 100 then some d else none
  | none => none
abbrev rP (x : P) : RV VD := .ok (.p x, 0)
def V.pure? : V → Option P
  | .p x => some x
  | _ => none
def addVV : V → V → RV VD
  | .p (.int i), .p (.int j) => rP (.int (i + j))
  | .p (.str x), .p (.str y) => if x.length + y.length ≤ big then rP (.str (x ++ y)) else .bad
  | .nd .lst xs, .nd .lst ys => if xs.length + ys.length ≤ big then .ok (.lst (xs ++ ys), 1) else .bad
  | .p (.tup xs), .p (.tup ys) => if xs.length + ys.length ≤ big then rP (.tup (xs ++ ys)) else .bad
  | _, _ => .bad
def opVV : Op → V → V → RV VD
  | .add, x, y => addVV x y
  | .sub, .p (.int i), .p (.int j) => rP (.int (i - j))
  | .mul, .p (.int i), .p (.int j) => if mulOk i j then rP (.int (i * j)) else .bad
  | .mul, .nd .lst xs, .p (.int j) => if j < 1000000 ∧ -1000000 < j ∧ xs.length * j.toNat ≤ big then .ok (.lst (List.replicate j.toNat xs).flatten, 1) else .bad
  | .fdiv, .p (.int i), .p (.int j) => if 0 < j ∧ j < 1073741824 then rP (.int (i / j)) else .bad
  | .mod, .p (.int i), .p (.int j) => if 0 < j then rP (.int (i % j)) else .bad
  | .pow, .p (.int i), .p (.int j) => if 0 ≤ j ∧ j ≤ 1000000 ∧ i.natAbs < 2 ^ 64 then rP (.int (i ^ j.toNat)) else .bad
  | _, _, _ => .bad
def keysOk (ks : List P) (y : P) : Bool := match ks with
  | [] => y.scal || (keyT y).isSome
  | q :: _ => (q.scal && y.scal) || ((keyT q).isSome && (keyT y).isSome)
def kidx : List P → P → Option Nat
  | k :: ks, y => if k = y then some 0 else (kidx ks y).map (· + 1)
  | [], _ => none
def kget (ks : List P) (vs : List V) (y : P) : Option V := (kidx ks y).bind fun n => vs[n]?
def kputK (ks : List P) (y : P) : List P := match kidx ks y with
  | some _ => ks
  | none => ks ++ [y]
def kset (y : P) (w : V) : List P → List V → List V
  | k :: ks, v :: vs => (if k = y then w else v) :: kset y w ks vs
  | _, _ => []
def kputV (ks : List P) (vs : List V) (y : P) (w : V) : List V := match kidx ks y with
  | some _ => kset y w ks vs
  | none => vs ++ [w]
def inVV (x c : V) : Option Bool := match c with
  | .p (.str y) => match x with
    | .p (.str z) => some (!(Builtin.Str.occurrences y z 0 y.length 1).isEmpty)
    | _ => none
  | .nd (.dic ks) vs => match x with
    | .p q => if keysOk ks q then some (kidx ks q).isSome else none
    | _ => none
  | _ => match dataV c, dataV x with
    | some (.list ds), some d => some (ds.any fun e => PyData.eqv e d)
    | some (.tuple ds), some d => some (ds.any fun e => PyData.eqv e d)
    | _, _ => none
def V.flat : V → Bool
  | .p .non => true
  | .p (.bl _) => true
  | _ => false
def isVV (x y : V) : Option Bool := match x, y with
  | .p a, .p b => if (V.p a).flat || (V.p b).flat then some (decide (a = b)) else none
  | .p a, _ => if (V.p a).flat then some false else none
  | _, .p b => if (V.p b).flat then some false else none
  | _, _ => none
def eqVV (a b : V) : Option Bool := match dataV a, dataV b with
  | some d, some e => some (PyData.eqv d e)
  | _, _ => none
def ltVV (a b : V) : Option Bool := match dataV a, dataV b with
  | some d, some e => match d with
    | .none => none
    | _ => if PySem.W.alike d e then some (PySem.W.dataLt d e) else none
  | _, _ => none
def cmpVV : CmpOp → V → V → Option Bool
  | .Eq, a, b => eqVV a b
  | .NotEq, a, b => (eqVV a b).map (!·)
  | .Lt, a, b => ltVV a b
  | .Gt, a, b => ltVV b a
  | .LtE, a, b => (ltVV b a).map (!·)
  | .GtE, a, b => (ltVV a b).map (!·)
  | .Is, a, b => isVV a b
  | .IsNot, a, b => (isVV a b).map (!·)
  | .In, a, b => inVV a b
  | .NotIn, a, b => (inVV a b).map (!·)
def rB (o : Option Bool) : RV VD := match o with
  | some b => rP (.bl b)
  | none => .bad
@[simp] theorem rB_some (b : Bool) : rB (some b) = rP (.bl b) := id rfl
@[simp] theorem rB_none : rB none = .bad := id rfl
def idxVV : VD → V → RV VD
  | (.p (.str x), _), .p (.int i) => if x.length ≤ big then match atW x.cps.toList i with
    | some c => rP (.str ⟨#[c]⟩)
    | none => .bad
    else .bad
  | (.p (.tup xs), _), .p (.int i) => match atW xs i with
    | some x => rP x
    | none => .bad
  | (.tup xs, d), .p (.int i) => match atW xs i with
    | some x => .ok (x, d)
    | none => .bad
  | (.nd .lst xs, d), .p (.int i) => match atW xs i with
    | some x => .ok (x, d - 1)
    | none => .bad
  | (.nd .fl xs, _), .p (.int i) => match atW xs i with
    | some x => .ok (x, 0)
    | none => .bad
  | (.nd (.dic ks) vs, d), .p y => if keysOk ks y then match kget ks vs y with
    | some v => .ok (v, d - 1)
    | none => .bad
    else .bad
  | _, _ => .bad
def slcVV : VD → Option Int → Option Int → RV VD
  | (.p (.str x), _), lo, hi => if x.length ≤ big then rP (.str ⟨(cutL x.cps.toList lo hi).toArray⟩) else .bad
  | (.nd .lst xs, _), lo, hi => .ok (.lst (cutL xs lo hi), 1)
  | (.nd .fl xs, _), lo, hi => .ok (.lst (cutL xs lo hi), 1)
  | (.p (.tup xs), _), lo, hi => rP (.tup (cutL xs lo hi))
  | _, _, _ => .bad
def rvsVV : V → RV VD
  | .nd .lst xs => .ok (.lst xs.reverse, 1)
  | .p (.tup xs) => rP (.tup xs.reverse)
  | _ => .bad
def pureV : V → Option (List P)
  | .nd .lst xs => vpures xs
  | _ => none
def pureSeqV (v : V) : Option (List P) := (seqV v).bind vpures
def isTyV (Q : Pg) : Ty → V → Option Bool
  | _, .p .non => some false
  | t, .p (.bl _) => some (decide (t = .int ∨ t = .bool))
  | t, .p (.int _) => some (decide (t = .int))
  | t, .p (.str _) => some (decide (t = .str))
  | t, .p (.tup _) => some (decide (t = .tuple))
  | t, .tup _ => some (decide (t = .tuple))
  | t, .nd .lst _ => some (decide (t = .list))
  | t, .nd .fl _ => some (decide (t = .list))
  | t, .nd (.dic _) _ => match t with
    | .int => some false
    | .bool => some false
    | .str => some false
    | .tuple => some false
    | .list => some false
    | _ => none
  | _, _ => none
def isTysV (Q : Pg) (v : V) : List Ty → Option Bool
  | [] => some false
  | t :: ts => match isTyV Q t v with
    | some true => some true
    | some false => isTysV Q v ts
    | none => none
def lenVV : V → Option Nat
  | .p (.str x) => if x.length ≤ big then some x.length else none
  | .p (.tup xs) => some xs.length
  | .tup xs => some xs.length
  | .nd .lst xs => some xs.length
  | .nd .fl xs => some xs.length
  | .nd (.dic ks) _ => some ks.length
  | _ => none
def rO (o : Option P) : RV VD := match o with
  | some x => rP x
  | none => .bad
@[simp] theorem rO_some (x : P) : rO (some x) = rP x := id rfl
@[simp] theorem rO_none : rO none = .bad := id rfl
abbrev rL (xs : List P) : RV VD := .ok (.lst (xs.map .p), 1)
def minVV : List VD → RV VD
  | [(.p (.int i), _), (.p (.int j), _)] => rP (.int (if j < i then j else i))
  | [(.p x, _), (.p y, _)] => if allAlike [x, y] && depthOk [x, y] then rP (minP x [y]) else .bad
  | [(v, _)] => match pureSeqV v with
    | some (x :: xs) => if allAlike (x :: xs) && depthOk (x :: xs) then rP (minP x xs) else .bad
    | _ => .bad
  | _ => .bad
def maxVV : List VD → RV VD
  | [(.p (.int i), _), (.p (.int j), _)] => rP (.int (if j > i then j else i))
  | [(.p x, _), (.p y, _)] => if allAlike [x, y] && depthOk [x, y] then rP (maxP x [y]) else .bad
  | [(v, _)] => match pureSeqV v with
    | some (x :: xs) => if allAlike (x :: xs) && depthOk (x :: xs) then rP (maxP x xs) else .bad
    | _ => .bad
  | _ => .bad
def sortedVV : V → RV VD
  | .nd .lst vs => match vpures vs with
    | some xs => if allAlike xs && depthOk xs && sortable xs then rL (sortP xs) else .bad
    | none => .bad
  | .nd (.dic ks) _ => match sortKeysV ks with
    | some ys => rL ys
    | none => .bad
  | _ => .bad
def intVV : V → RV VD
  | .p (.int i) => rP (.int i)
  | .p (.bl b) => rP (.int (if b then 1 else 0))
  | _ => .bad
def strVV : V → RV VD
  | .p (.int i) => if i.natAbs.log2 < 1920 then rP (.str (strInt i)) else .bad
  | _ => .bad
def absVV : V → RV VD
  | .p (.int i) => rP (.int (if i < 0 then -i else i))
  | _ => .bad
def bltVV : B → List VD → RV VD
  | .len, [(v, _)] => rO ((lenVV v).map fun n : Nat => .int (n : Int))
  | .abs, [(v, _)] => absVV v
  | .min, vs => minVV vs
  | .max, vs => maxVV vs
  | .sum, [(v, _)] => rO (((pureV v).bind sumI).map .int)
  | .all, [(v, _)] => rO (((pureV v).bind allB).map .bl)
  | .sorted, [(v, _)] => sortedVV v
  | .int, [(v, _)] => intVV v
  | .str, [(v, _)] => strVV v
  | .list, [(v, _)] => match seqV v with
    | some xs => .ok (.lst xs, 1)
    | none => .bad
  | .tuple, [(v, _)] => match pureSeqV v with
    | some xs => rP (.tup xs)
    | none => .bad
  | _, _ => .bad
def strsV : List V → Option (List Str)
  | [] => some []
  | .p (.str x) :: ws => (strsV ws).map (x :: ·)
  | _ :: _ => none
def rcvV : V → Option RT
  | .p (.str _) => some .str
  | .nd .lst _ => some .list
  | .nd (.dic _) _ => some .dict
  | _ => none
def mthVV : Mt → VD → List VD → RV VD
  | .join, (.p (.str a), _), [(w, _)] => match (seqV w).bind strsV with
    | some ys => if (ys.map (·.length)).sum + ys.length * a.length ≤ 16777216 then rP (.str (Txt.join a ys)) else .bad
    | none => .bad
  | .upper, (.p (.str a), _), [] => if a.length ≤ 5592405 then rP (.str (Txt.upper a)) else .bad
  | .get, (.nd (.dic ks) vs, _), [(.p y, _), (w, _)] => if keysOk ks y then .ok ((kget ks vs y).getD w, 0) else .bad
  | .get, (.nd (.dic ks) vs, _), [(.p y, _)] => if keysOk ks y then .ok ((kget ks vs y).getD (.p .non), 0) else .bad
  | _, _, _ => .bad
mutual
def bindV : Pt → VD → EV → Option EV
  | .name i, v, σ => some (σ.set i (some v))
  | .tup ps, (v, d), σ => match v with
    | .p (.tup xs) => bindVs ps (xs.map fun x => (.p x, d)) σ
    | .tup ws => bindVs ps (ws.map fun w => (w, d)) σ
    | .nd .lst ws => bindVs ps (ws.map fun w => (w, d - 1)) σ
    | _ => none
def bindVs : List Pt → List VD → EV → Option EV
  | [], [], σ => some σ
  | p :: ps, w :: ws, σ => match bindV p w σ with
    | some σ' => bindVs ps ws σ'
    | none => none
  | _, _, _ => none
end
def enumV : Nat → List V → List V
  | _, [] => []
  | n, w :: ws => mkTupV [.p (.int n), w] :: enumV (n + 1) ws
def zipV : List V → List V → List V
  | a :: s, b :: t => mkTupV [a, b] :: zipV s t
  | _, _ => []
def V.isTup : V → Bool
  | .p (.tup _) => true
  | .tup _ => true
  | _ => false
def V.isLst : V → Bool
  | .nd .lst _ => true
  | _ => false
def signsV (x : Str) : List V := x.cps.toList.map fun c => .p (.str ⟨#[c]⟩)
def rangeV (lo : Int) (n : Nat) : List V := (List.range n).map fun i : Nat => .p (.int (lo + (i : Int)))
def itemsV : Ik → List V → Option (List V)
  | .val, [.p (.str x)] => if x.length ≤ big then some (signsV x) else none
  | .val, [w] => seqV w
  | .rng, [.p (.int j)] => if rngOk j then some (rangeV 0 j.toNat) else none
  | .rng, [.p (.int i), .p (.int j)] => if rngOk i && rngOk j then some (rangeV i (j - i).toNat) else none
  | .enu, [w] => if w.isLst then (seqV w).map (enumV 0) else none
  | .zip, [a, b] => match (a.isTup && b.isTup) || (a.isLst && b.isLst), seqV a, seqV b with
    | true, some xs, some ys => if xs.length = ys.length ∨ ((vpures xs).isSome = true ∧ (vpures ys).isSome = true) then some (zipV xs ys) else none
    | _, _, _ => none
  | .rev, [w] => (seqV w).map List.reverse
  | _, _ => none
def partOfV : List VD → Option (Option Int)
  | [] => some none
  | [(.p (.int i), _)] => some (some i)
  | _ => none
def lcV_ (f : V → RV (Option VD)) : List V → List VD → RV VD
  | [], acc => .ok (.lst (acc.map (·.1)), 1 + mind acc)
  | w :: ws, acc => match f w with
    | .ok (some v) => if acc.length < big then lcV_ f ws (acc ++ [v]) else .bad
    | .ok none => lcV_ f ws acc
    | .err _ _ => .bad
    | .bad => .bad
def pairUpV : List VD → Option (List (P × VD))
  | [] => some []
  | (.p k, _) :: v :: r => if k.scal then (pairUpV r).map ((k, v) :: ·) else none
  | _ => none
section
variable (Q : Pg) (cl : Nat → List V → RV VD)
mutual
def evV : E → EV → RV VD
  | .var i, σ => match σ[i]? with
    | some (some (v, _)) => .ok (v, 0)
    | _ => .bad
  | .cst c, _ => rP c
  | .glb _ c, _ => rP c
  | .tup es, σ => (evsV es σ).bnd fun ws => if ws.length ≤ big then .ok (mkTupV (ws.map (·.1)), mind ws) else .bad
  | .lst es, σ => (evsV es σ).bnd fun ws => if ws.length ≤ big then .ok (.lst (ws.map (·.1)), 1 + mind ws) else .bad
  | .dct es, σ => (evsV es σ).bnd fun ws => match pairUpV ws with
    | some kvs => if kvs.length ≤ 15 then .ok (let q := kvs.foldl (fun q kv => (kputK q.1 kv.1, kputV q.1 q.2 kv.1 kv.2.1)) (([], []) : List P × List V); .dic q.1 q.2, 1) else .bad
    | none => .bad
  | .bin o a b, σ => (evV a σ).bnd fun x => (evV b σ).bnd fun y => opVV o x.1 y.1
  | .neg a, σ => (evV a σ).bnd fun x => match x.1 with
    | .p (.int i) => rP (.int (-i))
    | _ => .bad
  | .cmp o a b, σ => (evV a σ).bnd fun x => (evV b σ).bnd fun y => rB (cmpVV o x.1 y.1)
  | .chn o o' a b c, σ => (evV a σ).bnd fun x => (evV b σ).bnd fun y => match cmpVV o x.1 y.1 with
    | some true => (evV c σ).bnd fun z => rB (cmpVV o' y.1 z.1)
    | some false => rP (.bl false)
    | none => .bad
  | .and a b, σ => (evV a σ).bnd fun x => match x.1 with
    | .p (.bl true) => evV b σ
    | .p (.bl false) => rP (.bl false)
    | _ => .bad
  | .or a b, σ => (evV a σ).bnd fun x => match x.1 with
    | .p (.bl true) => rP (.bl true)
    | .p (.bl false) => evV b σ
    | _ => .bad
  | .not a, σ => (evV a σ).bnd fun x => match x.1 with
    | .p (.bl c) => rP (.bl (!c))
    | _ => .bad
  | .idx a b, σ => (evV a σ).bnd fun x => (evV b σ).bnd fun y => idxVV x y.1
  | .slc a lo hi, σ => (evV a σ).bnd fun x => (evsV lo σ).bnd fun l => match partOfV l with
    | some l' => (evsV hi σ).bnd fun h => match partOfV h with
      | some h' => slcVV x l' h'
      | none => .bad
    | none => .bad
  | .rvs a, σ => (evV a σ).bnd fun x => rvsVV x.1
  | .srs a, σ => (evV a σ).bnd fun x => match (pureV x.1).bind sortSetV with
    | some ys => rL ys
    | none => .bad
  | .lns a, σ => (evV a σ).bnd fun x => rO (((pureV x.1).bind lenSetV).map fun n : Nat => .int (n : Int))
  | .call f es, σ => (evsV es σ).bnd fun ws => cl f (ws.map (·.1))
  | .blt b es, σ => (evsV es σ).bnd fun ws => bltVV b ws
  | .mth m o es, σ => (evV o σ).bnd fun w => match rcvV w.1 with
    | some T => if mthOk m T then (evsV es σ).bnd fun ws => mthVV m w ws else .bad
    | none => .bad
  | .fld o f, σ => .bad
  | .met o m es, σ => .bad
  | .mk c es, σ => .bad
  | .isi a ts, σ => (evV a σ).bnd fun w => rB (isTysV Q w.1 ts)
  | .lc own pt k src cs e, σ => (evsV src σ).bnd fun ws => match itemsV k (ws.map (·.1)) with
    | some its => lcV_ (fun w => match bindV pt (w, 0) (own.foldr (fun i s => s.set i none) σ) with
        | some σ' => match cs with
          | [] => (evV e σ').bnd fun v => .ok (some v)
          | [c] => (evV c σ').bnd fun b => match b.1 with
            | .p (.bl true) => (evV e σ').bnd fun v => .ok (some v)
            | .p (.bl false) => .ok none
            | _ => .bad
          | _ => .bad
        | none => .bad) its []
    | none => .bad
def evsV : List E → EV → RV (List VD)
  | [], _ => .ok []
  | e :: es, σ => (evV e σ).bnd fun w => (evsV es σ).bnd fun ws => .ok (w :: ws)
end
end
mutual
def occ : E → List Nat
  | .var i => [i]
  | .tup es => occs es
  | .lst es => occs es
  | .dct es => occs es
  | .bin _ a b => occ a ++ occ b
  | .neg a => occ a
  | .cmp _ a b => occ a ++ occ b
  | .chn _ _ a b c => occ a ++ (occ b ++ occ c)
  | .and a b => occ a ++ occ b
  | .or a b => occ a ++ occ b
  | .not a => occ a
  | .idx a b => occ a ++ occ b
  | .slc a lo hi => occ a ++ (occs lo ++ occs hi)
  | .rvs a => occ a
  | .srs a => occ a
  | .lns a => occ a
  | .call _ es => occs es
  | .blt _ es => occs es
  | .mth _ o es => occ o ++ occs es
  | .fld o _ => occ o
  | .met o _ es => occ o ++ occs es
  | .mk _ es => occs es
  | .isi a _ => occ a
  | .lc _ _ _ src cs e => occs src ++ (occs cs ++ occ e)
  | _ => []
def occs : List E → List Nat
  | [] => []
  | e :: es => occ e ++ occs es
end
def frz (is : List Nat) (σ : EV) : EV := is.foldl (fun s i => match s[i]? with
  | some (some (v, _)) => s.set i (some (v, 0))
  | _ => s) σ
def aft (v : VD) (is : List Nat) (σ : EV) : EV := if fullV v.2 v.1 = true then σ else frz is σ
def afts (vs : List VD) (is : List Nat) (σ : EV) : EV := if vs.all (fun v => fullV v.2 v.1) = true then σ else frz is σ
inductive RSV where
  | nx (σ : EV) | rt (v : VD) | bk (σ : EV) | er (c : Nat) (fs : List P) (σ : EV) | bad
def RV.toS {α : Type} (σ : EV) (r : RV α) (k : α → RSV) : RSV := match r with
  | .ok w => k w
  | .err c fs => .er c fs σ
  | .bad => .bad
@[simp] theorem RV.toS_ok {α : Type} (σ : EV) (w : α) (k : α → RSV) : (RV.ok w).toS σ k = k w := id rfl
@[simp] theorem RV.toS_err {α : Type} (σ : EV) (c : Nat) (fs : List P) (k : α → RSV) : (RV.err c fs : RV α).toS σ k = .er c fs σ := id rfl
@[simp] theorem RV.toS_bad {α : Type} (σ : EV) (k : α → RSV) : (RV.bad : RV α).toS σ k = .bad := id rfl
def RSV.seq (r : RSV) (k : EV → RSV) : RSV := match r with
  | .nx σ => k σ
  | r => r
@[simp] theorem RSV.seq_nx (σ : EV) (k : EV → RSV) : (RSV.nx σ).seq k = k σ := id rfl
@[simp] theorem RSV.seq_rt (w : VD) (k : EV → RSV) : (RSV.rt w).seq k = .rt w := id rfl
@[simp] theorem RSV.seq_bk (σ : EV) (k : EV → RSV) : (RSV.bk σ).seq k = .bk σ := id rfl
@[simp] theorem RSV.seq_er (c : Nat) (fs : List P) (σ : EV) (k : EV → RSV) : (RSV.er c fs σ).seq k = .er c fs σ := id rfl
@[simp] theorem RSV.seq_bad (k : EV → RSV) : RSV.bad.seq k = .bad := id rfl
def forV (pt : Pt) (f : EV → RSV) : List V → EV → RSV
  | [], σ => .nx σ
  | w :: ws, σ => match bindV pt (w, 0) σ with
    | some σ' => match f σ' with
      | .nx σ2 => forV pt f ws σ2
      | .bk σ2 => .nx σ2
      | r => r
    | none => .bad
def whlV (c : EV → RV VD) (f : EV → RSV) : Nat → EV → RSV
  | 0, _ => .bad
  | n + 1, σ => (c σ).toS σ fun b => match b.1 with
    | .p (.bl true) => match f σ with
      | .nx σ2 => whlV c f n σ2
      | .bk σ2 => .nx σ2
      | r => r
    | .p (.bl false) => .nx σ
    | _ => .bad
def ownBy (v : VD) (d : Nat) : Nat := match v.1 with
  | .p _ => d
  | _ => min d (1 + v.2)
def updV {α : Type} (f : V → Option (V × α)) (put : VD) : List P → VD → Option (VD × α)
  | [], (v, d) => if 0 < d then (f v).map fun q => ((q.1, ownBy put d), q.2) else none
  | y :: ys, (.nd .lst vs, d) => match y with
    | .int i => match placeOf vs.length i with
      | some n => match vs[n]? with
        | some v => (updV f put ys (v, d - 1)).map fun q => ((.nd .lst (vs.set n q.1.1), 1 + q.1.2), q.2)
        | none => none
      | none => none
    | _ => none
  | y :: ys, (.tup vs, d) => match y with
    | .int i => match placeOf vs.length i with
      | some n => match vs[n]? with
        | some v => (updV f put ys (v, d)).map fun q => ((.tup (vs.set n q.1.1), q.1.2), q.2)
        | none => none
      | none => none
    | _ => none
  | y :: ys, (.nd (.dic ks) vs, d) => if keysOk ks y = true then match kidx ks y with
      | some n => match vs[n]? with
        | some v => (updV f put ys (v, d - 1)).map fun q => ((.nd (.dic ks) (vs.set n q.1.1), 1 + q.1.2), q.2)
        | none => none
      | none => none
    else none
  | _, _ => none
def getV : List P → V → Option V
  | [], v => some v
  | y :: ys, .nd .lst vs => match y with
    | .int i => match placeOf vs.length i with
      | some n => match vs[n]? with
        | some v => getV ys v
        | none => none
      | none => none
    | _ => none
  | y :: ys, .tup vs => match y with
    | .int i => match placeOf vs.length i with
      | some n => match vs[n]? with
        | some v => getV ys v
        | none => none
      | none => none
    | _ => none
  | y :: ys, .nd (.dic ks) vs => if keysOk ks y = true then match kidx ks y with
      | some n => match vs[n]? with
        | some v => getV ys v
        | none => none
      | none => none
    else none
  | _, _ => none
def mutV : Mt → List VD → V → Option (V × VD)
  | .append, [(w, _)], .nd .lst xs => if xs.length < big then some (.lst (xs ++ [w]), (.p .non, 0)) else none
  | .clear, [], .nd .lst _ => some (.lst [], (.p .non, 0))
  | .extend, [(.nd .lst ys, _)], .nd .lst xs => if xs.length + ys.length ≤ big then some (.lst (xs ++ ys), (.p .non, 0)) else none
  | .pop, [], .nd .lst xs => match xs[xs.length - 1]? with
    | some y => some (.lst xs.dropLast, (y, 0))
    | none => none
  | .setdefault, [(.p y, _), (w, _)], .nd (.dic ks) vs => if keysOk ks y = true ∧ ks.length < big then (match kget ks vs y with
      | some v => some (.dic ks vs, (v, 0))
      | none => some (.dic (kputK ks y) (kputV ks vs y w), (w, 0)))
    else none
  | _, _, _ => none
def mutD (m : Mt) (ws : List VD) : VD := match m, ws with
  | .append, [v] => v
  | .extend, [(v, d)] => (v, d - 1)
  | .setdefault, [_, v] => v
  | _, _ => (.p .non, 0)
def setVV (y : P) (w : V) : V → Option (V × Unit)
  | .nd .lst xs => match y with
    | .int j => match placeOf xs.length j with
      | some n => some (.lst (xs.set n w), ())
      | none => none
    | _ => none
  | .nd (.dic ks) vs => if keysOk ks y = true ∧ ks.length < big then some (.dic (kputK ks y) (kputV ks vs y w), ()) else none
  | _ => none
def _root_.Mi.Mt.chg : Mt → Bool
  | .append => true
  | .clear => true
  | .extend => true
  | .pop => true
  | .setdefault => true
  | _ => false
section
variable (Q : Pg) (cl : Nat → List V → RV VD)
def plV : E → EV → RV (Nat × List P)
  | .var i, _ => .ok (i, [])
  | .idx o k, σ => match plV o σ, evV Q cl k σ with
    | .ok q, .ok (.p y, _) => .ok (q.1, q.2 ++ [y])
    | _, _ => .bad
  | _, _ => .bad
def chgV {α : Type} (f : V → Option (V × α)) (put : VD) (q : Nat × List P) (σ : EV) : Option (EV × α) := match σ[q.1]? with
  | some (some v) => (updV f put q.2 v).map fun r => (σ.set q.1 (some r.1), r.2)
  | _ => none
def mayV (m : Mt) (q : Nat × List P) (σ : EV) : Bool := match σ[q.1]? with
  | some (some v) => match (getV q.2 v.1).bind rcvV with
    | some T => mthOk m T
    | none => false
  | _ => false
@[simp] def twoV (σ : EV) (i j : Nat) : RV VD := match σ[i]?, σ[j]? with
  | some (some v), some (some w) => .ok (mkTupV [v.1, w.1], mind [v, w])
  | _, _ => .bad
def evR (e : E) (σ : EV) : RV VD := match e with
  | .var i => match σ[i]? with
    | some (some v) => .ok v
    | _ => .bad
  | .tup [.var i, .var j] => if i = j then evV Q cl e σ else twoV σ i j
  | e => evV Q cl e σ
mutual
def runV : S → EV → RSV
  | .exp e, σ => match e with
    | .mth m o es => if m.chg then (plV Q cl o σ).toS σ fun q => match mayV m q σ with
        | true => (evsV Q cl es σ).toS σ fun ws => match chgV (mutV m ws) (mutD m ws) q (afts ws (occs es) σ) with
          | some r => .nx r.1
          | none => .bad
        | false => .bad
      else (evV Q cl (.mth m o es) σ).toS σ fun _ => .nx σ
    | e => (evV Q cl e σ).toS σ fun _ => .nx σ
  | .asg (.pt p) e, σ => match e with
    | .mth .pop o es => (plV Q cl o σ).toS σ fun q => match mayV .pop q σ with
      | true => (evsV Q cl es σ).toS σ fun ws => match chgV (mutV .pop ws) (mutD .pop ws) q (afts ws (occs es) σ) with
        | some r => match bindV p r.2 r.1 with
          | some σ' => .nx σ'
          | none => .bad
        | none => .bad
      | false => .bad
    | e => (evV Q cl e σ).toS σ fun v => match bindV p v (aft v (occ e) σ) with
      | some σ' => .nx σ'
      | none => .bad
  | .asg (.idx o i) e, σ => (evV Q cl e σ).toS σ fun v => match plV Q cl o (aft v (occ e) σ), evV Q cl i (aft v (occ e) σ) with
    | .ok q, .ok (.p y, _) => match chgV (setVV y v.1) (v.1, 0) q (aft v (occ e) σ) with
      | some r => .nx r.1
      | none => .bad
    | _, _ => .bad
  | .asg _ _, _ => .bad
  | .par i j a b, σ => (evV Q cl a σ).toS σ fun x => (evV Q cl b (aft x (occ a) σ)).toS (aft x (occ a) σ) fun y => .nx (((aft y (occ b) (aft x (occ a) σ)).set i (some x)).set j (some y))
  | .ret e, σ => (evR Q cl e σ).toS σ fun v => .rt v
  | .retN, _ => .rt (.p .non, 0)
  | .ite c a b, σ => (evV Q cl c σ).toS σ fun x => match x.1 with
    | .p (.bl true) => runsV a σ
    | .p (.bl false) => runsV b σ
    | _ => .bad
  | .for_ pt k src b, σ => (evsV Q cl src σ).toS σ fun ws => match itemsV k (ws.map (·.1)) with
    | some its => forV pt (fun σ => runsV b σ) its (if (vpures (ws.map (·.1))).isSome then σ else frz (occs src) σ)
    | none => .bad
  | .whl c b, σ => whlV (fun σ => evV Q cl c σ) (fun σ => runsV b σ) turns σ
  | .brk, σ => .bk σ
  | .pass, σ => .nx σ
  | .raise _ _, _ => .bad
  | .try_ _ _ _ _, _ => .bad
def runsV : List S → EV → RSV
  | [], σ => .nx σ
  | s :: ss, σ => (runV s σ).seq fun σ' => runsV ss σ'
end
end
def RSV.fin : RSV → RV VD
  | .nx _ => rP .non
  | .rt w => .ok w
  | .er c fs _ => .err c fs
  | _ => .bad
def startV (d : Df) (ws : List V) : EV := (ws.map fun v => some (v, 0)) ++ List.replicate (d.size - ws.length) none
def callV (Q : Pg) : Nat → Nat → List V → RV VD
  | 0, _, _ => .bad
  | n + 1, f, ws => match Q.defs[f]? with
    | some d => if ws.length = d.ar then (runsV Q (callV Q n) d.body (startV d ws)).fin else .bad
    | none => .bad
end Vl

namespace Vl
open PySem Mi
def kdO : MO → Option Kd
  | .lst _ => some .lst
  | .dic kvs => some (.dic (kvs.map (·.1)))
  | .ins c fs => some (.ins c (fs.map (·.1)))
  | _ => none
def kidsO : MO → List W
  | .lst ws => ws
  | .dic kvs => kvs.map (·.2)
  | .ins _ fs => fs.map (·.2)
  | _ => []
mutual
def Rd (M : Hm) : Nat → W → V → List Nat → List Nat → Prop
  | _, w, .p x, O, R => w = .p x ∧ O = [] ∧ R = []
  | d, w, .tup vs, O, R => ∃ ws, w = .tup ws ∧ pures ws = none ∧ RdL M d ws vs O R
  | d, w, .nd k vs, O, R => (∃ a o X Y, w = .ref a ∧ M[a]? = some o ∧ kdO o = some k ∧ RdL M (d - 1) (kidsO o) vs X Y ∧ ((d = 0 ∧ O = X ∧ R = a :: Y) ∨ (0 < d ∧ O = a :: X ∧ R = Y))) ∨
      (d = 0 ∧ ∃ xs : List P, w = .fl xs ∧ k = .fl ∧ vs = xs.map .p ∧ O = [] ∧ R = [])
def RdL (M : Hm) : Nat → List W → List V → List Nat → List Nat → Prop
  | _, ws, [], O, R => ws = [] ∧ O = [] ∧ R = []
  | d, ws, v :: vs, O, R => ∃ w ws' O1 O2 R1 R2, ws = w :: ws' ∧ Rd M d w v O1 R1 ∧ RdL M d ws' vs O2 R2 ∧ O = O1 ++ O2 ∧ R = R1 ++ R2
end
theorem rd_p {M : Hm} {d : Nat} {w : W} {x : P} {O R : List Nat} : Rd M d w (.p x) O R ↔ w = .p x ∧ O = [] ∧ R = [] := by unfold Rd; exact Iff.rfl
theorem rd_tup {M : Hm} {d : Nat} {w : W} {vs : List V} {O R : List Nat} : Rd M d w (.tup vs) O R ↔ ∃ ws, w = .tup ws ∧ pures ws = none ∧ RdL M d ws vs O R := by
  rw [Rd]
theorem rd_nd {M : Hm} {d : Nat} {w : W} {k : Kd} {vs : List V} {O R : List Nat} : Rd M d w (.nd k vs) O R ↔ (∃ a o X Y, w = .ref a ∧ M[a]? = some o ∧ kdO o = some k ∧ RdL M (d - 1) (kidsO o) vs X Y ∧ ((d = 0 ∧ O = X ∧ R = a :: Y) ∨ (0 < d ∧ O = a :: X ∧ R = Y))) ∨
      (d = 0 ∧ ∃ xs : List P, w = .fl xs ∧ k = .fl ∧ vs = xs.map .p ∧ O = [] ∧ R = []) := by
  rw [Rd]
theorem rdl_nil {M : Hm} {d : Nat} {ws : List W} {O R : List Nat} : RdL M d ws [] O R ↔ ws = [] ∧ O = [] ∧ R = [] := by rw [RdL]
theorem rdl_cons {M : Hm} {d : Nat} {ws : List W} {v : V} {vs : List V} {O R : List Nat} : RdL M d ws (v :: vs) O R ↔ ∃ w ws' O1 O2 R1 R2, ws = w :: ws' ∧ Rd M d w v O1 R1 ∧ RdL M d ws' vs O2 R2 ∧ O = O1 ++ O2 ∧ R = R1 ++ R2 := by rw [RdL]
mutual
theorem rd_zero {M : Hm} : ∀ (v : V) {w : W} {O R : List Nat}, Rd M 0 w v O R → O = []
  | .p x, w, O, R, h => (rd_p.mp h).2.1
  | .tup vs, w, O, R, h => by
    obtain ⟨ws, _, _, h⟩ := rd_tup.mp h
    exact rdl_zero vs h
  | .nd k vs, w, O, R, h => by
    rcases rd_nd.mp h with ⟨a, o, X, Y, _, _, _, h, h2⟩ | ⟨_, xs, _, _, _, h, _⟩
    · rcases h2 with ⟨_, rfl, _⟩ | ⟨h2, _⟩
      · exact rdl_zero vs h
      · omega
    · exact h
theorem rdl_zero {M : Hm} : ∀ (vs : List V) {ws : List W} {O R : List Nat}, RdL M 0 ws vs O R → O = []
  | [], ws, O, R, h => (rdl_nil.mp h).2.1
  | v :: vs, ws, O, R, h => by
    obtain ⟨w, ws', O1, O2, R1, R2, _, h1, h2, rfl, _⟩ := rdl_cons.mp h
    rw [rd_zero v h1, rdl_zero vs h2]
    rfl
end
theorem lt_of_get {M : Hm} {a : Nat} {o : MO} (h : M[a]? = some o) : a < M.length := (List.getElem?_eq_some_iff.mp h).1
mutual
theorem rd_lt {M : Hm} : ∀ (v : V) {d : Nat} {w : W} {O R : List Nat}, Rd M d w v O R → ∀ a, a ∈ O ∨ a ∈ R → a < M.length
  | .p x, d, w, O, R, h => by
    obtain ⟨_, rfl, rfl⟩ := rd_p.mp h
    simp
  | .tup vs, d, w, O, R, h => by
    obtain ⟨ws, _, _, h⟩ := rd_tup.mp h
    exact rdl_lt vs h
  | .nd k vs, d, w, O, R, h => by
    rcases rd_nd.mp h with ⟨a, o, X, Y, _, ha, _, h, h2⟩ | ⟨_, xs, _, _, _, rfl, rfl⟩
    · have := rdl_lt vs h
      have la := lt_of_get ha
      rcases h2 with ⟨_, rfl, rfl⟩ | ⟨_, rfl, rfl⟩
      · intro b hb
        rcases hb with hb | hb
        · exact this b (.inl hb)
        · rcases List.mem_cons.mp hb with rfl | hb
          · exact la
          · exact this b (.inr hb)
      · intro b hb
        rcases hb with hb | hb
        · rcases List.mem_cons.mp hb with rfl | hb
          · exact la
          · exact this b (.inl hb)
        · exact this b (.inr hb)
    · simp
theorem rdl_lt {M : Hm} : ∀ (vs : List V) {d : Nat} {ws : List W} {O R : List Nat}, RdL M d ws vs O R → ∀ a, a ∈ O ∨ a ∈ R → a < M.length
  | [], d, ws, O, R, h => by
    obtain ⟨_, rfl, rfl⟩ := rdl_nil.mp h
    simp
  | v :: vs, d, ws, O, R, h => by
    obtain ⟨w, ws', O1, O2, R1, R2, _, h1, h2, rfl, rfl⟩ := rdl_cons.mp h
    have a1 := rd_lt v h1
    have a2 := rdl_lt vs h2
    intro a ha
    simp only [List.mem_append] at ha
    rcases ha with (ha | ha) | (ha | ha)
    · exact a1 a (.inl ha)
    · exact a2 a (.inl ha)
    · exact a1 a (.inr ha)
    · exact a2 a (.inr ha)
end
mutual
theorem rd_agree {M M' : Hm} : ∀ (v : V) {d : Nat} {w : W} {O R : List Nat}, Rd M d w v O R → (∀ a, a ∈ O ∨ a ∈ R → M'[a]? = M[a]?) → Rd M' d w v O R
  | .p x, d, w, O, R, h, _ => rd_p.mpr (rd_p.mp h)
  | .tup vs, d, w, O, R, h, e => by
    obtain ⟨ws, h1, h2, h⟩ := rd_tup.mp h
    exact rd_tup.mpr ⟨ws, h1, h2, rdl_agree vs h e⟩
  | .nd k vs, d, w, O, R, h, e => by
    rcases rd_nd.mp h with ⟨a, o, X, Y, h1, ha, h3, h, h2⟩ | h
    · refine rd_nd.mpr (.inl ⟨a, o, X, Y, h1, ?_, h3, rdl_agree vs h ?_, h2⟩)
      · rw [e a, ha]
        rcases h2 with ⟨_, rfl, rfl⟩ | ⟨_, rfl, rfl⟩ <;> simp
      · intro b hb
        refine e b ?_
        rcases h2 with ⟨_, rfl, rfl⟩ | ⟨_, rfl, rfl⟩
        · rcases hb with hb | hb
          · exact .inl hb
          · exact .inr (List.mem_cons_of_mem _ hb)
        · rcases hb with hb | hb
          · exact .inl (List.mem_cons_of_mem _ hb)
          · exact .inr hb
    · exact rd_nd.mpr (.inr h)
theorem rdl_agree {M M' : Hm} : ∀ (vs : List V) {d : Nat} {ws : List W} {O R : List Nat}, RdL M d ws vs O R → (∀ a, a ∈ O ∨ a ∈ R → M'[a]? = M[a]?) → RdL M' d ws vs O R
  | [], d, ws, O, R, h, _ => rdl_nil.mpr (rdl_nil.mp h)
  | v :: vs, d, ws, O, R, h, e => by
    obtain ⟨w, ws', O1, O2, R1, R2, h0, h1, h2, rfl, rfl⟩ := rdl_cons.mp h
    refine rdl_cons.mpr ⟨w, ws', O1, O2, R1, R2, h0, rd_agree v h1 ?_, rdl_agree vs h2 ?_, rfl, rfl⟩
    · intro a ha
      refine e a ?_
      rcases ha with ha | ha
      · exact .inl (List.mem_append_left _ ha)
      · exact .inr (List.mem_append_left _ ha)
    · intro a ha
      refine e a ?_
      rcases ha with ha | ha
      · exact .inl (List.mem_append_right _ ha)
      · exact .inr (List.mem_append_right _ ha)
end
theorem get_app {M L : Hm} {a : Nat} (h : a < M.length) : (M ++ L)[a]? = M[a]? := List.getElem?_append_left h
theorem rd_ext {M : Hm} (L : Hm) {v : V} {d : Nat} {w : W} {O R : List Nat} (h : Rd M d w v O R) : Rd (M ++ L) d w v O R := rd_agree v h fun a ha => get_app (rd_lt v h a ha)
theorem rdl_ext {M : Hm} (L : Hm) {vs : List V} {d : Nat} {ws : List W} {O R : List Nat} (h : RdL M d ws vs O R) : RdL (M ++ L) d ws vs O R := rdl_agree vs h fun a ha => get_app (rdl_lt vs h a ha)
mutual
theorem rd_fun {M : Hm} : ∀ (v v' : V) {d d' : Nat} {w : W} {O R O' R' : List Nat}, Rd M d w v O R → Rd M d' w v' O' R' → v = v'
  | .p x, v', d, d', w, O, R, O', R', h, h' => by
    obtain ⟨rfl, _, _⟩ := rd_p.mp h
    cases v' with
    | p y => obtain ⟨e, _, _⟩ := rd_p.mp h'; cases e; rfl
    | tup ys => obtain ⟨ws, e, _, _⟩ := rd_tup.mp h'; cases e
    | nd k ys => rcases rd_nd.mp h' with ⟨a, o, X, Y, e, _⟩ | ⟨_, xs, e, _⟩ <;> cases e
  | .tup vs, v', d, d', w, O, R, O', R', h, h' => by
    obtain ⟨ws, rfl, _, h⟩ := rd_tup.mp h
    cases v' with
    | p y => obtain ⟨e, _, _⟩ := rd_p.mp h'; cases e
    | tup ys => obtain ⟨ws', e, _, h'⟩ := rd_tup.mp h'; cases e; rw [rdl_fun vs ys h h']
    | nd k ys => rcases rd_nd.mp h' with ⟨a, o, X, Y, e, _⟩ | ⟨_, xs, e, _⟩ <;> cases e
  | .nd k vs, v', d, d', w, O, R, O', R', h, h' => by
    rcases rd_nd.mp h with ⟨a, o, X, Y, rfl, ha, hk, h, _⟩ | ⟨_, xs, rfl, rfl, rfl, _⟩
    · cases v' with
      | p y => obtain ⟨e, _, _⟩ := rd_p.mp h'; cases e
      | tup ys => obtain ⟨ws', e, _, h'⟩ := rd_tup.mp h'; cases e
      | nd k ys =>
        rcases rd_nd.mp h' with ⟨a, o, X, Y, e, ha', hk', hh, _⟩ | ⟨_, xs, e, _⟩
        · cases e
          rw [ha] at ha'
          cases ha'
          rw [hk] at hk'
          cases hk'
          rw [rdl_fun vs ys h hh]
        · cases e
    · cases v' with
      | p y => obtain ⟨e, _, _⟩ := rd_p.mp h'; cases e
      | tup ys => obtain ⟨ws', e, _, h'⟩ := rd_tup.mp h'; cases e
      | nd k ys =>
        rcases rd_nd.mp h' with ⟨a, o, X, Y, e, ha', hk', h', _⟩ | ⟨_, xs, e, rfl, rfl, _⟩
        · cases e
        · cases e; rfl
theorem rdl_fun {M : Hm} : ∀ (vs vs' : List V) {d d' : Nat} {ws : List W} {O R O' R' : List Nat}, RdL M d ws vs O R → RdL M d' ws vs' O' R' → vs = vs'
  | [], vs', d, d', ws, O, R, O', R', h, h' => by
    obtain ⟨rfl, _, _⟩ := rdl_nil.mp h
    cases vs' with
    | nil => rfl
    | cons y ys => obtain ⟨w, ws', _, _, _, _, e, _⟩ := rdl_cons.mp h'; cases e
  | v :: vs, vs', d, d', ws, O, R, O', R', h, h' => by
    obtain ⟨w, ws', O1, O2, R1, R2, rfl, h1, h2, _⟩ := rdl_cons.mp h
    cases vs' with
    | nil => obtain ⟨e, _, _⟩ := rdl_nil.mp h'; cases e
    | cons y ys =>
      obtain ⟨w, ws', _, _, _, _, e, h1', h2', _⟩ := rdl_cons.mp h'
      cases e
      rw [rd_fun v y h1 h1', rdl_fun vs ys h2 h2']
end
mutual
theorem rd_full {M : Hm} : ∀ (v : V) {d : Nat} {w : W} {O R : List Nat}, fullV d v = true → Rd M d w v O R → R = []
  | .p x, d, w, O, R, _, h => (rd_p.mp h).2.2
  | .tup vs, d, w, O, R, hf, h => by
    obtain ⟨ws, _, _, h⟩ := rd_tup.mp h
    rw [fullV] at hf
    exact rdl_full vs hf h
  | .nd k vs, d, w, O, R, hf, h => by
    rw [fullV, Bool.and_eq_true, decide_eq_true_eq] at hf
    rcases rd_nd.mp h with ⟨a, o, X, Y, _, _, _, h, h2⟩ | ⟨h, _⟩
    · rcases h2 with ⟨h3, _⟩ | ⟨_, _, rfl⟩
      · omega
      · exact rdl_full vs hf.2 h
    · omega
theorem rdl_full {M : Hm} : ∀ (vs : List V) {d : Nat} {ws : List W} {O R : List Nat}, fullVs d vs = true → RdL M d ws vs O R → R = []
  | [], d, ws, O, R, _, h => (rdl_nil.mp h).2.2
  | v :: vs, d, ws, O, R, hf, h => by
    rw [fullVs, Bool.and_eq_true] at hf
    obtain ⟨w, ws', O1, O2, R1, R2, _, h1, h2, _, rfl⟩ := rdl_cons.mp h
    rw [rd_full v hf.1 h1, rdl_full vs hf.2 h2]
    rfl
end
def Gd (O R : List Nat) : Prop := O.Nodup ∧ ∀ a ∈ R, a ∉ O
mutual
theorem rd_low {M : Hm} : ∀ (v : V) {d d' : Nat} {w : W} {O R : List Nat}, Rd M d w v O R → d' ≤ d → ∃ O' R', Rd M d' w v O' R' ∧ O'.Sublist O ∧ (∀ a ∈ R', a ∈ R ∨ a ∈ O) ∧ (Gd O R → ∀ a ∈ R', a ∉ O')
  | .p x, d, d', w, O, R, h, _ => by
    obtain ⟨rfl, rfl, rfl⟩ := rd_p.mp h
    exact ⟨[], [], rd_p.mpr ⟨rfl, rfl, rfl⟩, List.Sublist.refl _, by simp, by simp⟩
  | .tup vs, d, d', w, O, R, h, hd => by
    obtain ⟨ws, h1, h2, h⟩ := rd_tup.mp h
    obtain ⟨O', R', a, b⟩ := rdl_low vs h hd
    exact ⟨O', R', rd_tup.mpr ⟨ws, h1, h2, a⟩, b⟩
  | .nd k vs, d, d', w, O, R, h, hd => by
    rcases rd_nd.mp h with ⟨a, o, X, Y, rfl, ha, hk, hh, h2⟩ | ⟨rfl, hh⟩
    · obtain ⟨O', R', q1, q2, q3, q4⟩ := rdl_low vs hh (show d' - 1 ≤ d - 1 by omega)
      rcases h2 with ⟨rfl, rfl, rfl⟩ | ⟨h0, rfl, rfl⟩
      · cases Nat.le_zero.mp hd
        refine ⟨O, a :: Y, rd_nd.mpr (.inl ⟨a, o, O, Y, rfl, ha, hk, hh, .inl ⟨rfl, rfl, rfl⟩⟩), List.Sublist.refl _, fun b hb => .inl hb, fun g => g.2⟩
      · by_cases hz : d' = 0
        · subst hz
          refine ⟨O', a :: R', rd_nd.mpr (.inl ⟨a, o, O', R', rfl, ha, hk, q1, .inl ⟨rfl, rfl, rfl⟩⟩), List.Sublist.cons _ q2, ?_, ?_⟩
          · intro b hb
            rcases List.mem_cons.mp hb with rfl | hb
            · exact .inr List.mem_cons_self
            · rcases q3 b hb with h | h
              · exact .inl h
              · exact .inr (List.mem_cons_of_mem _ h)
          · have : O' = [] := rdl_zero vs q1
            subst this
            simp
        · refine ⟨a :: O', R', rd_nd.mpr (.inl ⟨a, o, O', R', rfl, ha, hk, q1, .inr ⟨by omega, rfl, rfl⟩⟩), List.Sublist.cons₂ _ q2, ?_, ?_⟩
          · intro b hb
            rcases q3 b hb with h | h
            · exact .inl h
            · exact .inr (List.mem_cons_of_mem _ h)
          · intro g b hb
            have g1 : a ∉ X ∧ X.Nodup := by simpa using g.1
            have g2 : Gd X R := ⟨g1.2, fun c hc hcx => g.2 c hc (List.mem_cons_of_mem _ hcx)⟩
            intro hb2
            rcases List.mem_cons.mp hb2 with rfl | hb2
            · rcases q3 b hb with h | h
              · exact g.2 b h List.mem_cons_self
              · exact g1.1 h
            · exact q4 g2 b hb hb2
    · cases Nat.le_zero.mp hd
      refine ⟨O, R, rd_nd.mpr (.inr ⟨rfl, hh⟩), List.Sublist.refl _, fun b hb => .inl hb, fun g => g.2⟩
theorem rdl_low {M : Hm} : ∀ (vs : List V) {d d' : Nat} {ws : List W} {O R : List Nat}, RdL M d ws vs O R → d' ≤ d → ∃ O' R', RdL M d' ws vs O' R' ∧ O'.Sublist O ∧ (∀ a ∈ R', a ∈ R ∨ a ∈ O) ∧ (Gd O R → ∀ a ∈ R', a ∉ O')
  | [], d, d', ws, O, R, h, _ => by
    obtain ⟨rfl, rfl, rfl⟩ := rdl_nil.mp h
    exact ⟨[], [], rdl_nil.mpr ⟨rfl, rfl, rfl⟩, List.Sublist.refl _, by simp, by simp⟩
  | v :: vs, d, d', ws, O, R, h, hd => by
    obtain ⟨w, ws', O1, O2, R1, R2, rfl, h1, h2, rfl, rfl⟩ := rdl_cons.mp h
    obtain ⟨O1', R1', a1, a2, a3, a4⟩ := rd_low v h1 hd
    obtain ⟨O2', R2', b1, b2, b3, b4⟩ := rdl_low vs h2 hd
    refine ⟨O1' ++ O2', R1' ++ R2', rdl_cons.mpr ⟨w, ws', O1', O2', R1', R2', rfl, a1, b1, rfl, rfl⟩, a2.append b2, ?_, ?_⟩
    · intro a ha
      simp only [List.mem_append] at ha ⊢
      rcases ha with ha | ha
      · rcases a3 a ha with h | h
        · exact .inl (.inl h)
        · exact .inr (.inl h)
      · rcases b3 a ha with h | h
        · exact .inl (.inr h)
        · exact .inr (.inr h)
    · intro g a ha hb
      have gn := List.nodup_append.mp g.1
      have g1 : Gd O1 R1 := ⟨gn.1, fun c hc hx => g.2 c (List.mem_append_left _ hc) (List.mem_append_left _ hx)⟩
      have g2 : Gd O2 R2 := ⟨gn.2.1, fun c hc hx => g.2 c (List.mem_append_right _ hc) (List.mem_append_right _ hx)⟩
      rcases List.mem_append.mp ha with ha | ha
      · rcases List.mem_append.mp hb with hb | hb
        · exact a4 g1 a ha hb
        · rcases a3 a ha with h | h
          · exact g.2 a (List.mem_append_left _ h) (List.mem_append_right _ (b2.subset hb))
          · exact gn.2.2 a h a (b2.subset hb) rfl
      · rcases List.mem_append.mp hb with hb | hb
        · rcases b3 a ha with h | h
          · exact g.2 a (List.mem_append_right _ h) (List.mem_append_left _ (a2.subset hb))
          · exact gn.2.2 a (a2.subset hb) a h rfl
        · exact b4 g2 a ha hb
end
theorem rdl_p {M : Hm} {d : Nat} : ∀ (xs : List P) {ws : List W} {O R : List Nat}, RdL M d ws (xs.map .p) O R ↔ ws = xs.map .p ∧ O = [] ∧ R = []
  | [], ws, O, R => rdl_nil
  | x :: xs, ws, O, R => by
    rw [List.map_cons, rdl_cons]
    constructor
    · rintro ⟨w, ws', O1, O2, R1, R2, rfl, h1, h2, rfl, rfl⟩
      obtain ⟨rfl, rfl, rfl⟩ := rd_p.mp h1
      obtain ⟨rfl, rfl, rfl⟩ := (rdl_p xs).mp h2
      exact ⟨rfl, rfl, rfl⟩
    · rintro ⟨rfl, rfl, rfl⟩
      exact ⟨_, _, [], [], [], [], rfl, rd_p.mpr ⟨rfl, rfl, rfl⟩, (rdl_p xs).mpr ⟨rfl, rfl, rfl⟩, rfl, rfl⟩
theorem vpures_some : ∀ {vs : List V} {xs : List P}, vpures vs = some xs → vs = xs.map .p
  | [], xs, h => by cases h; rfl
  | .p x :: vs, xs, h => by
    rw [vpures] at h
    cases h2 : vpures vs with
    | none => rw [h2] at h; cases h
    | some ys =>
      rw [h2] at h
      cases h
      rw [vpures_some h2]
      rfl
  | .tup _ :: _, xs, h => by cases h
  | .nd _ _ :: _, xs, h => by cases h
@[simp] theorem vpures_map : ∀ xs : List P, vpures (xs.map .p) = some xs
  | [] => rfl
  | x :: xs => by rw [List.map_cons, vpures, vpures_map xs]; rfl
theorem pures_some : ∀ {vs : List W} {xs : List P}, pures vs = some xs → vs = xs.map .p
  | [], xs, h => by cases h; rfl
  | .p x :: vs, xs, h => by
    rw [pures] at h
    cases h2 : pures vs with
    | none => rw [h2] at h; cases h
    | some ys =>
      rw [h2] at h
      cases h
      rw [pures_some h2]
      rfl
  | .tup _ :: _, xs, h => by cases h
  | .ref _ :: _, xs, h => by cases h
  | .fl _ :: _, xs, h => by cases h
theorem rdl_pures {M : Hm} {d : Nat} : ∀ (vs : List V) {ws : List W} {O R : List Nat}, RdL M d ws vs O R → pures ws = vpures vs
  | [], ws, O, R, h => by
    obtain ⟨rfl, _, _⟩ := rdl_nil.mp h
    rfl
  | v :: vs, ws, O, R, h => by
    obtain ⟨w, ws', O1, O2, R1, R2, rfl, h1, h2, _⟩ := rdl_cons.mp h
    cases v with
    | p x =>
      obtain ⟨rfl, _, _⟩ := rd_p.mp h1
      rw [pures, vpures, rdl_pures vs h2]
    | tup ys => obtain ⟨ws, rfl, _⟩ := rd_tup.mp h1; rfl
    | nd k ys => rcases rd_nd.mp h1 with ⟨a, o, X, Y, rfl, _⟩ | ⟨_, xs, rfl, _⟩ <;> rfl
theorem rdl_len {M : Hm} {d : Nat} : ∀ (vs : List V) {ws : List W} {O R : List Nat}, RdL M d ws vs O R → ws.length = vs.length
  | [], ws, O, R, h => by
    obtain ⟨rfl, _, _⟩ := rdl_nil.mp h
    rfl
  | v :: vs, ws, O, R, h => by
    obtain ⟨w, ws', O1, O2, R1, R2, rfl, h1, h2, _⟩ := rdl_cons.mp h
    rw [List.length_cons, List.length_cons, rdl_len vs h2]
theorem rdl_app {M : Hm} {d : Nat} : ∀ (vs us : List V) {ws xs : List W} {O R O' R' : List Nat}, RdL M d ws vs O R → RdL M d xs us O' R' → RdL M d (ws ++ xs) (vs ++ us) (O ++ O') (R ++ R')
  | [], us, ws, xs, O, R, O', R', h, h' => by
    obtain ⟨rfl, rfl, rfl⟩ := rdl_nil.mp h
    exact h'
  | v :: vs, us, ws, xs, O, R, O', R', h, h' => by
    obtain ⟨w, ws', O1, O2, R1, R2, rfl, h1, h2, rfl, rfl⟩ := rdl_cons.mp h
    have := rdl_app vs us h2 h'
    exact rdl_cons.mpr ⟨w, ws' ++ xs, O1, O2 ++ O', R1, R2 ++ R', rfl, h1, this, by simp, by simp⟩
theorem rdl_at {M : Hm} {d : Nat} : ∀ (vs : List V) {ws : List W} {O R : List Nat} (n : Nat) {v : V}, RdL M d ws vs O R → vs[n]? = some v → ∃ w O1 R1, ws[n]? = some w ∧ Rd M d w v O1 R1 ∧ O1.Sublist O ∧ (∀ a ∈ R1, a ∈ R)
  | [], ws, O, R, n, v, h, e => by simp at e
  | u :: vs, ws, O, R, 0, v, h, e => by
    obtain ⟨w, ws', O1, O2, R1, R2, rfl, h1, h2, rfl, rfl⟩ := rdl_cons.mp h
    cases e
    exact ⟨w, O1, R1, rfl, h1, List.sublist_append_left _ _, fun a ha => List.mem_append_left _ ha⟩
  | u :: vs, ws, O, R, n + 1, v, h, e => by
    obtain ⟨w, ws', O1, O2, R1, R2, rfl, h1, h2, rfl, rfl⟩ := rdl_cons.mp h
    obtain ⟨w', O', R', a, b, c, d⟩ := rdl_at vs n h2 e
    exact ⟨w', O', R', a, b, c.trans (List.sublist_append_right _ _), fun a ha => List.mem_append_right _ (d a ha)⟩
mutual
def below (n : Nat) : W → Bool
  | .p _ => true
  | .ref a => decide (a < n)
  | .tup ws => belows n ws
  | .fl _ => true
def belows (n : Nat) : List W → Bool
  | [] => true
  | w :: ws => below n w && belows n ws
end
theorem belows_mem {n : Nat} : ∀ {ws : List W}, belows n ws = true ↔ ∀ w ∈ ws, below n w = true
  | [] => by simp [belows]
  | w :: ws => by
    rw [belows, Bool.and_eq_true, belows_mem]
    simp
mutual
theorem below_mono {n m : Nat} (h : n ≤ m) : ∀ w : W, below n w = true → below m w = true
  | .p _, _ => rfl
  | .ref a, e => by
    simp only [below, decide_eq_true_eq] at e ⊢
    omega
  | .tup ws, e => by
    rw [below] at e ⊢
    exact belows_mono h ws e
  | .fl _, _ => rfl
theorem belows_mono {n m : Nat} (h : n ≤ m) : ∀ ws : List W, belows n ws = true → belows m ws = true
  | [], _ => rfl
  | w :: ws, e => by
    rw [belows, Bool.and_eq_true] at e ⊢
    exact ⟨below_mono h w e.1, belows_mono h ws e.2⟩
end
def Clo (M : Hm) : Prop := ∀ o ∈ M, belows M.length (kidsO o) = true
theorem clo_nil : Clo [] := by intro o ho; cases ho
theorem clo_app {M L : Hm} (h : Clo M) (hl : ∀ o ∈ L, belows (M.length + L.length) (kidsO o) = true) : Clo (M ++ L) := by
  intro o ho
  rw [List.length_append]
  rcases List.mem_append.mp ho with ho | ho
  · exact belows_mono (by omega) _ (h o ho)
  · exact hl o ho
theorem clo_one {M : Hm} {o : MO} (h : Clo M) (hl : belows M.length (kidsO o) = true) : Clo (M ++ [o]) :=
  clo_app h fun x hx => by
    cases List.mem_singleton.mp hx
    exact belows_mono (by simp) _ hl
theorem clo_set {M : Hm} {a : Nat} {o : MO} (h : Clo M) (hl : belows M.length (kidsO o) = true) : Clo (M.set a o) := by
  intro x hx
  rw [List.length_set]
  rcases List.mem_or_eq_of_mem_set hx with hx | rfl
  · exact h x hx
  · exact hl
theorem clo_at {M : Hm} {a : Nat} {o : MO} (h : Clo M) (ha : M[a]? = some o) : belows M.length (kidsO o) = true := h o (List.mem_of_getElem? ha)
mutual
theorem rd_below {M : Hm} : ∀ (v : V) {d : Nat} {w : W} {O R : List Nat}, Rd M d w v O R → below M.length w = true
  | .p x, d, w, O, R, h => by
    obtain ⟨rfl, rfl, rfl⟩ := rd_p.mp h
    rfl
  | .tup vs, d, w, O, R, h => by
    obtain ⟨ws, rfl, _, h⟩ := rd_tup.mp h
    exact rdl_below vs h
  | .nd k vs, d, w, O, R, h => by
    rcases rd_nd.mp h with ⟨a, o, X, Y, rfl, ha, _, h, h2⟩ | ⟨_, xs, rfl, _, _, rfl, rfl⟩
    · simp only [below, decide_eq_true_eq]
      exact lt_of_get ha
    · rfl
theorem rdl_below {M : Hm} : ∀ (vs : List V) {d : Nat} {ws : List W} {O R : List Nat}, RdL M d ws vs O R → belows M.length ws = true
  | [], d, ws, O, R, h => by
    obtain ⟨rfl, rfl, rfl⟩ := rdl_nil.mp h
    rfl
  | v :: vs, d, ws, O, R, h => by
    obtain ⟨w, ws', O1, O2, R1, R2, rfl, h1, h2, rfl, rfl⟩ := rdl_cons.mp h
    rw [belows, rd_below v h1, rdl_below vs h2]
    rfl
end
mutual
theorem rd_cut {M L : Hm} (hc : Clo M) : ∀ (v : V) {d : Nat} {w : W} {O R : List Nat}, below M.length w = true → Rd (M ++ L) d w v O R → Rd M d w v O R
  | .p x, d, w, O, R, _, h => rd_p.mpr (rd_p.mp h)
  | .tup vs, d, w, O, R, hb, h => by
    obtain ⟨ws, rfl, h2, h⟩ := rd_tup.mp h
    rw [below] at hb
    exact rd_tup.mpr ⟨ws, rfl, h2, rdl_cut hc vs hb h⟩
  | .nd k vs, d, w, O, R, hb, h => by
    rcases rd_nd.mp h with ⟨a, o, X, Y, rfl, ha, h3, h, h2⟩ | h
    · simp only [below, decide_eq_true_eq] at hb
      rw [get_app hb] at ha
      exact rd_nd.mpr (.inl ⟨a, o, X, Y, rfl, ha, h3, rdl_cut hc vs (clo_at hc ha) h, h2⟩)
    · exact rd_nd.mpr (.inr h)
theorem rdl_cut {M L : Hm} (hc : Clo M) : ∀ (vs : List V) {d : Nat} {ws : List W} {O R : List Nat}, belows M.length ws = true → RdL (M ++ L) d ws vs O R → RdL M d ws vs O R
  | [], d, ws, O, R, _, h => rdl_nil.mpr (rdl_nil.mp h)
  | v :: vs, d, ws, O, R, hb, h => by
    obtain ⟨w, ws', O1, O2, R1, R2, rfl, h1, h2, rfl, rfl⟩ := rdl_cons.mp h
    rw [belows, Bool.and_eq_true] at hb
    exact rdl_cons.mpr ⟨w, ws', O1, O2, R1, R2, rfl, rd_cut hc v hb.1 h1, rdl_cut hc vs hb.2 h2, rfl, rfl⟩
end
end Vl

namespace Vl
open PySem Mi
inductive F2 {α β : Type} (r : α → β → Prop) : List α → List β → Prop where
  | nil : F2 r [] []
  | cons {a b s t} : r a b → F2 r s t → F2 r (a :: s) (b :: t)
namespace F2
variable {α β : Type} {r : α → β → Prop}
theorem len {s : List α} {t : List β} (h : F2 r s t) : s.length = t.length := by induction h <;> simp_all
theorem app {s s' : List α} {t t' : List β} (h : F2 r s t) (h' : F2 r s' t') : F2 r (s ++ s') (t ++ t') := by
  induction h with
  | nil => exact h'
  | cons a _ ih => exact .cons a ih
theorem take {s : List α} {t : List β} (h : F2 r s t) : ∀ n, F2 r (s.take n) (t.take n) := by
  induction h with
  | nil => intro n; simp; exact .nil
  | cons a _ ih =>
    intro n
    cases n with
    | zero => exact .nil
    | succ n => exact .cons a (ih n)
theorem drop {s : List α} {t : List β} (h : F2 r s t) : ∀ n, F2 r (s.drop n) (t.drop n) := by
  induction h with
  | nil => intro n; simp; exact .nil
  | cons a b ih =>
    intro n
    cases n with
    | zero => exact .cons a b
    | succ n => exact ih n
theorem rev {s : List α} {t : List β} (h : F2 r s t) : F2 r s.reverse t.reverse := by
  induction h with
  | nil => exact .nil
  | cons a _ ih =>
    rw [List.reverse_cons, List.reverse_cons]
    exact ih.app (.cons a .nil)
theorem at' {s : List α} {t : List β} (h : F2 r s t) : ∀ (n : Nat) (b : β), t[n]? = some b → ∃ a, s[n]? = some a ∧ r a b := by
  induction h with
  | nil => intro n b e; simp at e
  | cons a _ ih =>
    intro n b e
    cases n with
    | zero => cases e; exact ⟨_, rfl, a⟩
    | succ n => exact ih n b e
theorem set {s : List α} {t : List β} (h : F2 r s t) : ∀ n {a b}, r a b → F2 r (s.set n a) (t.set n b) := by
  induction h with
  | nil => intro n a b _; exact .nil
  | cons a hh ih =>
    intro n x y e
    cases n with
    | zero => exact .cons e hh
    | succ n => exact .cons a (ih n e)
theorem imp {q : α → β → Prop} {s : List α} {t : List β} (h : F2 r s t) (f : ∀ a b, r a b → q a b) : F2 q s t := by
  induction h with
  | nil => exact .nil
  | cons a _ ih => exact .cons (f _ _ a) ih
theorem rep {s : List α} {t : List β} (h : F2 r s t) : ∀ n, F2 r (List.replicate n s).flatten (List.replicate n t).flatten
  | 0 => .nil
  | n + 1 => by
    rw [List.replicate_succ, List.replicate_succ, List.flatten_cons, List.flatten_cons]
    exact h.app (rep h n)
theorem dropLast {s : List α} {t : List β} (h : F2 r s t) : F2 r s.dropLast t.dropLast := by
  rw [List.dropLast_eq_take, List.dropLast_eq_take, h.len]
  exact h.take _
theorem diag {s : List α} {t : List β} : (∀ (n : Nat) (a : α) (b : β), s[n]? = some a → t[n]? = some b → r a b) → s.length = t.length → F2 r s t := by
  induction s generalizing t with
  | nil => intro _ h; cases t with
    | nil => exact .nil
    | cons => simp at h
  | cons a s ih =>
    intro h hl
    cases t with
    | nil => simp at hl
    | cons b t => exact .cons (h 0 a b rfl rfl) (ih (fun n => h (n + 1)) (by simpa using hl))
end F2
section
variable {m : Nat} {A : Nat → Prop} {M : Hm}
def Al (A : Nat → Prop) (M : Hm) (w : W) (v : V) : Prop := ∃ R, Rd M 0 w v [] R ∧ ∀ a ∈ R, A a
theorem al_l : ∀ {vs : List V} {ws : List W}, (∃ R, RdL M 0 ws vs [] R ∧ ∀ a ∈ R, A a) ↔ F2 (Al A M) ws vs
  | [], ws => by
    constructor
    · rintro ⟨R, h, _⟩
      obtain ⟨rfl, _, _⟩ := rdl_nil.mp h
      exact .nil
    · intro h
      cases h
      exact ⟨[], rdl_nil.mpr ⟨rfl, rfl, rfl⟩, by simp⟩
  | v :: vs, ws => by
    constructor
    · rintro ⟨R, h, hA⟩
      obtain ⟨w, ws', O1, O2, R1, R2, rfl, h1, h2, e, rfl⟩ := rdl_cons.mp h
      have e1 := rd_zero v h1
      have e2 := rdl_zero vs h2
      subst e1 e2
      exact .cons ⟨R1, h1, fun a ha => hA a (List.mem_append_left _ ha)⟩ (al_l.mp ⟨R2, h2, fun a ha => hA a (List.mem_append_right _ ha)⟩)
    · intro h
      cases h with
      | cons h1 h2 =>
        obtain ⟨R1, a1, b1⟩ := h1
        obtain ⟨R2, a2, b2⟩ := al_l.mpr h2
        refine ⟨R1 ++ R2, rdl_cons.mpr ⟨_, _, [], [], R1, R2, rfl, a1, a2, rfl, rfl⟩, fun a ha => ?_⟩
        rcases List.mem_append.mp ha with h | h
        · exact b1 a h
        · exact b2 a h
theorem al_p {w : W} {x : P} : Al A M w (.p x) ↔ w = .p x := by
  constructor
  · rintro ⟨R, h, _⟩
    exact (rd_p.mp h).1
  · rintro rfl
    exact ⟨[], rd_p.mpr ⟨rfl, rfl, rfl⟩, by simp⟩
theorem al_ps {ws : List W} : ∀ {xs : List P}, F2 (Al A M) ws (xs.map .p) ↔ ws = xs.map .p
  | [] => by
    constructor
    · intro h; cases h; rfl
    · rintro rfl; exact .nil
  | x :: xs => by
    constructor
    · intro h
      cases h with
      | cons a b =>
        rw [al_p.mp a, al_ps.mp b]
        rfl
    · rintro rfl
      exact .cons (al_p.mpr rfl) (al_ps.mpr rfl)
theorem al_tup {w : W} {vs : List V} : Al A M w (.tup vs) ↔ ∃ ws, w = .tup ws ∧ pures ws = none ∧ F2 (Al A M) ws vs := by
  constructor
  · rintro ⟨R, h, hA⟩
    obtain ⟨ws, a, b, h⟩ := rd_tup.mp h
    exact ⟨ws, a, b, al_l.mp ⟨R, h, hA⟩⟩
  · rintro ⟨ws, a, b, h⟩
    obtain ⟨R, h, hA⟩ := al_l.mpr h
    exact ⟨R, rd_tup.mpr ⟨ws, a, b, h⟩, hA⟩
theorem al_fl {w : W} {vs : List V} (h : Al A M w (.nd .fl vs)) : ∃ xs : List P, w = .fl xs ∧ vs = xs.map .p := by
  obtain ⟨R, h, hA⟩ := h
  rcases rd_nd.mp h with ⟨a, o, X, Y, rfl, ha, hk, _⟩ | ⟨_, xs, rfl, _, rfl, _⟩
  · cases o <;> cases hk
  · exact ⟨xs, rfl, rfl⟩
theorem al_nd {w : W} {k : Kd} {vs : List V} (hk : k ≠ .fl) (h : Al A M w (.nd k vs)) : ∃ a o, w = .ref a ∧ M[a]? = some o ∧ kdO o = some k ∧ F2 (Al A M) (kidsO o) vs ∧ A a := by
  obtain ⟨R, h, hA⟩ := h
  rcases rd_nd.mp h with ⟨a, o, X, Y, rfl, ha, hk, hh, h2⟩ | ⟨_, xs, rfl, e, rfl, _⟩
  · rcases h2 with ⟨_, rfl, rfl⟩ | ⟨h2, _⟩
    · exact ⟨a, o, rfl, ha, hk, al_l.mp ⟨Y, hh, fun b hb => hA b (List.mem_cons_of_mem _ hb)⟩, hA a List.mem_cons_self⟩
    · omega
  · exact absurd e hk
theorem al_mk {a : Nat} {o : MO} {k : Kd} {vs : List V} (ha : M[a]? = some o) (hk : kdO o = some k) (h : F2 (Al A M) (kidsO o) vs) (hA : A a) : Al A M (.ref a) (.nd k vs) := by
  obtain ⟨R, h, hR⟩ := al_l.mpr h
  refine ⟨a :: R, rd_nd.mpr (.inl ⟨a, o, [], R, rfl, ha, hk, h, .inl ⟨rfl, rfl, rfl⟩⟩), fun b hb => ?_⟩
  rcases List.mem_cons.mp hb with rfl | hb
  · exact hA
  · exact hR b hb
theorem al_lst {w : W} {vs : List V} (h : Al A M w (.nd .lst vs)) : ∃ a ws, w = .ref a ∧ M[a]? = some (.lst ws) ∧ F2 (Al A M) ws vs ∧ A a := by
  obtain ⟨a, o, rfl, ha, hk, hh, hA⟩ := al_nd (by decide) h
  cases o with
  | lst ws => exact ⟨a, ws, rfl, ha, hh, hA⟩
  | _ => cases hk
theorem al_dic {w : W} {ks : List P} {vs : List V} (h : Al A M w (.nd (.dic ks) vs)) : ∃ a kvs, w = .ref a ∧ M[a]? = some (.dic kvs) ∧ ks = kvs.map (·.1) ∧ F2 (Al A M) (kvs.map (·.2)) vs ∧ A a := by
  obtain ⟨a, o, rfl, ha, hk, hh, hA⟩ := al_nd (by intro e; cases e) h
  cases o with
  | dic kvs => cases hk; exact ⟨a, kvs, rfl, ha, rfl, hh, hA⟩
  | _ => cases hk
theorem al_ext (L : Hm) {w : W} {v : V} (h : Al A M w v) : Al A (M ++ L) w v := by
  obtain ⟨R, h, hA⟩ := h
  exact ⟨R, rd_ext L h, hA⟩
theorem al_below {w : W} {v : V} (h : Al A M w v) : below M.length w = true := by
  obtain ⟨R, h, hA⟩ := h
  exact rd_below v h
theorem als_below {ws : List W} {vs : List V} (h : F2 (Al A M) ws vs) : belows M.length ws = true := by
  induction h with
  | nil => rfl
  | cons a _ ih => rw [belows, al_below a, ih]; rfl
def Rs (m : Nat) (A : Nat → Prop) (M : Hm) (d : Nat) (w : W) (v : V) : Prop := ∃ O R, Rd M d w v O R ∧ Gd O R ∧ (∀ a ∈ O, m ≤ a) ∧ ∀ a ∈ R, A a
theorem rs_al {d : Nat} {w : W} {v : V} (hA : ∀ a, m ≤ a → A a) (h : Rs m A M d w v) : Al A M w v := by
  obtain ⟨O, R, h, g, h1, h2⟩ := h
  obtain ⟨O', R', a, b, c, _⟩ := rd_low v h (Nat.zero_le d)
  have e := rd_zero v a
  subst e
  refine ⟨R', a, fun x hx => ?_⟩
  rcases c x hx with h | h
  · exact h2 x h
  · exact hA x (h1 x h)
theorem al_rs {w : W} {v : V} (h : Al A M w v) : Rs m A M 0 w v := by
  obtain ⟨R, h, hA⟩ := h
  exact ⟨[], R, h, ⟨List.nodup_nil, by simp⟩, by simp, hA⟩
theorem rs_p {d : Nat} {x : P} : Rs m A M d (.p x) (.p x) := ⟨[], [], rd_p.mpr ⟨rfl, rfl, rfl⟩, ⟨List.nodup_nil, by simp⟩, by simp, by simp⟩
def Pst (m : Nat) (A : Nat → Prop) (M : Hm) (r : RV VD) (mi : R W) : Prop := match r with
  | .ok v => ∃ w L, mi = .ok w (M ++ L) ∧ Clo (M ++ L) ∧ Rs m A (M ++ L) v.2 w v.1
  | .err c fs => ∃ L, mi = .err c fs (M ++ L) ∧ Clo (M ++ L)
  | .bad => True
theorem pst_bad {mi : R W} : Pst m A M .bad mi := trivial
theorem pst_p (hc : Clo M) {x : P} {d : Nat} : Pst m A M (.ok (.p x, d)) (.ok (.p x) M) := ⟨.p x, [], by rw [List.append_nil], by rw [List.append_nil]; exact hc, by rw [List.append_nil]; exact rs_p⟩
theorem pst_al (hc : Clo M) {w : W} {v : V} (h : Al A M w v) : Pst m A M (.ok (v, 0)) (.ok w M) := ⟨w, [], by rw [List.append_nil], by rw [List.append_nil]; exact hc, by rw [List.append_nil]; exact al_rs h⟩
theorem pst_rs (hc : Clo M) {w : W} {v : V} {d : Nat} (h : Rs m A M d w v) : Pst m A M (.ok (v, d)) (.ok w M) := ⟨w, [], by rw [List.append_nil], by rw [List.append_nil]; exact hc, by rw [List.append_nil]; exact h⟩
theorem pst_new (hc : Clo M) (hm : m ≤ M.length) {o : MO} {k : Kd} {vs : List V} (hk : kdO o = some k) (h : F2 (Al A M) (kidsO o) vs) : Pst m A M (.ok (.nd k vs, 1)) (newO o M) := by
  obtain ⟨R, h2, hA⟩ := al_l.mpr h
  refine ⟨.ref M.length, [o], rfl, clo_one hc (als_below h), [M.length], R, rd_nd.mpr (.inl ⟨M.length, o, [], R, rfl, by simp, hk, rdl_ext _ h2, .inr ⟨Nat.one_pos, rfl, rfl⟩⟩), ⟨by simp, fun a ha => ?_⟩, by simp; exact hm, hA⟩
  have := rdl_lt vs h2 a (.inr ha)
  simp
  omega
theorem pst_newL (hc : Clo M) (hm : m ≤ M.length) {ws : List W} {vs : List V} (h : F2 (Al A M) ws vs) : Pst m A M (.ok (.lst vs, 1)) (newO (.lst ws) M) := pst_new hc hm (o := .lst ws) rfl h
theorem pst_bnd {r : RV VD} {mi : R W} {k : VD → RV VD} {k' : W → Hm → R W} (h : Pst m A M r mi) (hk : ∀ v w L, Clo (M ++ L) → Rs m A (M ++ L) v.2 w v.1 → Pst m A (M ++ L) (k v) (k' w (M ++ L))) : Pst m A M (r.bnd k) (mi.bnd k') := by
  cases r with
  | ok v =>
    obtain ⟨w, L, rfl, hc, h⟩ := h
    have := hk v w L hc h
    rw [RV.bnd_ok, R.bnd_ok]
    revert this
    cases k v with
    | ok v =>
      rintro ⟨w, L', e, hc, h⟩
      rw [e]
      exact ⟨w, L ++ L', by rw [List.append_assoc], by rw [← List.append_assoc]; exact hc, by rw [← List.append_assoc]; exact h⟩
    | err c fs =>
      rintro ⟨L', e, hc⟩
      rw [e]
      exact ⟨L ++ L', by rw [List.append_assoc], by rw [← List.append_assoc]; exact hc⟩
    | bad => intro _; exact trivial
  | err c fs =>
    obtain ⟨L, rfl, hc⟩ := h
    exact ⟨L, rfl, hc⟩
  | bad => exact trivial
theorem pst_up {m' : Nat} (h : m ≤ m') {r : RV VD} {mi : R W} (p : Pst m' A M r mi) : Pst m A M r mi := by
  cases r with
  | ok v =>
    obtain ⟨w, L, e, hc, O, R, a, b, c, d⟩ := p
    exact ⟨w, L, e, hc, O, R, a, b, fun x hx => Nat.le_trans h (c x hx), d⟩
  | err c fs => exact p
  | bad => exact trivial
theorem toD_of {n : Nat} : ∀ {v : V} {w : W} {d : PyData}, Al A M w v → toDV n v = some d → toD M n w = some d := by
  induction n with
  | zero =>
    intro v w d h e
    cases v with
    | p x => rw [al_p.mp h]; simpa [toDV, toD] using e
    | tup vs => simp [toDV] at e
    | nd k vs => simp [toDV] at e
  | succ n ih =>
    have key : ∀ {vs : List V} {ws : List W} {ds : List PyData}, F2 (Al A M) ws vs → mapO (toDV n) vs = some ds → mapO (toD M n) ws = some ds := by
      intro vs ws ds h
      induction h generalizing ds with
      | nil => exact fun e => e
      | @cons w v ws vs h1 h2 ih2 =>
        intro e
        rw [mapO] at e
        cases h3 : toDV n v with
        | none => rw [h3] at e; cases e
        | some d =>
          rw [h3] at e
          cases h4 : mapO (toDV n) vs with
          | none => simp only [h4] at e; cases e
          | some ds' =>
            simp only [h4] at e
            cases e
            rw [mapO, ih h1 h3, ih2 h4]
            rfl
    intro v w d h e
    cases v with
    | p x => rw [al_p.mp h]; simpa [toDV, toD] using e
    | tup vs =>
      obtain ⟨ws, rfl, _, h2⟩ := al_tup.mp h
      simp only [toDV] at e
      simp only [toD]
      cases h3 : mapO (toDV n) vs with
      | none => rw [h3] at e; cases e
      | some ds => rw [h3] at e; rw [key h2 h3]; exact e
    | nd k vs =>
      cases k with
      | lst =>
        obtain ⟨a, ws, rfl, ha, h2, _⟩ := al_lst h
        simp only [toDV] at e
        simp only [toD, ha]
        cases h3 : mapO (toDV n) vs with
        | none => rw [h3] at e; cases e
        | some ds => rw [h3] at e; rw [key h2 h3]; exact e
      | _ => simp [toDV] at e
theorem data_of {v : V} {w : W} {d : PyData} (h : Al A M w v) (e : dataV v = some d) : dataOf M w = some d := by
  unfold dataV at e
  unfold dataOf
  cases h2 : toDV deepest v with
  | none => rw [h2] at e; cases e
  | some d' => rw [h2] at e; rw [toD_of h h2]; exact e
theorem dataOf_dic {a : Nat} {kvs : List (P × W)} (h : M[a]? = some (.dic kvs)) : dataOf M (.ref a) = none := by
  have : toD M deepest (.ref a) = none := by
    show (match M[a]? with
      | some (.lst xs) => (mapO (toD M 7) xs).map PyData.list
      | _ => none) = _
    rw [h]
  simp only [dataOf, this]
theorem keysOk_eq (kvs : List (P × W)) (y : P) : keysOk (kvs.map (·.1)) y = dictOk kvs y := by
  cases kvs <;> rfl
theorem dget_kidx (y : P) : ∀ kvs : List (P × W), dget kvs y = (kidx (kvs.map (·.1)) y).bind fun n => (kvs.map (·.2))[n]?
  | [] => rfl
  | q :: kvs => by
    have ih := dget_kidx y kvs
    unfold dget at ih ⊢
    rw [List.lookup_cons, List.map_cons, kidx]
    by_cases h : q.1 = y
    · subst h
      simp
    · have h2 : (y == q.1) = false := by
        rw [beq_eq_false_iff_ne]
        exact fun e => h e.symm
      rw [h2, if_neg h, ih]
      cases kidx (kvs.map (·.1)) y <;> simp
theorem kidx_lt {y : P} : ∀ {ks : List P} {n : Nat}, kidx ks y = some n → n < ks.length
  | k :: ks, n, h => by
    rw [kidx] at h
    split at h
    · cases h; simp
    · cases h2 : kidx ks y with
      | none => rw [h2] at h; cases h
      | some j => rw [h2] at h; cases h; have := kidx_lt h2; simp; omega
  | [], n, h => by cases h
theorem dget_some (y : P) (kvs : List (P × W)) : (dget kvs y).isSome = (kidx (kvs.map (·.1)) y).isSome := by
  rw [dget_kidx]
  cases h : kidx (kvs.map (·.1)) y with
  | none => rfl
  | some n =>
    have := kidx_lt h
    rw [List.length_map] at this
    simp [this]
theorem in_of {x c : V} {wx wc : W} {b : Bool} (hx : Al A M wx x) (hc : Al A M wc c) (e : inVV x c = some b) : inV M wx wc = some b := by
  unfold inVV at e
  unfold inV
  split at e
  · rw [al_p.mp hc]
    split at e
    · rw [al_p.mp hx]; exact e
    · cases e
  · obtain ⟨a, kvs, rfl, ha, rfl, _⟩ := al_dic hc
    split at e
    · rw [al_p.mp hx]
      simp only [dataOf_dic ha, ha]
      rw [keysOk_eq] at e
      rw [dget_some]
      exact e
    · cases e
  · rename_i h1 h2
    have hns : ∀ y, wc ≠ .p (.str y) := by
      intro y ey
      subst ey
      obtain ⟨R, h, _⟩ := hc
      cases c with
      | p z => obtain ⟨e, _⟩ := rd_p.mp h; cases e; exact h1 y rfl
      | tup vs => obtain ⟨ws, e, _⟩ := rd_tup.mp h; cases e
      | nd k vs => rcases rd_nd.mp h with ⟨_, _, _, _, e, _⟩ | ⟨_, _, e, _⟩ <;> cases e
    split at e
    · rename_i ds d e1 e2
      rw [data_of hc e1, data_of hx e2]
      split
      · rename_i y; exact absurd rfl (hns y)
      · exact e
    · rename_i ds d e1 e2
      rw [data_of hc e1, data_of hx e2]
      split
      · rename_i y; exact absurd rfl (hns y)
      · exact e
    · cases e
theorem eq_of {x y : V} {wx wy : W} {b : Bool} (hx : Al A M wx x) (hy : Al A M wy y) (e : eqVV x y = some b) : eqW M wx wy = some b := by
  unfold eqVV at e
  unfold eqW
  split at e
  · rename_i e1 e2
    rw [data_of hx e1, data_of hy e2]
    exact e
  · cases e
theorem lt_of {x y : V} {wx wy : W} {b : Bool} (hx : Al A M wx x) (hy : Al A M wy y) (e : ltVV x y = some b) : ltW M wx wy = some b := by
  unfold ltVV at e
  unfold ltW
  split at e
  · rename_i e1 e2
    rw [data_of hx e1, data_of hy e2]
    exact e
  · cases e
theorem is_of {x y : V} {wx wy : W} {b : Bool} (hx : Al A M wx x) (hy : Al A M wy y) (e : isVV x y = some b) : isV M wx wy = some b := by
  have np : ∀ {v : V} {w : W}, Al A M w v → (∀ z, v ≠ .p z) → ∀ z, w ≠ .p z := by
    intro v w h hv z ez
    subst ez
    obtain ⟨R, h, _⟩ := h
    cases v with
    | p z => exact hv z rfl
    | tup vs => obtain ⟨ws, e, _⟩ := rd_tup.mp h; cases e
    | nd k vs => rcases rd_nd.mp h with ⟨_, _, _, _, e, _⟩ | ⟨_, _, e, _⟩ <;> cases e
  have fl : ∀ a : P, (V.p a).flat = (W.p a).flat := by intro a; cases a <;> rfl
  unfold isVV at e
  unfold isV
  split at e
  · rename_i a b'
    rw [al_p.mp hx, al_p.mp hy]
    rw [fl, fl] at e
    split at e
    · rename_i h
      rw [if_pos h]
      cases e
      simp
    · cases e
  · rename_i a _ h2
    rw [al_p.mp hx]
    rw [fl] at e
    split at e
    · rename_i h
      cases e
      rw [h, Bool.true_or, if_pos rfl]
      have := np hy (fun z hz => h2 z hz)
      congr 1
      exact decide_eq_false fun e => this _ e.symm
    · cases e
  · rename_i b' h1
    rw [al_p.mp hy]
    rw [fl] at e
    split at e
    · rename_i h
      cases e
      rw [h, Bool.or_true, if_pos rfl]
      have := np hx (fun z hz => h1 z hz)
      congr 1
      exact decide_eq_false fun e => this _ e
    · cases e
  · cases e
theorem cmp_of {o : CmpOp} {x y : V} {wx wy : W} {b : Bool} (hx : Al A M wx x) (hy : Al A M wy y) (e : cmpVV o x y = some b) : cmpV o wx wy M = some b := by
  have nt : ∀ {p q : Option Bool}, (∀ c, p = some c → q = some c) → p.map (!·) = some b → q.map (!·) = some b := by
    intro p q h h2
    cases p with
    | none => cases h2
    | some c => rw [h c rfl]; exact h2
  cases o with
  | Eq => exact eq_of hx hy e
  | NotEq => exact nt (fun c => eq_of hx hy) e
  | Lt => exact lt_of hx hy e
  | Gt => exact lt_of hy hx e
  | LtE => exact nt (fun c => lt_of hy hx) e
  | GtE => exact nt (fun c => lt_of hx hy) e
  | Is => exact is_of hx hy e
  | IsNot => exact nt (fun c => is_of hx hy) e
  | In => exact in_of hx hy e
  | NotIn => exact nt (fun c => in_of hx hy) e
theorem op_of {o : Op} {x y : V} {wx wy : W} (hc : Clo M) (hm : m ≤ M.length) (hx : Al A M wx x) (hy : Al A M wy y) : Pst m A M (opVV o x y) (opV o wx wy M) := by
  unfold opVV
  split
  · unfold addVV
    split
    · rw [al_p.mp hx, al_p.mp hy]; exact pst_p hc
    · rw [al_p.mp hx, al_p.mp hy]
      show Pst m A M _ (if _ then _ else _)
      split
      · exact pst_p hc
      · exact pst_bad
    · obtain ⟨a, ws, rfl, ha, h1, _⟩ := al_lst hx
      obtain ⟨b, us, rfl, hb, h2, _⟩ := al_lst hy
      show Pst m A M _ (match M[a]?, M[b]? with
        | some (.lst xs), some (.lst ys) => if xs.length + ys.length ≤ big then newO (.lst (xs ++ ys)) M else .bad
        | _, _ => .bad)
      rw [ha, hb, ← h1.len, ← h2.len]
      simp only
      split
      · exact pst_newL hc hm (h1.app h2)
      · exact pst_bad
    · rw [al_p.mp hx, al_p.mp hy]
      show Pst m A M _ (if (List.map W.p _).length + (List.map W.p _).length ≤ big then _ else _)
      rw [List.length_map, List.length_map]
      split
      · rw [← List.map_append, show ∀ ts : List P, mkTup (ts.map W.p) = .p (.tup ts) from fun ts => by
          unfold mkTup
          rw [show pures (ts.map W.p) = some ts from by
            induction ts with
            | nil => rfl
            | cons t ts ih => rw [List.map_cons, pures, ih]; rfl]]
        exact pst_p hc
      · exact pst_bad
    · exact pst_bad
  · rw [al_p.mp hx, al_p.mp hy]; exact pst_p hc
  · rw [al_p.mp hx, al_p.mp hy]
    show Pst m A M _ (if _ then _ else _)
    split
    · exact pst_p hc
    · exact pst_bad
  · rename_i xs j
    obtain ⟨a, ws, rfl, ha, h1, _⟩ := al_lst hx
    rw [al_p.mp hy]
    show Pst m A M _ (match M[a]? with
      | some (.lst xs) => if j < 1000000 ∧ -1000000 < j ∧ xs.length * j.toNat ≤ big then newO (.lst (List.replicate j.toNat xs).flatten) M else .bad
      | _ => .bad)
    rw [ha, ← h1.len]
    simp only
    split
    · exact pst_newL hc hm (h1.rep _)
    · exact pst_bad
  · rw [al_p.mp hx, al_p.mp hy]
    show Pst m A M _ (if _ then _ else _)
    split
    · exact pst_p hc
    · exact pst_bad
  · rw [al_p.mp hx, al_p.mp hy]
    show Pst m A M _ (if _ then _ else _)
    split
    · exact pst_p hc
    · exact pst_bad
  · rw [al_p.mp hx, al_p.mp hy]
    show Pst m A M _ (if _ then _ else _)
    split
    · exact pst_p hc
    · exact pst_bad
  · exact pst_bad
theorem atW_some {α : Type} {xs : List α} {i : Int} {x : α} (h : atW xs i = some x) : ∃ n, Mi.placeOf xs.length i = some n ∧ xs[n]? = some x := by
  unfold atW at h
  cases h2 : Mi.placeOf xs.length i with
  | none => rw [h2] at h; cases h
  | some n => rw [h2] at h; exact ⟨n, rfl, h⟩
theorem atW_mk {α : Type} {xs : List α} {i : Int} {n : Nat} (h : Mi.placeOf xs.length i = some n) : atW xs i = xs[n]? := by
  unfold atW
  rw [h]
  rfl
theorem atW_map {α β : Type} (f : α → β) (xs : List α) (i : Int) : atW (xs.map f) i = (atW xs i).map f := by
  unfold atW
  rw [List.length_map]
  cases Mi.placeOf xs.length i with
  | none => rfl
  | some n => simp
theorem rs_nd {d : Nat} {w : W} {k : Kd} {vs : List V} (hk : k ≠ .fl) (h : Rs m A M d w (.nd k vs)) : ∃ a o, w = .ref a ∧ M[a]? = some o ∧ kdO o = some k ∧ (kidsO o).length = vs.length ∧ ∀ (n : Nat) (v : V), vs[n]? = some v → ∃ u, (kidsO o)[n]? = some u ∧ Rs m A M (d - 1) u v := by
  obtain ⟨O, R, h, g, h1, h2⟩ := h
  rcases rd_nd.mp h with ⟨a, o, X, Y, rfl, ha, hk, hh, h3⟩ | ⟨_, xs, rfl, e, rfl, _⟩
  · refine ⟨a, o, rfl, ha, hk, rdl_len vs hh, fun n v hv => ?_⟩
    obtain ⟨u, O1, R1, a1, a2, a3, a4⟩ := rdl_at vs n hh hv
    have sx : X.Sublist O ∧ ∀ b ∈ Y, b ∈ R := by
      rcases h3 with ⟨_, rfl, rfl⟩ | ⟨_, rfl, rfl⟩
      · exact ⟨List.Sublist.refl _, fun b hb => List.mem_cons_of_mem _ hb⟩
      · exact ⟨List.sublist_cons_self _ _, fun b hb => hb⟩
    have so := a3.trans sx.1
    refine ⟨u, a1, O1, R1, a2, ⟨g.1.sublist so, fun b hb hb2 => g.2 b (sx.2 b (a4 b hb)) (so.subset hb2)⟩, fun b hb => h1 b (so.subset hb), fun b hb => h2 b (sx.2 b (a4 b hb))⟩
  · exact absurd e hk
theorem rs_tup {d : Nat} {w : W} {vs : List V} (h : Rs m A M d w (.tup vs)) : ∃ ws, w = .tup ws ∧ ws.length = vs.length ∧ ∀ (n : Nat) (v : V), vs[n]? = some v → ∃ u, ws[n]? = some u ∧ Rs m A M d u v := by
  obtain ⟨O, R, h, g, h1, h2⟩ := h
  obtain ⟨ws, rfl, _, hh⟩ := rd_tup.mp h
  refine ⟨ws, rfl, rdl_len vs hh, fun n v hv => ?_⟩
  obtain ⟨u, O1, R1, a1, a2, a3, a4⟩ := rdl_at vs n hh hv
  refine ⟨u, a1, O1, R1, a2, ⟨g.1.sublist a3, fun b hb hb2 => g.2 b (a4 b hb) (a3.subset hb2)⟩, fun b hb => h1 b (a3.subset hb), fun b hb => h2 b (a4 b hb)⟩
theorem rs_pp {d : Nat} {w : W} {x : P} (h : Rs m A M d w (.p x)) : w = .p x := by
  obtain ⟨O, R, h, _⟩ := h
  exact (rd_p.mp h).1
theorem idx_of {x y : V} {d : Nat} {wx wy : W} (hc : Clo M) (hA : ∀ a, m ≤ a → A a) (hx : Rs m A M d wx x) (hy : Al A M wy y) : Pst m A M (idxVV (x, d) y) (idxV wx wy M) := by
  unfold idxVV
  split
  · rename_i x _ i e1
    cases e1
    rw [rs_pp hx, al_p.mp hy]
    simp only [idxV]
    split
    · cases atW x.cps.toList i with
      | none => exact pst_bad
      | some c => exact pst_p hc
    · exact pst_bad
  · rename_i xs _ i e1
    cases e1
    rw [rs_pp hx, al_p.mp hy]
    simp only [idxV, tupItems, atW_map]
    cases atW xs i with
    | none => exact pst_bad
    | some c => exact pst_p hc
  · rename_i xs d' i e1
    cases e1
    obtain ⟨ws, rfl, hl, h2⟩ := rs_tup hx
    rw [al_p.mp hy]
    simp only [idxV, tupItems]
    cases h3 : atW xs i with
    | none => exact pst_bad
    | some v =>
      obtain ⟨n, e1, e2⟩ := atW_some h3
      obtain ⟨u, e3, h4⟩ := h2 n v e2
      rw [← hl] at e1
      rw [atW_mk e1, e3]
      exact pst_rs hc h4
  · rename_i xs d' i e1
    cases e1
    obtain ⟨a, o, rfl, ha, hk, hl, h2⟩ := rs_nd (by decide) hx
    rw [al_p.mp hy]
    cases o with
    | lst ws =>
      simp only [idxV, ha]
      cases h3 : atW xs i with
      | none => exact pst_bad
      | some v =>
        obtain ⟨n, e1, e2⟩ := atW_some h3
        obtain ⟨u, e3, h4⟩ := h2 n v e2
        rw [← hl] at e1
        rw [show atW ws i = ws[n]? from atW_mk e1, show ws[n]? = some u from e3]
        exact pst_rs hc h4
    | _ => cases hk
  · rename_i xs d' i e1
    cases e1
    obtain ⟨ps, rfl, rfl⟩ := al_fl (rs_al hA hx)
    rw [al_p.mp hy]
    simp only [idxV, atW_map]
    cases atW ps i with
    | none => exact pst_bad
    | some c => exact pst_p hc
  · rename_i ks vs d' y e1
    cases e1
    obtain ⟨a, o, rfl, ha, hk, hl, h2⟩ := rs_nd (by intro e; cases e) hx
    rw [al_p.mp hy]
    cases o with
    | dic kvs =>
      cases hk
      simp only [idxV, ha, ← keysOk_eq]
      split
      · rw [dget_kidx]
        simp only [kget]
        cases h3 : kidx (kvs.map (·.1)) y with
        | none => exact pst_bad
        | some n =>
          simp only [Option.bind_some]
          cases h4 : vs[n]? with
          | none => exact pst_bad
          | some v =>
            obtain ⟨u, e3, h5⟩ := h2 n v h4
            simp only [kidsO] at e3
            rw [e3]
            exact pst_rs hc h5
      · exact pst_bad
    | _ => cases hk
  · exact pst_bad
theorem cutL_of {r : W → V → Prop} {ws : List W} {vs : List V} (h : F2 r ws vs) (lo hi : Option Int) : F2 r (cutL ws lo hi) (cutL vs lo hi) := by
  unfold cutL
  rw [h.len]
  exact (h.drop _).take _
theorem cutL_map {α β : Type} (f : α → β) (xs : List α) (lo hi : Option Int) : cutL (xs.map f) lo hi = (cutL xs lo hi).map f := by
  simp [cutL, List.map_drop, List.map_take]
theorem mkTup_pp (ts : List P) : mkTup (ts.map W.p) = .p (.tup ts) := by
  unfold mkTup
  rw [show pures (ts.map W.p) = some ts from by
    induction ts with
    | nil => rfl
    | cons t ts ih => rw [List.map_cons, pures, ih]; rfl]
theorem slc_of {x : V} {d : Nat} {wx : W} {lo hi : Option Int} (hc : Clo M) (hm : m ≤ M.length) (hx : Al A M wx x) : Pst m A M (slcVV (x, d) lo hi) (slcV wx lo hi M) := by
  unfold slcVV
  split
  · rename_i x _ _ _ e1
    cases e1
    rw [al_p.mp hx]
    simp only [slcV]
    split
    · exact pst_p hc
    · exact pst_bad
  · rename_i xs _ _ _ e1
    cases e1
    obtain ⟨a, ws, rfl, ha, h1, _⟩ := al_lst hx
    simp only [slcV, ha]
    exact pst_newL hc hm (cutL_of h1 _ _)
  · rename_i xs _ _ _ e1
    cases e1
    obtain ⟨ps, rfl, rfl⟩ := al_fl hx
    simp only [slcV, cutL_map]
    exact pst_newL hc hm (al_ps.mpr rfl)
  · rename_i xs _ _ _ e1
    cases e1
    rw [al_p.mp hx]
    simp only [slcV, tupItems, cutL_map, mkTup_pp]
    exact pst_p hc
  · exact pst_bad
theorem rvs_of {x : V} {wx : W} (hc : Clo M) (hm : m ≤ M.length) (hx : Al A M wx x) : Pst m A M (rvsVV x) (rvsV wx M) := by
  unfold rvsVV
  split
  · obtain ⟨a, ws, rfl, ha, h1, _⟩ := al_lst hx
    simp only [rvsV, ha]
    exact pst_newL hc hm h1.rev
  · rw [al_p.mp hx]
    simp only [rvsV, tupItems, ← List.map_reverse, mkTup_pp]
    exact pst_p hc
  · exact pst_bad
end
end Vl

namespace Vl
open PySem Mi
theorem f2_one {α β : Type} {r : α → β → Prop} {s : List α} {b : β} (h : F2 r s [b]) : ∃ a, s = [a] ∧ r a b := by
  cases h with | cons a h => cases h; exact ⟨_, rfl, a⟩
theorem f2_two {α β : Type} {r : α → β → Prop} {s : List α} {b c : β} (h : F2 r s [b, c]) : ∃ a d, s = [a, d] ∧ r a b ∧ r d c := by
  cases h with | cons a h => cases h with | cons b h => cases h; exact ⟨_, _, rfl, a, b⟩
section
variable {m : Nat} {A : Nat → Prop} {M : Hm}
theorem al_seq {v : V} {w : W} {vs : List V} (h : Al A M w v) (e : seqV v = some vs) : ∃ ws, seqOf M w = some ws ∧ F2 (Al A M) ws vs := by
  unfold seqV at e
  split at e
  · cases e
    rw [al_p.mp h]
    exact ⟨_, rfl, al_ps.mpr rfl⟩
  · cases e
    obtain ⟨ws, rfl, _, h⟩ := al_tup.mp h
    exact ⟨_, rfl, h⟩
  · cases e
    obtain ⟨ps, rfl, rfl⟩ := al_fl h
    exact ⟨_, rfl, al_ps.mpr rfl⟩
  · cases e
    obtain ⟨a, ws, rfl, ha, h, _⟩ := al_lst h
    refine ⟨ws, ?_, h⟩
    simp only [seqOf, ha]
  · cases e
theorem f2_pures {ws : List W} {vs : List V} (h : F2 (Al A M) ws vs) : pures ws = vpures vs := by
  obtain ⟨R, h, _⟩ := al_l.mpr h
  exact rdl_pures vs h
theorem al_mkTup {ws : List W} {vs : List V} (h : F2 (Al A M) ws vs) : Al A M (mkTup ws) (mkTupV vs) := by
  unfold mkTup mkTupV
  have e := f2_pures h
  rw [e]
  cases h2 : vpures vs with
  | some xs => exact al_p.mpr rfl
  | none => rw [h2] at e; exact al_tup.mpr ⟨ws, rfl, e, h⟩
theorem al_pureSeq {v : V} {w : W} {xs : List P} (h : Al A M w v) (e : pureSeqV v = some xs) : pureSeq M w = some xs := by
  unfold pureSeqV at e
  cases h2 : seqV v with
  | none => rw [h2] at e; cases e
  | some vs =>
    rw [h2] at e
    obtain ⟨ws, h3, h4⟩ := al_seq h h2
    unfold pureSeq
    rw [h3]
    show pures ws = _
    rw [f2_pures h4]
    exact e
theorem al_pure {v : V} {w : W} {xs : List P} (h : Al A M w v) (e : pureV v = some xs) : pureLst M w = some xs := by
  unfold pureV at e
  split at e
  · obtain ⟨a, ws, rfl, ha, h, _⟩ := al_lst h
    simp only [pureLst, ha]
    rw [f2_pures h]
    exact e
  · cases e
abbrev Als (A : Nat → Prop) (M : Hm) (ws : List W) (vs : List VD) : Prop := F2 (fun w (v : VD) => Al A M w v.1) ws vs
theorem als_fst {ws : List W} {vs : List VD} (h : Als A M ws vs) : F2 (Al A M) ws (vs.map (·.1)) := by
  induction h with
  | nil => exact .nil
  | cons a _ ih => exact .cons a ih
theorem pst_lp (hc : Clo M) (hm : m ≤ M.length) (xs : List P) : Pst m A M (rL xs) (newO (.lst (xs.map .p)) M) := pst_newL hc hm (al_ps.mpr rfl)
theorem len_of {v : V} {w : W} {n : Nat} (h : Al A M w v) (e : lenVV v = some n) : lenV M w = some n := by
  unfold lenVV at e
  split at e
  · rw [al_p.mp h]; exact e
  · rw [al_p.mp h]; exact e
  · obtain ⟨ws, rfl, _, h⟩ := al_tup.mp h
    cases e
    rw [← h.len]
    rfl
  · obtain ⟨a, ws, rfl, ha, h, _⟩ := al_lst h
    cases e
    simp only [lenV, ha, h.len]
  · obtain ⟨ps, rfl, rfl⟩ := al_fl h
    cases e
    simp [lenV]
  · obtain ⟨a, kvs, rfl, ha, rfl, h, _⟩ := al_dic h
    cases e
    simp [lenV, ha]
  · cases e
theorem pst_o (hc : Clo M) {o o' : Option P} (h : ∀ x, o = some x → o' = some x) : Pst m A M (rO o) (ofO o' M) := by
  cases o with
  | none => exact pst_bad
  | some x => rw [h x rfl]; exact pst_p hc
theorem pst_b (hc : Clo M) {o o' : Option Bool} (h : ∀ x, o = some x → o' = some x) : Pst m A M (rB o) (ofB o' M) := by
  cases o with
  | none => exact pst_bad
  | some x => rw [h x rfl]; exact pst_p hc
theorem min_of {vs : List VD} {ws : List W} (hc : Clo M) (h : Als A M ws vs) : Pst m A M (minVV vs) (minF ws M) := by
  unfold minVV
  split
  · cases h with | cons a h => cases h with | cons b h => cases h; rw [al_p.mp a, al_p.mp b]; exact pst_p hc
  · rename_i x _ y _ hn
    cases h with | cons a h => cases h with | cons b h =>
      cases h
      rw [al_p.mp a, al_p.mp b]
      split
      · rename_i hh
        have : minF [.p x, .p y] M = okV (minP x [y]) M := by
          unfold minF
          split
          · rename_i i j e1
            cases e1
            exact (hn _ _ rfl rfl).elim
          · rename_i e1; cases e1; exact if_pos hh
          · rename_i e1; cases e1
          · rename_i h1 h2 h3; exact absurd rfl (h2 _ _)
        rw [this]
        exact pst_p hc
      · exact pst_bad
  · cases h with | cons a h =>
      cases h
      split
      · rename_i x xs e
        have := al_pureSeq a e
        simp only [minF, this]
        split
        · exact pst_p hc
        · exact pst_bad
      · exact pst_bad
  · exact pst_bad
theorem max_of {vs : List VD} {ws : List W} (hc : Clo M) (h : Als A M ws vs) : Pst m A M (maxVV vs) (maxF ws M) := by
  unfold maxVV
  split
  · cases h with | cons a h => cases h with | cons b h => cases h; rw [al_p.mp a, al_p.mp b]; exact pst_p hc
  · rename_i x _ y _ hn
    cases h with | cons a h => cases h with | cons b h =>
      cases h
      rw [al_p.mp a, al_p.mp b]
      split
      · rename_i hh
        have : maxF [.p x, .p y] M = okV (maxP x [y]) M := by
          unfold maxF
          split
          · rename_i i j e1
            cases e1
            exact (hn _ _ rfl rfl).elim
          · rename_i e1; cases e1; exact if_pos hh
          · rename_i e1; cases e1
          · rename_i h1 h2 h3; exact absurd rfl (h2 _ _)
        rw [this]
        exact pst_p hc
      · exact pst_bad
  · cases h with | cons a h =>
      cases h
      split
      · rename_i x xs e
        have := al_pureSeq a e
        simp only [maxF, this]
        split
        · exact pst_p hc
        · exact pst_bad
      · exact pst_bad
  · exact pst_bad
theorem sorted_of {v : V} {w : W} (hc : Clo M) (hm : m ≤ M.length) (h : Al A M w v) : Pst m A M (sortedVV v) (sortedF [w] M) := by
  unfold sortedVV
  split
  · obtain ⟨a, ws, rfl, ha, h, _⟩ := al_lst h
    split
    · rename_i xs e
      have e2 : pureLst M (.ref a) = some xs := by simp only [pureLst, ha]; rw [f2_pures h, e]
      simp only [sortedF, e2]
      split
      · exact pst_lp hc hm _
      · exact pst_bad
    · exact pst_bad
  · obtain ⟨a, kvs, rfl, ha, rfl, h, _⟩ := al_dic h
    split
    · rename_i ys e
      have e2 : pureLst M (.ref a) = none := by simp only [pureLst, ha]
      have e3 : keysOf M (.ref a) = some (kvs.map (·.1)) := by simp only [keysOf, ha]
      simp only [sortedF, e2, e3, Option.bind_some, e]
      exact pst_lp hc hm _
    · exact pst_bad
  · exact pst_bad
theorem blt_of {b : B} {vs : List VD} {ws : List W} (hc : Clo M) (hm : m ≤ M.length) (h : Als A M ws vs) : Pst m A M (bltVV b vs) (bltV b ws M) := by
  unfold bltVV
  split
  · cases h with | cons a h =>
      cases h
      refine pst_o hc fun x e => ?_
      cases h2 : lenVV _ with
      | none => rw [h2] at e; cases e
      | some n => rw [h2] at e; rw [len_of a h2]; exact e
  · cases h with | cons a h =>
      cases h
      unfold absVV
      split
      · rw [al_p.mp a]; exact pst_p hc
      · exact pst_bad
  · exact min_of hc h
  · exact max_of hc h
  · cases h with | cons a h =>
      cases h
      refine pst_o hc fun x e => ?_
      cases h2 : pureV _ with
      | none => rw [h2] at e; cases e
      | some n => rw [h2] at e; rw [al_pure a h2]; exact e
  · cases h with | cons a h =>
      cases h
      refine pst_o hc fun x e => ?_
      cases h2 : pureV _ with
      | none => rw [h2] at e; cases e
      | some n => rw [h2] at e; rw [al_pure a h2]; exact e
  · cases h with | cons a h => cases h; exact sorted_of hc hm a
  · cases h with | cons a h =>
      cases h
      unfold intVV
      split
      · rw [al_p.mp a]; exact pst_p hc
      · rw [al_p.mp a]; exact pst_p hc
      · exact pst_bad
  · cases h with | cons a h =>
      cases h
      unfold strVV
      split
      · rw [al_p.mp a]
        show Pst m A M _ (if _ then _ else _)
        split
        · exact pst_p hc
        · exact pst_bad
      · exact pst_bad
  · cases h with | cons a h =>
      cases h
      split
      · rename_i xs e
        obtain ⟨us, e1, h2⟩ := al_seq a e
        simp only [bltV, listF, e1]
        exact pst_newL hc hm h2
      · exact pst_bad
  · obtain ⟨w, rfl, a⟩ := f2_one h
    split
    · rename_i xs e
      have e1 := al_pureSeq a e
      unfold pureSeq at e1
      cases h2 : seqOf M w with
      | none => rw [h2] at e1; cases e1
      | some us =>
        rw [h2] at e1
        have e2 : pures us = some xs := e1
        simp only [bltV, tupleF, h2, mkTup, e2]
        exact pst_p hc
    · exact pst_bad
  · exact pst_bad
theorem strs_of {ws : List W} {vs : List V} {ys : List Str} (h : F2 (Al A M) ws vs) (e : strsV vs = some ys) : strsOf ws = some ys := by
  induction h generalizing ys with
  | nil => exact e
  | @cons w v ws vs a h ih =>
    cases v with
    | p x =>
      cases x with
      | str x =>
        rw [al_p.mp a]
        rw [strsV] at e
        cases h2 : strsV vs with
        | none => rw [h2] at e; cases e
        | some zs =>
          rw [h2] at e
          rw [strsOf, ih h2]
          exact e
      | _ => cases e
    | _ => cases e
theorem rcv_of {v : V} {w : W} {T : RT} (h : Al A M w v) (e : rcvV v = some T) : rcv M w = some T := by
  unfold rcvV at e
  split at e
  · rw [al_p.mp h]; exact e
  · obtain ⟨a, ws, rfl, ha, _⟩ := al_lst h; simp only [rcv, ha]; exact e
  · obtain ⟨a, kvs, rfl, ha, _⟩ := al_dic h; simp only [rcv, ha]; exact e
  · cases e
theorem mth_of {k : Mt} {v : VD} {vs : List VD} {w : W} {ws : List W} {T : RT} (hc : Clo M) (h0 : Al A M w v.1) (h : Als A M ws vs) (hT : rcvV v.1 = some T) : Pst m A M (mthVV k v vs) (mthV k T w ws M) := by
  unfold mthVV
  split
  · cases hT
    rw [al_p.mp h0]
    obtain ⟨w', rfl, a1⟩ := f2_one h
    split
    · rename_i ys e
      cases h2 : seqV _ with
      | none => rw [h2] at e; cases e
      | some us =>
        rw [h2] at e
        obtain ⟨zs, e3, h3⟩ := al_seq a1 h2
        simp only [mthV, joinF, e3, Option.bind_some, strs_of h3 e]
        split
        · exact pst_p hc
        · exact pst_bad
    · exact pst_bad
  · cases hT
    rw [al_p.mp h0]
    cases h
    simp only [mthV, upperF]
    split
    · exact pst_p hc
    · exact pst_bad
  · rename_i ks us _ y _ w' _
    cases hT
    obtain ⟨a, kvs, rfl, ha, rfl, h3, _⟩ := al_dic h0
    obtain ⟨x1, x2, rfl, a1, a2⟩ := f2_two h
    rw [al_p.mp a1]
    simp only [mthV, getF, ha, ← keysOk_eq]
    split
    · refine pst_al hc ?_
      rw [dget_kidx]
      unfold kget
      cases h4 : kidx (kvs.map (·.1)) y with
      | none => exact a2
      | some n =>
        simp only [Option.bind_some]
        cases h5 : us[n]? with
        | none =>
          have := h3.len
          have e6 : (kvs.map (·.2))[n]? = none := by
            rw [List.getElem?_eq_none_iff] at h5 ⊢
            omega
          rw [e6]
          exact a2
        | some u =>
          obtain ⟨x, e6, h6⟩ := h3.at' n u h5
          rw [e6]
          exact h6
    · exact pst_bad
  · rename_i ks us _ y _
    cases hT
    obtain ⟨a, kvs, rfl, ha, rfl, h3, _⟩ := al_dic h0
    obtain ⟨x1, rfl, a1⟩ := f2_one h
    rw [al_p.mp a1]
    simp only [mthV, getF, ha, ← keysOk_eq]
    split
    · refine pst_al hc ?_
      rw [dget_kidx]
      unfold kget
      cases h4 : kidx (kvs.map (·.1)) y with
      | none => exact al_p.mpr rfl
      | some n =>
        simp only [Option.bind_some]
        cases h5 : us[n]? with
        | none =>
          have := h3.len
          have e6 : (kvs.map (·.2))[n]? = none := by
            rw [List.getElem?_eq_none_iff] at h5 ⊢
            omega
          rw [e6]
          exact al_p.mpr rfl
        | some u =>
          obtain ⟨x, e6, h6⟩ := h3.at' n u h5
          rw [e6]
          exact h6
    · exact pst_bad
  · exact pst_bad
theorem isTy_of {Q : Pg} {t : Ty} {v : V} {w : W} {b : Bool} (h : Al A M w v) (e : isTyV Q t v = some b) : isTy Q M t w = some b := by
  unfold isTyV at e
  split at e
  · rw [al_p.mp h]; exact e
  · rw [al_p.mp h]; exact e
  · rw [al_p.mp h]; exact e
  · rw [al_p.mp h]; exact e
  · rw [al_p.mp h]; exact e
  · obtain ⟨ws, rfl, _⟩ := al_tup.mp h; exact e
  · obtain ⟨a, ws, rfl, ha, _⟩ := al_lst h; simp only [isTy, ha]; exact e
  · obtain ⟨ps, rfl, _⟩ := al_fl h; exact e
  · obtain ⟨a, kvs, rfl, ha, _⟩ := al_dic h; simp only [isTy, ha]; cases ‹Ty› <;> first | exact e | cases e
  · cases e
theorem isTys_of {Q : Pg} {v : V} {w : W} (h : Al A M w v) : ∀ {ts : List Ty} {b : Bool}, isTysV Q v ts = some b → isTys Q M w ts = some b
  | [], b, e => e
  | t :: ts, b, e => by
    rw [isTysV] at e
    rw [isTys]
    cases h2 : isTyV Q t v with
    | none => rw [h2] at e; cases e
    | some c =>
      rw [h2] at e
      rw [isTy_of h h2]
      cases c with
      | true => exact e
      | false => exact isTys_of h e
theorem enum_of {ws : List W} {vs : List V} (h : F2 (Al A M) ws vs) : ∀ n, F2 (Al A M) (enumW n ws) (enumV n vs) := by
  induction h with
  | nil => intro n; exact .nil
  | cons a _ ih => intro n; exact .cons (al_mkTup (.cons (al_p.mpr rfl) (.cons a .nil))) (ih (n + 1))
theorem zip_of {ws us : List W} {vs ts : List V} (h : F2 (Al A M) ws vs) (h' : F2 (Al A M) us ts) : F2 (Al A M) (zipW ws us) (zipV vs ts) := by
  induction h generalizing us ts with
  | nil => cases h' <;> exact .nil
  | cons a _ ih =>
    cases h' with
    | nil => exact .nil
    | cons b h' => exact .cons (al_mkTup (.cons a (.cons b .nil))) (ih h')
theorem signs_of (x : Str) : F2 (Al A M) (signsOf x) (signsV x) := by
  have : signsV x = (x.cps.toList.map fun c => P.str ⟨#[c]⟩).map .p := by simp [signsV]
  rw [this]
  refine al_ps.mpr ?_
  simp [signsOf]
theorem range_of (lo : Int) (n : Nat) : F2 (Al A M) (rangeL lo n 1) (rangeV lo n) := by
  have : rangeV lo n = ((List.range n).map fun i : Nat => P.int (lo + (i : Int))).map .p := by simp [rangeV]
  rw [this]
  refine al_ps.mpr ?_
  simp [rangeL]
theorem isLst_of {v : V} {w : W} (h : Al A M w v) (e : v.isLst = true) : ∃ a, w = .ref a := by
  unfold V.isLst at e
  split at e
  · obtain ⟨a, _, rfl, _⟩ := al_lst h; exact ⟨a, rfl⟩
  · cases e
theorem isTup_of {v : V} {w : W} (h : Al A M w v) (e : v.isTup = true) : (∃ xs, w = .p (.tup xs)) ∨ ∃ ws, w = .tup ws := by
  unfold V.isTup at e
  split at e
  · exact .inl ⟨_, al_p.mp h⟩
  · obtain ⟨ws, rfl, _⟩ := al_tup.mp h; exact .inr ⟨ws, rfl⟩
  · cases e
theorem items_of {k : Ik} {vs : List V} {ws : List W} {its : List V} (h : F2 (Al A M) ws vs) (e : itemsV k vs = some its) : ∃ us, itemsOf k ws M = some us ∧ F2 (Al A M) us its := by
  unfold itemsV at e
  split at e
  · cases h with | cons a h =>
      cases h
      rw [al_p.mp a]
      split at e
      · rename_i hh
        cases e
        exact ⟨_, if_pos hh, signs_of _⟩
      · cases e
  · rename_i w hn
    cases h with | cons a h =>
      cases h
      obtain ⟨us, e1, h1⟩ := al_seq a e
      refine ⟨us, ?_, h1⟩
      revert e1
      rename_i w'
      cases w' with
      | p x =>
        cases x with
        | str x => intro e1; simp [seqOf] at e1
        | _ => exact fun e1 => e1
      | _ => exact fun e1 => e1
  · cases h with | cons a h =>
      cases h
      rw [al_p.mp a]
      split at e
      · rename_i hh
        cases e
        exact ⟨_, if_pos hh, range_of _ _⟩
      · cases e
  · cases h with | cons a h => cases h with | cons b h =>
      cases h
      rw [al_p.mp a, al_p.mp b]
      split at e
      · rename_i hh
        cases e
        exact ⟨_, if_pos hh, range_of _ _⟩
      · cases e
  · obtain ⟨wx, rfl, a⟩ := f2_one h
    split at e
    · rename_i hl
      obtain ⟨b, rfl⟩ := isLst_of a hl
      cases h2 : seqV _ with
      | none => rw [h2] at e; cases e
      | some us =>
        rw [h2] at e
        cases e
        obtain ⟨xs, e1, h1⟩ := al_seq a h2
        refine ⟨enumW 0 xs, ?_, enum_of h1 0⟩
        show (if (W.ref b).isLst then (seqOf M (.ref b)).map (enumW 0) else none) = _
        rw [e1]
        rfl
    · cases e
  · obtain ⟨wx, wy, rfl, a, b⟩ := f2_two h
    split at e
    · rename_i xs ys ht ex ey
      obtain ⟨us, e1, h1⟩ := al_seq a ex
      obtain ⟨ts, e2, h2⟩ := al_seq b ey
      split at e
      · rename_i hh
        cases e
        refine ⟨zipW us ts, ?_, zip_of h1 h2⟩
        have hz : zipTyp wx wy = true := by
          rw [Bool.or_eq_true, Bool.and_eq_true, Bool.and_eq_true] at ht
          rcases ht with ⟨t1, t2⟩ | ⟨t1, t2⟩
          · rcases isTup_of a t1 with ⟨_, rfl⟩ | ⟨_, rfl⟩ <;> rcases isTup_of b t2 with ⟨_, rfl⟩ | ⟨_, rfl⟩ <;> rfl
          · obtain ⟨_, rfl⟩ := isLst_of a t1
            obtain ⟨_, rfl⟩ := isLst_of b t2
            rfl
        show (match zipTyp wx wy, seqOf M wx, seqOf M wy with
          | true, some xs, some ys => if xs.length = ys.length ∨ ((pures xs).isSome = true ∧ (pures ys).isSome = true) then some (zipW xs ys) else none
          | _, _, _ => none) = _
        rw [hz, e1, e2]
        simp only
        rw [if_pos]
        rw [h1.len, h2.len, f2_pures h1, f2_pures h2]
        exact hh
      · cases e
    · cases e
  · obtain ⟨wx, rfl, a⟩ := f2_one h
    cases h2 : seqV _ with
    | none => rw [h2] at e; cases e
    | some us =>
      rw [h2] at e
      cases e
      obtain ⟨xs, e1, h1⟩ := al_seq a h2
      refine ⟨xs.reverse, ?_, h1.rev⟩
      show (seqOf M _).map List.reverse = _
      rw [e1]
      rfl
  · cases e
def En1 (A : Nat → Prop) (M : Hm) (is : List Nat) (σV : EV) (σ : En) : Prop := σV.length = σ.length ∧ ∀ i ∈ is, ∀ v, σV[i]? = some (some v) → ∃ w, σ[i]? = some (some w) ∧ Al A M w v.1
theorem en1_set {is : List Nat} {σV : EV} {σ : En} (h : En1 A M is σV σ) {i : Nat} {v : VD} {w : W} (hw : Al A M w v.1) : En1 A M is (σV.set i (some v)) (σ.set i (some w)) := by
  refine ⟨by rw [List.length_set, List.length_set]; exact h.1, fun j hj u e => ?_⟩
  rw [List.getElem?_set] at e
  split at e
  · rename_i hij
    split at e
    · rename_i hl
      cases e
      subst hij
      exact ⟨w, by rw [List.getElem?_set_self (by rw [← h.1]; exact hl)], hw⟩
    · cases e
  · rename_i hij
    obtain ⟨w', e', h'⟩ := h.2 j hj u e
    exact ⟨w', by rw [List.getElem?_set_ne hij]; exact e', h'⟩
theorem en1_none {is : List Nat} {σV : EV} {σ : En} (h : En1 A M is σV σ) (i : Nat) : En1 A M is (σV.set i none) (σ.set i none) := by
  refine ⟨by rw [List.length_set, List.length_set]; exact h.1, fun j hj u e => ?_⟩
  rw [List.getElem?_set] at e
  split at e
  · split at e <;> cases e
  · rename_i hij
    obtain ⟨w', e', h'⟩ := h.2 j hj u e
    exact ⟨w', by rw [List.getElem?_set_ne hij]; exact e', h'⟩
theorem en1_nones {is : List Nat} {σV : EV} {σ : En} (h : En1 A M is σV σ) : ∀ own : List Nat, En1 A M is (own.foldr (fun i s => s.set i none) σV) (own.foldr (fun i s => s.set i none) σ)
  | [] => h
  | i :: own => en1_none (en1_nones h own) i
theorem en1_imp {A' : Nat → Prop} {M' : Hm} {is js : List Nat} {σV : EV} {σ : En} (h : En1 A M is σV σ) (hs : ∀ i ∈ js, i ∈ is) (f : ∀ w v, Al A M w v → Al A' M' w v) : En1 A' M' js σV σ :=
  ⟨h.1, fun i hi v e => by
    obtain ⟨w, a, b⟩ := h.2 i (hs i hi) v e
    exact ⟨w, a, f _ _ b⟩⟩
mutual
theorem bind_of : ∀ (pt : Pt) {v : V} {w : W} {is : List Nat} {σV σV' : EV} {σ : En}, En1 A M is σV σ → Al A M w v → bindV pt (v, 0) σV = some σV' → ∃ σ', bindPt M pt w σ = some σ' ∧ En1 A M is σV' σ'
  | .name i, v, w, is, σV, σV', σ, h, hv, e => by
    rw [bindV] at e
    cases e
    exact ⟨_, rfl, en1_set h hv⟩
  | .tup ps, v, w, is, σV, σV', σ, h, hv, e => by
    cases v with
    | p x =>
      cases x with
      | tup xs =>
        obtain ⟨σ', e1, h1⟩ := binds_of ps (vs := xs.map .p) h (al_ps.mpr rfl) (by rw [List.map_map]; exact e)
        rw [al_p.mp hv]
        exact ⟨σ', e1, h1⟩
      | _ => cases e
    | tup ws =>
      obtain ⟨us, rfl, _, h2⟩ := al_tup.mp hv
      obtain ⟨σ', e1, h1⟩ := binds_of ps (vs := ws) h h2 e
      exact ⟨σ', e1, h1⟩
    | nd k ws =>
      cases k with
      | lst =>
        obtain ⟨a, us, rfl, ha, h2, _⟩ := al_lst hv
        obtain ⟨σ', e1, h1⟩ := binds_of ps (vs := ws) h h2 e
        refine ⟨σ', ?_, h1⟩
        simp only [bindPt, seqOf, ha]
        exact e1
      | _ => cases e
theorem binds_of : ∀ (ps : List Pt) {vs : List V} {ws : List W} {is : List Nat} {σV σV' : EV} {σ : En}, En1 A M is σV σ → F2 (Al A M) ws vs → bindVs ps (vs.map fun v => (v, 0)) σV = some σV' → ∃ σ', bindPts M ps ws σ = some σ' ∧ En1 A M is σV' σ'
  | [], vs, ws, is, σV, σV', σ, h, hv, e => by
    cases hv with
    | nil => rw [List.map_nil, bindVs] at e; cases e; exact ⟨σ, rfl, h⟩
    | cons a b => rw [List.map_cons] at e; unfold bindVs at e; cases e
  | p :: ps, vs, ws, is, σV, σV', σ, h, hv, e => by
    cases hv with
    | nil => rw [List.map_nil] at e; unfold bindVs at e; cases e
    | cons a b =>
      rw [List.map_cons, bindVs] at e
      split at e
      · rename_i σ1 e1
        obtain ⟨σ2, e2, h2⟩ := bind_of p h a e1
        obtain ⟨σ3, e3, h3⟩ := binds_of ps h2 b e
        refine ⟨σ3, ?_, h3⟩
        rw [bindPts, e2]
        exact e3
      · cases e
end
end
end Vl

namespace Vl
open PySem Mi
def RdT (M : Hm) : List W → List VD → List Nat → List Nat → Prop
  | ws, [], O, R => ws = [] ∧ O = [] ∧ R = []
  | ws, v :: vs, O, R => ∃ w ws' O1 O2 R1 R2, ws = w :: ws' ∧ Rd M v.2 w v.1 O1 R1 ∧ RdT M ws' vs O2 R2 ∧ O = O1 ++ O2 ∧ R = R1 ++ R2
section
variable {m : Nat} {A : Nat → Prop} {M : Hm}
theorem rdt_ext (L : Hm) : ∀ {vs : List VD} {ws : List W} {O R : List Nat}, RdT M ws vs O R → RdT (M ++ L) ws vs O R
  | [], ws, O, R, h => h
  | v :: vs, ws, O, R, h => by
    obtain ⟨w, ws', O1, O2, R1, R2, e, h1, h2, e1, e2⟩ := h
    exact ⟨w, ws', O1, O2, R1, R2, e, rd_ext L h1, rdt_ext L h2, e1, e2⟩
theorem rdt_lt : ∀ {vs : List VD} {ws : List W} {O R : List Nat}, RdT M ws vs O R → ∀ a, a ∈ O ∨ a ∈ R → a < M.length
  | [], ws, O, R, h => by
    obtain ⟨_, rfl, rfl⟩ := h
    simp
  | v :: vs, ws, O, R, h => by
    obtain ⟨w, ws', O1, O2, R1, R2, e, h1, h2, rfl, rfl⟩ := h
    have a1 := rd_lt _ h1
    have a2 := rdt_lt h2
    intro a ha
    simp only [List.mem_append] at ha
    rcases ha with (ha | ha) | (ha | ha)
    · exact a1 a (.inl ha)
    · exact a2 a (.inl ha)
    · exact a1 a (.inr ha)
    · exact a2 a (.inr ha)
theorem rdt_app : ∀ {vs us : List VD} {ws xs : List W} {O R O' R' : List Nat}, RdT M ws vs O R → RdT M xs us O' R' → RdT M (ws ++ xs) (vs ++ us) (O ++ O') (R ++ R')
  | [], us, ws, xs, O, R, O', R', h, h' => by
    obtain ⟨rfl, rfl, rfl⟩ := h
    exact h'
  | v :: vs, us, ws, xs, O, R, O', R', h, h' => by
    obtain ⟨w, ws', O1, O2, R1, R2, rfl, h1, h2, rfl, rfl⟩ := h
    exact ⟨w, ws' ++ xs, O1, O2 ++ O', R1, R2 ++ R', rfl, h1, rdt_app h2 h', by simp, by simp⟩
theorem mind_p (x : P) (d : Nat) (r : List VD) : mind ((.p x, d) :: r) = mind r := rfl
theorem mind_tup (x : List V) (d : Nat) (r : List VD) : mind ((.tup x, d) :: r) = min d (mind r) := rfl
theorem mind_nd (k : Kd) (x : List V) (d : Nat) (r : List VD) : mind ((.nd k x, d) :: r) = min d (mind r) := rfl
theorem rdt_low {d : Nat} : ∀ {vs : List VD} {ws : List W} {O R : List Nat}, RdT M ws vs O R → d ≤ mind vs → ∃ O' R', RdL M d ws (vs.map (·.1)) O' R' ∧ O'.Sublist O ∧ (∀ a ∈ R', a ∈ R ∨ a ∈ O) ∧ (Gd O R → ∀ a ∈ R', a ∉ O')
  | [], ws, O, R, h, _ => by
    obtain ⟨rfl, rfl, rfl⟩ := h
    exact ⟨[], [], rdl_nil.mpr ⟨rfl, rfl, rfl⟩, List.Sublist.refl _, by simp, by simp⟩
  | v :: vs, ws, O, R, h, hd => by
    obtain ⟨w, ws', O1, O2, R1, R2, rfl, h1, h2, rfl, rfl⟩ := h
    have hd2 : d ≤ mind vs := by
      obtain ⟨v, k⟩ := v
      cases v with
      | p x => exact hd
      | tup x => rw [mind_tup] at hd; omega
      | nd j x => rw [mind_nd] at hd; omega
    obtain ⟨O1', R1', a1, a2, a3, a4⟩ : ∃ O' R', Rd M d w v.1 O' R' ∧ O'.Sublist O1 ∧ (∀ a ∈ R', a ∈ R1 ∨ a ∈ O1) ∧ (Gd O1 R1 → ∀ a ∈ R', a ∉ O') := by
      obtain ⟨v, k⟩ := v
      cases v with
      | p x =>
        obtain ⟨rfl, rfl, rfl⟩ := rd_p.mp h1
        exact ⟨[], [], rd_p.mpr ⟨rfl, rfl, rfl⟩, List.Sublist.refl _, by simp, by simp⟩
      | tup x => exact rd_low _ h1 (by rw [mind_tup] at hd; show d ≤ k; omega)
      | nd j x => exact rd_low _ h1 (by rw [mind_nd] at hd; show d ≤ k; omega)
    obtain ⟨O2', R2', b1, b2, b3, b4⟩ := rdt_low h2 hd2
    refine ⟨O1' ++ O2', R1' ++ R2', rdl_cons.mpr ⟨w, ws', O1', O2', R1', R2', rfl, a1, b1, rfl, rfl⟩, a2.append b2, ?_, ?_⟩
    · intro a ha
      simp only [List.mem_append] at ha ⊢
      rcases ha with ha | ha
      · rcases a3 a ha with h | h
        · exact .inl (.inl h)
        · exact .inr (.inl h)
      · rcases b3 a ha with h | h
        · exact .inl (.inr h)
        · exact .inr (.inr h)
    · intro g a ha hb
      have gn := List.nodup_append.mp g.1
      have g1 : Gd O1 R1 := ⟨gn.1, fun c hc hx => g.2 c (List.mem_append_left _ hc) (List.mem_append_left _ hx)⟩
      have g2 : Gd O2 R2 := ⟨gn.2.1, fun c hc hx => g.2 c (List.mem_append_right _ hc) (List.mem_append_right _ hx)⟩
      rcases List.mem_append.mp ha with ha | ha
      · rcases List.mem_append.mp hb with hb | hb
        · exact a4 g1 a ha hb
        · rcases a3 a ha with h | h
          · exact g.2 a (List.mem_append_left _ h) (List.mem_append_right _ (b2.subset hb))
          · exact gn.2.2 a h a (b2.subset hb) rfl
      · rcases List.mem_append.mp hb with hb | hb
        · rcases b3 a ha with h | h
          · exact g.2 a (List.mem_append_right _ h) (List.mem_append_left _ (a2.subset hb))
          · exact gn.2.2 a (a2.subset hb) a h rfl
        · exact b4 g2 a ha hb
def RsT (m : Nat) (A : Nat → Prop) (M : Hm) (ws : List W) (vs : List VD) : Prop := ∃ O R, RdT M ws vs O R ∧ Gd O R ∧ (∀ a ∈ O, m ≤ a) ∧ ∀ a ∈ R, A a
theorem rst_als (hA : ∀ a, m ≤ a → A a) : ∀ {vs : List VD} {ws : List W}, RsT m A M ws vs → Als A M ws vs := by
  rintro vs ws ⟨O, R, h, _, h1, h2⟩
  have : ∀ {vs : List VD} {ws : List W} {O R : List Nat}, RdT M ws vs O R → (∀ a ∈ O, A a) → (∀ a ∈ R, A a) → Als A M ws vs := by
    intro vs
    induction vs with
    | nil => intro ws O R h _ _; obtain ⟨rfl, _, _⟩ := h; exact .nil
    | cons v vs ih =>
      intro ws O R h hO hR
      obtain ⟨w, ws', O1, O2, R1, R2, rfl, h1, h2, rfl, rfl⟩ := h
      refine .cons ?_ (ih h2 (fun a ha => hO a (List.mem_append_right _ ha)) (fun a ha => hR a (List.mem_append_right _ ha)))
      obtain ⟨O', R', a, b, c, _⟩ := rd_low _ h1 (Nat.zero_le _)
      have e := rd_zero _ a
      subst e
      refine ⟨R', a, fun x hx => ?_⟩
      rcases c x hx with h | h
      · exact hR x (List.mem_append_left _ h)
      · exact hO x (List.mem_append_left _ h)
  exact this h (fun a ha => hA a (h1 a ha)) h2
theorem rst_low {ws : List W} {vs : List VD} (hA : ∀ a, m ≤ a → A a) (h : RsT m A M ws vs) : ∃ O R, RdL M (mind vs) ws (vs.map (·.1)) O R ∧ Gd O R ∧ (∀ a ∈ O, m ≤ a) ∧ ∀ a ∈ R, A a := by
  obtain ⟨O, R, h, g, h1, h2⟩ := h
  obtain ⟨O', R', a, b, c, d⟩ := rdt_low h (Nat.le_refl _)
  refine ⟨O', R', a, ⟨g.1.sublist b, d g⟩, fun x hx => h1 x (b.subset hx), fun x hx => ?_⟩
  rcases c x hx with h | h
  · exact h2 x h
  · exact hA x (h1 x h)
theorem pst_lst (hc : Clo M) (hm : m ≤ M.length) (hA : ∀ a, m ≤ a → A a) {ws : List W} {vs : List VD} (h : RsT m A M ws vs) : Pst m A M (.ok (.lst (vs.map (·.1)), 1 + mind vs)) (newO (.lst ws) M) := by
  obtain ⟨O, R, h, g, h1, h2⟩ := rst_low hA h
  have hl := rdl_lt _ h
  refine ⟨.ref M.length, [.lst ws], rfl, clo_one hc (rdl_below _ h), M.length :: O, R, rd_nd.mpr (.inl ⟨M.length, .lst ws, O, R, rfl, by simp, rfl, ?_, .inr ⟨by show 0 < 1 + _; omega, rfl, rfl⟩⟩), ⟨?_, ?_⟩, ?_, h2⟩
  · rw [show ((V.lst (vs.map (·.1)), 1 + mind vs).2 - 1) = mind vs by show 1 + mind vs - 1 = _; omega]
    exact rdl_ext _ h
  · refine List.nodup_cons.mpr ⟨fun hm => ?_, g.1⟩
    have := hl _ (.inl hm)
    omega
  · intro a ha hb
    rcases List.mem_cons.mp hb with rfl | hb
    · have := hl _ (.inr ha)
      omega
    · exact g.2 a ha hb
  · intro a ha
    rcases List.mem_cons.mp ha with rfl | ha
    · exact hm
    · exact h1 a ha
theorem pst_tup (hc : Clo M) (hA : ∀ a, m ≤ a → A a) {ws : List W} {vs : List VD} (h : RsT m A M ws vs) : Pst m A M (.ok (mkTupV (vs.map (·.1)), mind vs)) (.ok (mkTup ws) M) := by
  obtain ⟨O, R, h, g, h1, h2⟩ := rst_low hA h
  have e := rdl_pures _ h
  refine pst_rs hc ?_
  unfold mkTup mkTupV
  rw [e]
  cases h3 : vpures (vs.map (·.1)) with
  | some xs => exact rs_p
  | none => rw [h3] at e; exact ⟨O, R, rd_tup.mpr ⟨ws, rfl, e, h⟩, g, h1, h2⟩
def PstL (m : Nat) (A : Nat → Prop) (M : Hm) (r : RV (List VD)) (mi : R (List W)) : Prop := match r with
  | .ok vs => ∃ ws L, mi = .ok ws (M ++ L) ∧ Clo (M ++ L) ∧ RsT m A (M ++ L) ws vs
  | .err c fs => ∃ L, mi = .err c fs (M ++ L) ∧ Clo (M ++ L)
  | .bad => True
theorem pstl_bnd {r : RV (List VD)} {mi : R (List W)} {k : List VD → RV VD} {k' : List W → Hm → R W} (h : PstL m A M r mi) (hk : ∀ vs ws L, Clo (M ++ L) → RsT m A (M ++ L) ws vs → Pst m A (M ++ L) (k vs) (k' ws (M ++ L))) : Pst m A M (r.bnd k) (mi.bnd k') := by
  cases r with
  | ok v =>
    obtain ⟨w, L, rfl, hc, h⟩ := h
    have := hk v w L hc h
    rw [RV.bnd_ok, R.bnd_ok]
    revert this
    cases k v with
    | ok v =>
      rintro ⟨w, L', e, hc, h⟩
      rw [e]
      exact ⟨w, L ++ L', by rw [List.append_assoc], by rw [← List.append_assoc]; exact hc, by rw [← List.append_assoc]; exact h⟩
    | err c fs =>
      rintro ⟨L', e, hc⟩
      rw [e]
      exact ⟨L ++ L', by rw [List.append_assoc], by rw [← List.append_assoc]; exact hc⟩
    | bad => intro _; exact trivial
  | err c fs =>
    obtain ⟨L, rfl, hc⟩ := h
    exact ⟨L, rfl, hc⟩
  | bad => exact trivial
def Sp (M : Hm) (A : Nat → Prop) (n : Nat) (a : Nat) : Prop := (a < M.length ∧ A a) ∨ n ≤ a
theorem al_sp {n : Nat} {w : W} {v : V} (h : Al A M w v) : Al (Sp M A n) M w v := by
  obtain ⟨R, h, hA⟩ := h
  exact ⟨R, h, fun a ha => .inl ⟨rd_lt v h a (.inr ha), hA a ha⟩⟩
theorem al_imp {A' : Nat → Prop} {w : W} {v : V} (h : Al A M w v) (f : ∀ a, A a → A' a) : Al A' M w v := by
  obtain ⟨R, h, hA⟩ := h
  exact ⟨R, h, fun a ha => f a (hA a ha)⟩
theorem rst_cons {L L2 : Hm} {w : W} {v : VD} {ws : List W} {vs : List VD} (hA : ∀ a, M.length ≤ a → A a) (h : Rs M.length A (M ++ L) v.2 w v.1) (h2 : RsT (M ++ L).length (Sp M A (M ++ L).length) (M ++ L ++ L2) ws vs) : RsT M.length A (M ++ L ++ L2) (w :: ws) (v :: vs) := by
  obtain ⟨O1, R1, a1, a2, a3, a4⟩ := h
  obtain ⟨O2, R2, b1, b2, b3, b4⟩ := h2
  have l1 := rd_lt _ a1
  refine ⟨O1 ++ O2, R1 ++ R2, ⟨w, ws, O1, O2, R1, R2, rfl, rd_ext _ a1, b1, rfl, rfl⟩, ⟨?_, ?_⟩, ?_, ?_⟩
  · refine List.nodup_append.mpr ⟨a2.1, b2.1, fun a ha b hb e => ?_⟩
    subst e
    have := l1 a (.inl ha)
    have := b3 a hb
    omega
  · intro a ha hb
    rcases List.mem_append.mp ha with ha | ha
    · rcases List.mem_append.mp hb with hb | hb
      · exact a2.2 a ha hb
      · have := l1 a (.inr ha)
        have := b3 a hb
        omega
    · rcases List.mem_append.mp hb with hb | hb
      · have h3 := l1 a (.inl hb)
        have h4 := a3 a hb
        rcases b4 a ha with ⟨h, _⟩ | h <;> omega
      · exact b2.2 a ha hb
  · intro a ha
    rcases List.mem_append.mp ha with ha | ha
    · exact a3 a ha
    · have := b3 a ha
      rw [List.length_append] at this
      omega
  · intro a ha
    rcases List.mem_append.mp ha with ha | ha
    · exact a4 a ha
    · rcases b4 a ha with ⟨_, h⟩ | h
      · exact h
      · rw [List.length_append] at h
        exact hA a (by omega)
theorem rst_snoc {M0 : Hm} {L : Hm} {w : W} {v : VD} {ws : List W} {vs : List VD} (hm : M0.length ≤ M.length) (hA : ∀ a, M0.length ≤ a → A a) (h : RsT M0.length A M ws vs) (hl : ∀ a, Sp M0 A M.length a → A a) (h2 : Rs M.length (Sp M0 A M.length) (M ++ L) v.2 w v.1) : RsT M0.length A (M ++ L) (ws ++ [w]) (vs ++ [v]) := by
  obtain ⟨O1, R1, a1, a2, a3, a4⟩ := h
  obtain ⟨O2, R2, b1, b2, b3, b4⟩ := h2
  have l1 := rdt_lt a1
  refine ⟨O1 ++ O2, R1 ++ R2, rdt_app (rdt_ext L a1) ⟨w, [], O2, [], R2, [], rfl, b1, ⟨rfl, rfl, rfl⟩, by simp, by simp⟩, ⟨?_, ?_⟩, ?_, ?_⟩
  · refine List.nodup_append.mpr ⟨a2.1, b2.1, fun a ha b hb e => ?_⟩
    subst e
    have := l1 a (.inl ha)
    have := b3 a hb
    omega
  · intro a ha hb
    rcases List.mem_append.mp ha with ha | ha
    · rcases List.mem_append.mp hb with hb | hb
      · exact a2.2 a ha hb
      · have := l1 a (.inr ha)
        have := b3 a hb
        omega
    · rcases List.mem_append.mp hb with hb | hb
      · have h3 := l1 a (.inl hb)
        have h4 := a3 a hb
        rcases b4 a ha with ⟨h, _⟩ | h <;> omega
      · exact b2.2 a ha hb
  · intro a ha
    rcases List.mem_append.mp ha with ha | ha
    · exact a3 a ha
    · have := b3 a ha
      omega
  · intro a ha
    rcases List.mem_append.mp ha with ha | ha
    · exact a4 a ha
    · exact hl a (b4 a ha)
theorem take_app (M L : Hm) : (M ++ L).take M.length = M := by simp
theorem pst_tidy (hc : Clo M) (hA : ∀ a, M.length ≤ a → A a) {r : RV VD} {mi : R W} (h : Pst M.length A M r mi) : Pst M.length A M r (tidy M mi) := by
  cases r with
  | bad => trivial
  | err c fs =>
    obtain ⟨L, rfl, _⟩ := h
    refine ⟨[], ?_, by rw [List.append_nil]; exact hc⟩
    rw [tidy, take_app, if_pos rfl, List.append_nil]
  | ok v =>
    obtain ⟨w, L, rfl, hcl, h⟩ := h
    obtain ⟨v, d⟩ := v
    cases w with
    | p x =>
      have e : v = .p x := by
        obtain ⟨O, R, h, _⟩ := h
        cases v with
        | p y => obtain ⟨e, _⟩ := rd_p.mp h; cases e; rfl
        | tup vs => obtain ⟨ws, e, _⟩ := rd_tup.mp h; cases e
        | nd k vs => rcases rd_nd.mp h with ⟨_, _, _, _, e, _⟩ | ⟨_, _, e, _⟩ <;> cases e
      subst e
      simp only [tidy, take_app, if_true]
      exact pst_p hc
    | ref k =>
      simp only [tidy, take_app, if_true]
      split
      · rename_i hk
        refine pst_rs hc ?_
        obtain ⟨O, R, h, g⟩ := h
        exact ⟨O, R, rd_cut hc _ (by simpa [below] using hk) h, g⟩
      · rename_i hk
        split
        · rename_i xs e
          split
          · rename_i hp
            obtain ⟨ps, hp⟩ := Option.isSome_iff_exists.mp hp
            have e2 := pures_some hp
            subst e2
            obtain ⟨O, R, h, g, h1, h2⟩ := h
            obtain ⟨X, Y, rfl, hXY⟩ : ∃ X Y, v = .lst (ps.map .p) ∧ ((d = 0 ∧ X = [] ∧ Y = [M.length]) ∨ (0 < d ∧ X = [M.length] ∧ Y = [])) := by
              have hv : v = .lst (ps.map .p) := by
                refine rd_fun _ _ h (d' := 0) (O' := []) (R' := [k]) (rd_nd.mpr (.inl ⟨k, .lst (ps.map .p), [], [], rfl, e, rfl, (rdl_p _).mpr ⟨rfl, rfl, rfl⟩, .inl ⟨rfl, rfl, rfl⟩⟩))
              by_cases hd : d = 0
              · exact ⟨[], [M.length], hv, .inl ⟨hd, rfl, rfl⟩⟩
              · exact ⟨[M.length], [], hv, .inr ⟨by omega, rfl, rfl⟩⟩
            refine ⟨.ref M.length, [.lst (ps.map .p)], rfl, clo_one hc (by rw [belows_mem]; intro w hw; obtain ⟨x, _, rfl⟩ := List.mem_map.mp hw; rfl), X, Y, rd_nd.mpr (.inl ⟨M.length, .lst (ps.map .p), [], [], rfl, by simp, rfl, (rdl_p _).mpr ⟨rfl, rfl, rfl⟩, ?_⟩), ?_, ?_, ?_⟩
            · rcases hXY with ⟨a, rfl, rfl⟩ | ⟨a, rfl, rfl⟩
              · exact .inl ⟨a, rfl, rfl⟩
              · exact .inr ⟨a, rfl, rfl⟩
            · rcases hXY with ⟨a, rfl, rfl⟩ | ⟨a, rfl, rfl⟩ <;> simp [Gd]
            · rcases hXY with ⟨a, rfl, rfl⟩ | ⟨a, rfl, rfl⟩ <;> simp
            · rcases hXY with ⟨a, rfl, rfl⟩ | ⟨a, rfl, rfl⟩
              · intro b hb; cases List.mem_singleton.mp hb; exact hA _ (Nat.le_refl _)
              · simp
          · exact ⟨_, L, rfl, hcl, h⟩
        · exact ⟨_, L, rfl, hcl, h⟩
    | tup ws =>
      simp only [tidy, take_app, if_true]
      exact ⟨_, L, rfl, hcl, h⟩
    | fl xs =>
      simp only [tidy, take_app, if_true]
      refine pst_rs hc ?_
      obtain ⟨O, R, h, g⟩ := h
      exact ⟨O, R, rd_cut hc _ rfl h, g⟩
def ClOk (clV : Nat → List V → RV VD) (cl : Nat → List W → Hm → R W) : Prop := ∀ f vs ws (M : Hm) (A : Nat → Prop), Clo M → (∀ a, M.length ≤ a → A a) → F2 (Al A M) ws vs → Pst M.length A M (clV f vs) (cl f ws M)
end
end Vl

namespace Vl
open PySem Mi
section
variable {Q : Pg} {clV : Nat → List V → RV VD} {cl : Nat → List W → Hm → R W}
def EvOk (Q : Pg) (clV : Nat → List V → RV VD) (cl : Nat → List W → Hm → R W) (e : E) : Prop :=
  ∀ (σV : EV) (σ : En) (M : Hm) (A : Nat → Prop), Clo M → En1 A M (occ e) σV σ → (∀ a, M.length ≤ a → A a) → Pst M.length A M (evV Q clV e σV) (ev Q cl e σ M)
def EvsOk (Q : Pg) (clV : Nat → List V → RV VD) (cl : Nat → List W → Hm → R W) (es : List E) : Prop :=
  ∀ (σV : EV) (σ : En) (M : Hm) (A : Nat → Prop), Clo M → En1 A M (occs es) σV σ → (∀ a, M.length ≤ a → A a) → PstL M.length A M (evsV Q clV es σV) (evs Q cl es σ M)
theorem en1_ext {A : Nat → Prop} {M : Hm} (L : Hm) {is js : List Nat} {σV : EV} {σ : En} (h : En1 A M is σV σ) (hs : ∀ i ∈ js, i ∈ is) : En1 A (M ++ L) js σV σ := en1_imp h hs fun _ _ h => al_ext L h
theorem ev_2 {e : E} (h : EvOk Q clV cl e) {σV : EV} {σ : En} {M L : Hm} {A : Nat → Prop} {is : List Nat} (hc : Clo (M ++ L)) (hn : En1 A M is σV σ) (hs : ∀ i ∈ occ e, i ∈ is) (hA : ∀ a, M.length ≤ a → A a) : Pst M.length A (M ++ L) (evV Q clV e σV) (ev Q cl e σ (M ++ L)) :=
  pst_up (by simp) (h σV σ (M ++ L) A hc (en1_ext L hn hs) fun a ha => hA a (by rw [List.length_append] at ha; omega))
theorem pstl_up {m m' : Nat} {A : Nat → Prop} {M : Hm} (h : m ≤ m') {r : RV (List VD)} {mi : R (List W)} (p : PstL m' A M r mi) : PstL m A M r mi := by
  cases r with
  | ok v =>
    obtain ⟨w, L, e, hc, O, R, a, b, c, d⟩ := p
    exact ⟨w, L, e, hc, O, R, a, b, fun x hx => Nat.le_trans h (c x hx), d⟩
  | err c fs => exact p
  | bad => exact trivial
theorem evs_2 {es : List E} (h : EvsOk Q clV cl es) {σV : EV} {σ : En} {M L : Hm} {A : Nat → Prop} {is : List Nat} (hc : Clo (M ++ L)) (hn : En1 A M is σV σ) (hs : ∀ i ∈ occs es, i ∈ is) (hA : ∀ a, M.length ≤ a → A a) : PstL M.length A (M ++ L) (evsV Q clV es σV) (evs Q cl es σ (M ++ L)) :=
  pstl_up (by simp) (h σV σ (M ++ L) A hc (en1_ext L hn hs) fun a ha => hA a (by rw [List.length_append] at ha; omega))
theorem evs_ok_nil : EvsOk Q clV cl [] := by
  intro σV σ M A hc hn hA
  exact ⟨[], [], by rw [List.append_nil]; rfl, by rw [List.append_nil]; exact hc, [], [], ⟨rfl, rfl, rfl⟩, ⟨List.nodup_nil, by simp⟩, by simp, by simp⟩
theorem evs_ok_cons {e : E} {es : List E} (h1 : EvOk Q clV cl e) (h2 : EvsOk Q clV cl es) : EvsOk Q clV cl (e :: es) := by
  intro σV σ M A hc hn hA
  have p := h1 σV σ M A hc (en1_imp hn (fun i hi => by rw [occs]; exact List.mem_append_left _ hi) fun _ _ h => h) hA
  show PstL M.length A M ((evV Q clV e σV).bnd fun w => (evsV Q clV es σV).bnd fun ws => .ok (w :: ws)) ((ev Q cl e σ M).bnd fun w M1 => (evs Q cl es σ M1).bnd fun ws M2 => .ok (w :: ws) M2)
  revert p
  cases evV Q clV e σV with
  | bad => intro _; trivial
  | err c fs =>
    rintro ⟨L, e, hc⟩
    rw [e]
    exact ⟨L, rfl, hc⟩
  | ok v =>
    rintro ⟨w, L, e1, hc1, r⟩
    rw [e1]
    have hn2 : En1 (Sp M A (M ++ L).length) (M ++ L) (occs es) σV σ := en1_imp hn (fun i hi => by rw [occs]; exact List.mem_append_right _ hi) fun _ _ h => al_ext L (al_sp h)
    have p2 := h2 σV σ (M ++ L) (Sp M A (M ++ L).length) hc1 hn2 fun a ha => .inr ha
    simp only [RV.bnd_ok, R.bnd_ok]
    revert p2
    cases evsV Q clV es σV with
    | bad => intro _; trivial
    | err c fs =>
      rintro ⟨L2, e, hc⟩
      rw [e]
      exact ⟨L ++ L2, by rw [List.append_assoc]; rfl, by rw [← List.append_assoc]; exact hc⟩
    | ok vs =>
      rintro ⟨ws, L2, e2, hc2, r2⟩
      rw [e2]
      exact ⟨w :: ws, L ++ L2, by rw [List.append_assoc]; rfl, by rw [← List.append_assoc]; exact hc2, by rw [← List.append_assoc]; exact rst_cons hA r r2⟩
theorem pairUp_of {A : Nat → Prop} {M : Hm} : ∀ {vs : List VD} {ws : List W} {kvs : List (P × VD)}, Als A M ws vs → pairUpV vs = some kvs → ∃ kws, pairUp ws = some kws ∧ F2 (fun (x : P × W) (y : P × VD) => x.1 = y.1 ∧ Al A M x.2 y.2.1) kws kvs
  | [], ws, kvs, h, e => by
    cases h
    cases e
    exact ⟨[], rfl, .nil⟩
  | (.p k, _) :: v :: r, ws, kvs, h, e => by
    cases h with | cons a h => cases h with | cons b h =>
      rw [al_p.mp a]
      rw [pairUpV] at e
      rw [pairUp]
      split at e
      · rename_i hk
        rw [if_pos hk]
        cases h2 : pairUpV r with
        | none => rw [h2] at e; cases e
        | some q =>
          rw [h2] at e
          cases e
          obtain ⟨kws, e1, h3⟩ := pairUp_of h h2
          rw [e1]
          exact ⟨_, rfl, .cons ⟨rfl, b⟩ h3⟩
      · cases e
  | [(.p k, _)], ws, kvs, h, e => by cases e
  | (.tup _, _) :: r, ws, kvs, h, e => by unfold pairUpV at e; cases e
  | (.nd _ _, _) :: r, ws, kvs, h, e => by unfold pairUpV at e; cases e
theorem dput_keys (kvs : List (P × W)) (k : P) (w : W) : (dput kvs k w).map (·.1) = kputK (kvs.map (·.1)) k := by
  have h1 : ∀ kvs : List (P × W), (kvs.any (·.1 = k)) = (kidx (kvs.map (·.1)) k).isSome := by
    intro kvs
    induction kvs with
    | nil => rfl
    | cons q kvs ih =>
      rw [List.any_cons, List.map_cons, kidx, ih]
      by_cases h : q.1 = k
      · simp [h]
      · simp [h]
  unfold dput kputK
  cases h2 : kidx (kvs.map (·.1)) k with
  | none =>
    rw [if_neg (by rw [h1, h2]; decide)]
    simp
  | some n =>
    rw [if_pos (by rw [h1, h2]; rfl)]
    simp only [List.map_map]
    apply List.map_congr_left
    intro q _
    by_cases h : q.1 = k <;> simp [h]
theorem kidx_get {k : P} : ∀ {ks : List P} {n : Nat}, kidx ks k = some n → ks[n]? = some k
  | q :: ks, n, h => by
    rw [kidx] at h
    split at h
    · rename_i e; cases h; subst e; rfl
    · cases h2 : kidx ks k with
      | none => rw [h2] at h; cases h
      | some j => rw [h2] at h; cases h; simpa using kidx_get h2
  | [], n, h => by cases h
theorem kidx_none {k : P} : ∀ {ks : List P}, kidx ks k = none → k ∉ ks
  | q :: ks, h => by
    rw [kidx] at h
    split at h
    · cases h
    · rename_i e
      cases h2 : kidx ks k with
      | some j => rw [h2] at h; cases h
      | none =>
        intro hm
        rcases List.mem_cons.mp hm with rfl | hm
        · exact e rfl
        · exact kidx_none h2 hm
  | [], _ => by simp
end
theorem any_kidx (k : P) : ∀ kvs : List (P × W), (kvs.any (·.1 = k)) = (kidx (kvs.map (·.1)) k).isSome
  | [] => rfl
  | q :: kvs => by
    rw [List.any_cons, List.map_cons, kidx, any_kidx k kvs]
    by_cases h : q.1 = k
    · simp [h]
    · simp [h]
theorem dput_vals {r : W → V → Prop} {k : P} {w : W} {v : V} (hw : r w v) {kvs : List (P × W)} {vs : List V} (h : F2 r (kvs.map (·.2)) vs) : F2 r ((dput kvs k w).map (·.2)) (kputV (kvs.map (·.1)) vs k v) := by
  unfold dput kputV
  rw [any_kidx]
  cases h2 : kidx (kvs.map (·.1)) k with
  | none =>
    simp only [Option.isSome_none, Bool.false_eq_true, if_false, List.map_append, List.map_cons, List.map_nil]
    exact h.app (.cons hw .nil)
  | some n =>
    simp only [Option.isSome_some, if_true]
    clear h2
    induction kvs generalizing vs with
    | nil => cases h; exact .nil
    | cons q kvs ih =>
      cases vs with
      | nil => cases h
      | cons u vs =>
        cases h with | cons a h =>
          rw [List.map_cons, List.map_cons, List.map_cons, kset]
          refine .cons ?_ (ih h)
          by_cases hq : q.1 = k
          · rw [if_pos hq, if_pos hq]; exact hw
          · rw [if_neg hq, if_neg hq]; exact a
section
variable {Q : Pg} {clV : Nat → List V → RV VD} {cl : Nat → List W → Hm → R W}
theorem lc_of {A : Nat → Prop} {M0 : Hm} (hA : ∀ a, M0.length ≤ a → A a) {f : V → RV (Option VD)} {f' : W → Hm → R (Option W)} {ok : Hm → Bool} (hok : ∀ L, ok (M0 ++ L) = true)
    (hf : ∀ w v L, Clo (M0 ++ L) → Al (Sp M0 A (M0 ++ L).length) (M0 ++ L) w v → match f v with
      | .ok none => ∃ L', f' w (M0 ++ L) = .ok none (M0 ++ L ++ L') ∧ Clo (M0 ++ L ++ L')
      | .ok (some u) => ∃ x L', f' w (M0 ++ L) = .ok (some x) (M0 ++ L ++ L') ∧ Clo (M0 ++ L ++ L') ∧ Rs (M0 ++ L).length (Sp M0 A (M0 ++ L).length) (M0 ++ L ++ L') u.2 x u.1
      | _ => True) :
    ∀ (its : List V) (us : List W) (acc : List VD) (wacc : List W) (L : Hm), Clo (M0 ++ L) → F2 (Al A M0) us its → RsT M0.length A (M0 ++ L) wacc acc → Pst M0.length A (M0 ++ L) (lcV_ f its acc) (lcL f' ok us wacc (M0 ++ L))
  | [], us, acc, wacc, L, hc, h, hr => by
    cases h
    exact pst_lst hc (by simp) hA hr
  | v :: its, us, acc, wacc, L, hc, h, hr => by
    cases h with
    | @cons w _ us _ a h =>
      have p := hf w v L hc (al_ext L (al_imp (al_sp a) (by rintro b (hb | hb); exact .inl hb; exact .inr hb)))
      unfold lcV_ lcL
      revert p
      cases f v with
      | bad => intro _; trivial
      | err c fs => intro _; trivial
      | ok o =>
        cases o with
        | none =>
          rintro ⟨L', e, hc'⟩
          rw [e]
          simp only [List.append_assoc, hok, if_true]
          rw [List.append_assoc] at hc'
          have hr' : RsT M0.length A (M0 ++ (L ++ L')) wacc acc := by
            obtain ⟨O, R, b1, b2⟩ := hr
            exact ⟨O, R, by rw [← List.append_assoc]; exact rdt_ext L' b1, b2⟩
          have := lc_of hA hok hf its us acc wacc (L ++ L') hc' h hr'
          revert this
          cases lcV_ f its acc with
          | bad => intro _; trivial
          | err c fs =>
            rintro ⟨L2, e, hc⟩
            exact ⟨L' ++ L2, by rw [e]; simp only [List.append_assoc], by simpa only [List.append_assoc] using hc⟩
          | ok v =>
            rintro ⟨w, L2, e, hc, hr⟩
            exact ⟨w, L' ++ L2, by rw [e]; simp only [List.append_assoc], by simpa only [List.append_assoc] using hc, by simpa only [List.append_assoc] using hr⟩
        | some u =>
          rintro ⟨x, L', e, hc', r⟩
          rw [e]
          have hlen : wacc.length = acc.length := by
            obtain ⟨O, R, b1, _⟩ := hr
            have : ∀ {vs : List VD} {ws : List W} {O R : List Nat}, RdT (M0 ++ L) ws vs O R → ws.length = vs.length := by
              intro vs
              induction vs with
              | nil => rintro ws O R ⟨rfl, _⟩; rfl
              | cons v vs ih =>
                rintro ws O R ⟨w, ws', O1, O2, R1, R2, rfl, _, h2, _⟩
                rw [List.length_cons, List.length_cons, ih h2]
            exact this b1
          by_cases hb : acc.length < big
          · simp only [if_pos hb]
            simp only [List.append_assoc, hok, hlen, hb, decide_true, Bool.and_self, if_true]
            have hr' : RsT M0.length A (M0 ++ (L ++ L')) (wacc ++ [x]) (acc ++ [u]) := by
              rw [← List.append_assoc]
              exact rst_snoc (M := M0 ++ L) (by simp) hA hr (by rintro b (⟨_, hb⟩ | hb); exact hb; exact hA b (by rw [List.length_append] at hb; omega)) r
            rw [List.append_assoc] at hc'
            have := lc_of hA hok hf its us (acc ++ [u]) (wacc ++ [x]) (L ++ L') hc' h hr'
            revert this
            cases lcV_ f its (acc ++ [u]) with
            | bad => intro _; trivial
            | err c fs =>
              rintro ⟨L2, e, hc⟩
              exact ⟨L' ++ L2, by rw [e]; simp only [List.append_assoc], by simpa only [List.append_assoc] using hc⟩
            | ok v =>
              rintro ⟨w, L2, e, hc, hr⟩
              exact ⟨w, L' ++ L2, by rw [e]; simp only [List.append_assoc], by simpa only [List.append_assoc] using hc, by simpa only [List.append_assoc] using hr⟩
          · simp only [if_neg hb]
            trivial
theorem stays_app (pins : List Nat) (M L : Hm) (h : ∀ k ∈ pins, k < M.length) : stays pins M (M ++ L) = true := by
  unfold stays
  rw [List.all_eq_true]
  intro k hk
  rw [get_app (h k hk)]
  simp
theorem pst_base {m : Nat} {A : Nat → Prop} {M L : Hm} {r : RV VD} {mi : R W} (h : Pst m A (M ++ L) r mi) : Pst m A M r mi := by
  cases r with
  | bad => trivial
  | err c fs =>
    obtain ⟨L2, e, hc⟩ := h
    exact ⟨L ++ L2, by rw [← List.append_assoc]; exact e, by rw [← List.append_assoc]; exact hc⟩
  | ok v =>
    obtain ⟨w, L2, e, hc, h⟩ := h
    exact ⟨w, L ++ L2, by rw [← List.append_assoc]; exact e, by rw [← List.append_assoc]; exact hc, by rw [← List.append_assoc]; exact h⟩
theorem ev_ok_var (i : Nat) : EvOk Q clV cl (.var i) := by
  intro σV σ M A hc hn hA
  show Pst M.length A M (match σV[i]? with
    | some (some (v, _)) => .ok (v, 0)
    | _ => .bad) (match σ[i]? with
    | some (some w) => .ok w M
    | _ => .bad)
  cases h : σV[i]? with
  | none => trivial
  | some o =>
    cases o with
    | none => trivial
    | some v =>
      obtain ⟨w, e, h2⟩ := hn.2 i (by rw [occ]; exact List.mem_singleton.mpr rfl) v h
      rw [e]
      exact pst_al hc h2
theorem bl_of {A : Nat → Prop} {M : Hm} {v : VD} {w : W} {m d : Nat} {x : P} (h : Rs m A M d w v.1) (e : v.1 = .p x) : w = .p x := by
  rw [e] at h
  exact rs_pp h
def Turn (A : Nat → Prop) (M0 : Hm) (f : V → RV (Option VD)) (f' : W → Hm → R (Option W)) : Prop := ∀ w v L, Clo (M0 ++ L) → Al (Sp M0 A (M0 ++ L).length) (M0 ++ L) w v → match f v with
      | .ok none => ∃ L', f' w (M0 ++ L) = .ok none (M0 ++ L ++ L') ∧ Clo (M0 ++ L ++ L')
      | .ok (some u) => ∃ x L', f' w (M0 ++ L) = .ok (some x) (M0 ++ L ++ L') ∧ Clo (M0 ++ L ++ L') ∧ Rs (M0 ++ L).length (Sp M0 A (M0 ++ L).length) (M0 ++ L ++ L') u.2 x u.1
      | _ => True
theorem lc_key {A : Nat → Prop} {M : Hm} (hA : ∀ a, M.length ≤ a → A a) (hc : Clo M) {f : V → RV (Option VD)} {f' : W → Hm → R (Option W)} (hf : ∀ L, Clo (M ++ L) → Turn A (M ++ L) f f') {its : List V} {us ws : List W} {L : Hm} (hc1 : Clo (M ++ L)) (h1 : F2 (Al A (M ++ L)) us its) :
    Pst M.length A M (lcV_ f its []) (lcL f' (stays ((pinsOf ws).filter (· < (srcH M us (M ++ L)).length)) (srcH M us (M ++ L))) us [] (srcH M us (M ++ L))) := by
  have key : ∀ L2 : Hm, Clo (M ++ L2) → F2 (Al A (M ++ L2)) us its → Pst M.length A (M ++ L2) (lcV_ f its []) (lcL f' (stays ((pinsOf ws).filter (· < (M ++ L2).length)) (M ++ L2)) us [] (M ++ L2)) := by
    intro L2 hc2 hus
    have hlen : M.length ≤ (M ++ L2).length := by simp
    have := lc_of (A := A) (M0 := M ++ L2) (fun a ha => hA a (Nat.le_trans hlen ha)) (ok := stays ((pinsOf ws).filter (· < (M ++ L2).length)) (M ++ L2)) (fun L => stays_app _ _ _ fun k hk => by simpa using (List.mem_filter.mp hk).2) (hf L2 hc2) its us [] [] [] (by rw [List.append_nil]; exact hc2) hus ⟨[], [], ⟨rfl, rfl, rfl⟩, ⟨List.nodup_nil, by simp⟩, by simp, by simp⟩
    rw [List.append_nil] at this
    exact pst_up hlen this
  unfold srcH
  rw [take_app]
  split
  · rename_i hh
    obtain ⟨ps, hp⟩ := Option.isSome_iff_exists.mp hh.2
    have hup := pures_some hp
    have hvp : vpures its = some ps := by rw [← f2_pures h1]; exact hp
    have hvp := vpures_some hvp
    subst hup
    have := key [] (by rw [List.append_nil]; exact hc) (by rw [hvp]; exact al_ps.mpr rfl)
    rw [List.append_nil] at this
    exact this
  · exact pst_base (key L hc1 h1)
theorem occc : ∀ (cs : List E), ∀ c ∈ cs, ∀ i ∈ occ c, i ∈ occs cs
  | [], c, hc, i, hi => by cases hc
  | x :: cs, c, hc, i, hi => by
    rw [occs]
    rcases List.mem_cons.mp hc with rfl | hc
    · exact List.mem_append_left _ hi
    · exact List.mem_append_right _ (occc cs c hc i hi)
theorem turn_ev {A : Nat → Prop} {M L3 : Hm} {is : List Nat} {own : List Nat} {pt : Pt} {σV : EV} {σ : En} {w : W} {v : V} (hn : En1 A M is σV σ) (hv : Al (Sp M A (M ++ L3).length) (M ++ L3) w v) {σ' : EV} (hb : bindV pt (v, 0) (own.foldr (fun i s => s.set i none) σV) = some σ') :
    ∃ τ, bindPt (M ++ L3) pt w (own.foldr (fun i s => s.set i none) σ) = some τ ∧ En1 (Sp M A (M ++ L3).length) (M ++ L3) is σ' τ ∧ ∀ e, EvOk Q clV cl e → (∀ i ∈ occ e, i ∈ is) → ∀ L4, Clo (M ++ L3 ++ L4) → Pst (M ++ L3 ++ L4).length (Sp M A (M ++ L3).length) (M ++ L3 ++ L4) (evV Q clV e σ') (tidy (M ++ L3 ++ L4) (ev Q cl e τ (M ++ L3 ++ L4))) := by
  have hn3 : En1 (Sp M A (M ++ L3).length) (M ++ L3) is σV σ := en1_imp hn (fun i hi => hi) fun w v h => al_ext L3 (al_sp h)
  obtain ⟨τ, e4, hn5⟩ := bind_of pt (en1_nones hn3 own) hv hb
  refine ⟨τ, e4, hn5, fun e he hi L4 hc4 => ?_⟩
  have hAS : ∀ a, (M ++ L3 ++ L4).length ≤ a → Sp M A (M ++ L3).length a := fun a ha => .inr (by rw [List.length_append] at ha; omega)
  exact pst_tidy hc4 hAS (he σ' τ _ _ hc4 (en1_ext L4 hn5 hi) hAS)
theorem ev_ok_lc {own : List Nat} {pt : Pt} {k : Ik} {src cs : List E} {e : E} (hs : EvsOk Q clV cl src) (hcs : ∀ c ∈ cs, EvOk Q clV cl c) (he : EvOk Q clV cl e) : EvOk Q clV cl (.lc own pt k src cs e) := by
  intro σV σ M A hc hn hA
  have hn0 : En1 A M (occs src) σV σ := en1_imp hn (fun i hi => by rw [occ]; exact List.mem_append_left _ hi) fun _ _ h => h
  have hn1 : En1 A M (occs cs ++ occ e) σV σ := en1_imp hn (fun i hi => by rw [occ]; exact List.mem_append_right _ hi) fun _ _ h => h
  clear hn
  unfold evV ev
  have p0 := hs σV σ M A hc hn0 hA
  revert p0
  cases evsV Q clV src σV with
  | bad => intro _; trivial
  | err c fs =>
    rintro ⟨L, e, hc⟩
    rw [e]
    exact ⟨L, rfl, hc⟩
  | ok vs =>
  rintro ⟨ws, L, e0, hc1, hr⟩
  rw [e0]
  simp only [RV.bnd_ok, R.bnd_ok]
  have hal := als_fst (rst_als hA hr)
  cases hi : itemsV k (vs.map (·.1)) with
  | none => trivial
  | some its =>
    obtain ⟨us, e1, h1⟩ := items_of hal hi
    rw [e1]
    simp only
    refine lc_key hA hc (fun L2 hc2 => ?_) hc1 h1
    intro w v L3 hc3 hv
    have hn2 : En1 A (M ++ L2) (occs cs ++ occ e) σV σ := en1_ext L2 hn1 fun i hi => hi
    cases hb : bindV pt (v, 0) (own.foldr (fun i s => s.set i none) σV) with
    | none => simp only [hb]
    | some σ' =>
      obtain ⟨τ, e4, hn5, hev⟩ := turn_ev (Q := Q) (clV := clV) (cl := cl) hn2 hv hb
      simp only [hb, e4]
      have he2 := hev e he fun i hi => List.mem_append_right _ hi
      cases cs with
      | nil =>
        simp only
        have p := he2 [] (by rw [List.append_nil]; exact hc3)
        rw [List.append_nil] at p
        revert p
        cases evV Q clV e σ' with
        | bad => intro _; trivial
        | err c fs => intro _; trivial
        | ok u =>
          rintro ⟨x, L', e5, hc5, r⟩
          rw [e5]
          exact ⟨x, L', rfl, hc5, r⟩
      | cons c cs =>
        cases cs with
        | cons c' cs => simp only
        | nil =>
          simp only
          have pc := hev c (hcs c List.mem_cons_self) (fun i hi => List.mem_append_left _ (occc _ c List.mem_cons_self i hi)) [] (by rw [List.append_nil]; exact hc3)
          rw [List.append_nil] at pc
          revert pc
          cases evV Q clV c σ' with
          | bad => intro _; trivial
          | err c fs => intro _; trivial
          | ok b =>
            rintro ⟨x, L4, e5, hc4, r⟩
            rw [e5]
            simp only [RV.bnd_ok, R.bnd_ok]
            obtain ⟨b, db⟩ := b
            cases b with
            | tup _ => trivial
            | nd _ _ => trivial
            | p y =>
              cases y with
              | bl t =>
                rw [rs_pp r]
                cases t with
                | false => exact ⟨L4, rfl, hc4⟩
                | true =>
                  simp only
                  have p := he2 L4 hc4
                  revert p
                  cases evV Q clV e σ' with
                  | bad => intro _; trivial
                  | err c fs => intro _; trivial
                  | ok u =>
                    rintro ⟨x, L', e6, hc5, O, R, q1, q2, q3, q4⟩
                    rw [e6]
                    exact ⟨x, L4 ++ L', by rw [← List.append_assoc]; rfl, by rw [← List.append_assoc]; exact hc5, O, R, by rw [← List.append_assoc]; exact q1, q2, fun a ha => by have := q3 a ha; rw [List.length_append] at this; omega, q4⟩
              | _ => trivial
end
end Vl

namespace Vl
open PySem Mi
section
variable {Q : Pg} {clV : Nat → List V → RV VD} {cl : Nat → List W → Hm → R W}
theorem part_of {A : Nat → Prop} {M : Hm} {vs : List VD} {ws : List W} {o : Option Int} (h : Als A M ws vs) (e : partOfV vs = some o) : partOf ws = some o := by
  unfold partOfV at e
  split at e
  · cases h; exact e
  · cases h with | cons h h' =>
    cases h'
    rw [al_p.mp h]
    exact e
  · cases e
theorem fold_of {A : Nat → Prop} {M : Hm} : ∀ {kws : List (P × W)} {kvs : List (P × VD)}, F2 (fun (x : P × W) (y : P × VD) => x.1 = y.1 ∧ Al A M x.2 y.2.1) kws kvs → ∀ (d : List (P × W)) (q : List P × List V), d.map (·.1) = q.1 → F2 (Al A M) (d.map (·.2)) q.2 →
    (kws.foldl (fun d q => dput d q.1 q.2) d).map (·.1) = (kvs.foldl (fun q kv => (kputK q.1 kv.1, kputV q.1 q.2 kv.1 kv.2.1)) q).1 ∧ F2 (Al A M) ((kws.foldl (fun d q => dput d q.1 q.2) d).map (·.2)) (kvs.foldl (fun q kv => (kputK q.1 kv.1, kputV q.1 q.2 kv.1 kv.2.1)) q).2
  | _, _, .nil, d, q, h1, h2 => ⟨h1, h2⟩
  | _, _, .cons (a := x) (b := y) ⟨e, a⟩ h, d, q, h1, h2 => by
    rw [List.foldl_cons, List.foldl_cons]
    refine fold_of h _ _ ?_ ?_
    · rw [dput_keys, h1, e]
    · have := dput_vals (r := Al A M) (k := x.1) a h2
      rw [h1, e] at this
      rw [e]
      exact this
mutual
theorem ev_ok (hcl : ClOk clV cl) : ∀ e : E, EvOk Q clV cl e
  | .var i => ev_ok_var i
  | .cst c => fun σV σ M A hc hn hA => pst_p hc
  | .glb x c => fun σV σ M A hc hn hA => pst_p hc
  | .tup es => fun σV σ M A hc hn hA => by
    unfold evV ev
    refine pstl_bnd (evs_ok hcl es σV σ M A hc hn hA) fun vs ws L hc h => ?_
    have hl := (rst_als hA h).len
    rw [hl]
    split
    · exact pst_tup hc hA h
    · exact pst_bad
  | .lst es => fun σV σ M A hc hn hA => by
    unfold evV ev
    refine pstl_bnd (evs_ok hcl es σV σ M A hc hn hA) fun vs ws L hc h => ?_
    have hl := (rst_als hA h).len
    rw [hl]
    split
    · exact pst_lst hc (by rw [List.length_append]; omega) hA h
    · exact pst_bad
  | .dct es => fun σV σ M A hc hn hA => by
    unfold evV ev
    refine pstl_bnd (evs_ok hcl es σV σ M A hc hn hA) fun vs ws L hc h => ?_
    have ha := rst_als hA h
    cases h2 : pairUpV vs with
    | none => exact pst_bad
    | some kvs =>
      obtain ⟨kws, e1, h3⟩ := pairUp_of ha h2
      rw [e1]
      simp only
      rw [h3.len]
      split
      · obtain ⟨f1, f2⟩ := fold_of h3 [] ([], []) rfl .nil
        exact pst_new hc (by simp) (k := .dic _) (by show some (Kd.dic _) = _; rw [f1]) f2
      · exact pst_bad
  | .bin o a b => fun σV σ M A hc hn hA => by
    unfold evV ev
    refine pst_bnd (ev_ok hcl a σV σ M A hc (en1_imp hn (fun i hi => by rw [occ]; exact List.mem_append_left _ hi) fun _ _ h => h) hA) fun x wx L hc1 h1 => ?_
    refine pst_bnd (ev_2 (ev_ok hcl b) hc1 hn (fun i hi => by rw [occ]; exact List.mem_append_right _ hi) hA) fun y wy L2 hc2 h2 => ?_
    exact op_of hc2 (by simp only [List.length_append]; omega) (al_ext L2 (rs_al hA h1)) (rs_al hA h2)
  | .neg a => fun σV σ M A hc hn hA => by
    unfold evV ev
    refine pst_bnd (ev_ok hcl a σV σ M A hc hn hA) fun x wx L hc1 h1 => ?_
    obtain ⟨v, d⟩ := x
    cases v with
    | p y =>
      cases y with
      | int i => rw [rs_pp h1]; exact pst_p hc1
      | _ => exact pst_bad
    | _ => exact pst_bad
  | .cmp o a b => fun σV σ M A hc hn hA => by
    unfold evV ev
    refine pst_bnd (ev_ok hcl a σV σ M A hc (en1_imp hn (fun i hi => by rw [occ]; exact List.mem_append_left _ hi) fun _ _ h => h) hA) fun x wx L hc1 h1 => ?_
    refine pst_bnd (ev_2 (ev_ok hcl b) hc1 hn (fun i hi => by rw [occ]; exact List.mem_append_right _ hi) hA) fun y wy L2 hc2 h2 => ?_
    exact pst_b hc2 fun b e => cmp_of (al_ext L2 (rs_al hA h1)) (rs_al hA h2) e
  | .chn o o' a b c => fun σV σ M A hc hn hA => by
    unfold evV ev
    refine pst_bnd (ev_ok hcl a σV σ M A hc (en1_imp hn (fun i hi => by rw [occ]; exact List.mem_append_left _ hi) fun _ _ h => h) hA) fun x wx L hc1 h1 => ?_
    refine pst_bnd (ev_2 (ev_ok hcl b) hc1 hn (fun i hi => by rw [occ]; exact List.mem_append_right _ (List.mem_append_left _ hi)) hA) fun y wy L2 hc2 h2 => ?_
    cases h3 : cmpVV o x.1 y.1 with
    | none => exact pst_bad
    | some t =>
      rw [cmp_of (al_ext L2 (rs_al hA h1)) (rs_al hA h2) h3]
      cases t with
      | false => exact pst_p hc2
      | true =>
        simp only
        have hc3 := hc2
        rw [List.append_assoc] at hc3 ⊢
        refine pst_bnd (ev_2 (ev_ok hcl c) hc3 hn (fun i hi => by rw [occ]; exact List.mem_append_right _ (List.mem_append_right _ hi)) hA) fun z wz L3 hc4 h4 => ?_
        rw [← List.append_assoc] at hc4 h4 ⊢
        exact pst_b hc4 fun b e => cmp_of (al_ext L3 (rs_al hA h2)) (rs_al hA h4) e
  | .and a b => fun σV σ M A hc hn hA => by
    unfold evV ev
    refine pst_bnd (ev_ok hcl a σV σ M A hc (en1_imp hn (fun i hi => by rw [occ]; exact List.mem_append_left _ hi) fun _ _ h => h) hA) fun x wx L hc1 h1 => ?_
    obtain ⟨v, d⟩ := x
    cases v with
    | p y =>
      cases y with
      | bl t =>
        rw [rs_pp h1]
        cases t with
        | false => exact pst_p hc1
        | true => exact ev_2 (ev_ok hcl b) hc1 hn (fun i hi => by rw [occ]; exact List.mem_append_right _ hi) hA
      | _ => exact pst_bad
    | _ => exact pst_bad
  | .or a b => fun σV σ M A hc hn hA => by
    unfold evV ev
    refine pst_bnd (ev_ok hcl a σV σ M A hc (en1_imp hn (fun i hi => by rw [occ]; exact List.mem_append_left _ hi) fun _ _ h => h) hA) fun x wx L hc1 h1 => ?_
    obtain ⟨v, d⟩ := x
    cases v with
    | p y =>
      cases y with
      | bl t =>
        rw [rs_pp h1]
        cases t with
        | true => exact pst_p hc1
        | false => exact ev_2 (ev_ok hcl b) hc1 hn (fun i hi => by rw [occ]; exact List.mem_append_right _ hi) hA
      | _ => exact pst_bad
    | _ => exact pst_bad
  | .not a => fun σV σ M A hc hn hA => by
    unfold evV ev
    refine pst_bnd (ev_ok hcl a σV σ M A hc hn hA) fun x wx L hc1 h1 => ?_
    obtain ⟨v, d⟩ := x
    cases v with
    | p y =>
      cases y with
      | bl i => rw [rs_pp h1]; exact pst_p hc1
      | _ => exact pst_bad
    | _ => exact pst_bad
  | .idx a b => fun σV σ M A hc hn hA => by
    unfold evV ev
    refine pst_bnd (ev_ok hcl a σV σ M A hc (en1_imp hn (fun i hi => by rw [occ]; exact List.mem_append_left _ hi) fun _ _ h => h) hA) fun x wx L hc1 h1 => ?_
    refine pst_bnd (ev_2 (ev_ok hcl b) hc1 hn (fun i hi => by rw [occ]; exact List.mem_append_right _ hi) hA) fun y wy L2 hc2 h2 => ?_
    refine idx_of hc2 hA ?_ (rs_al hA h2)
    obtain ⟨O, R, q1, q2⟩ := h1
    exact ⟨O, R, rd_ext L2 q1, q2⟩
  | .slc a lo hi => fun σV σ M A hc hn hA => by
    unfold evV ev
    refine pst_bnd (ev_ok hcl a σV σ M A hc (en1_imp hn (fun i hi => by rw [occ]; exact List.mem_append_left _ hi) fun _ _ h => h) hA) fun x wx L hc1 h1 => ?_
    refine pstl_bnd (evs_2 (evs_ok hcl lo) hc1 hn (fun i hi => by rw [occ]; exact List.mem_append_right _ (List.mem_append_left _ hi)) hA) fun vs ws L2 hc2 h2 => ?_
    cases h3 : partOfV vs with
    | none => exact pst_bad
    | some l' =>
      rw [part_of (rst_als hA h2) h3]
      simp only
      have hc3 := hc2
      rw [List.append_assoc] at hc3 ⊢
      refine pstl_bnd (evs_2 (evs_ok hcl hi) hc3 hn (fun i hi => by rw [occ]; exact List.mem_append_right _ (List.mem_append_right _ hi)) hA) fun us ts L3 hc4 h4 => ?_
      rw [← List.append_assoc] at hc4 h4 ⊢
      cases h5 : partOfV us with
      | none => exact pst_bad
      | some h' =>
        rw [part_of (rst_als hA h4) h5]
        exact slc_of hc4 (by simp only [List.length_append]; omega) (al_ext L3 (al_ext L2 (rs_al hA h1)))
  | .rvs a => fun σV σ M A hc hn hA => by
    unfold evV ev
    refine pst_bnd (ev_ok hcl a σV σ M A hc hn hA) fun x wx L hc1 h1 => ?_
    exact rvs_of hc1 (by simp) (rs_al hA h1)
  | .srs a => fun σV σ M A hc hn hA => by
    unfold evV ev
    refine pst_bnd (ev_ok hcl a σV σ M A hc hn hA) fun x wx L hc1 h1 => ?_
    cases h2 : pureV x.1 with
    | none => exact pst_bad
    | some xs =>
      simp only [sortedSetF, al_pure (rs_al hA h1) h2, Option.bind_some]
      cases sortSetV xs with
      | none => exact pst_bad
      | some ys => exact pst_lp hc1 (by simp) ys
  | .lns a => fun σV σ M A hc hn hA => by
    unfold evV ev
    refine pst_bnd (ev_ok hcl a σV σ M A hc hn hA) fun x wx L hc1 h1 => ?_
    cases h2 : pureV x.1 with
    | none => exact pst_bad
    | some xs =>
      simp only [lenSetF, al_pure (rs_al hA h1) h2, Option.bind_some]
      exact pst_o hc1 fun _ h => h
  | .call f es => fun σV σ M A hc hn hA => by
    unfold evV ev
    refine pstl_bnd (evs_ok hcl es σV σ M A hc hn hA) fun vs ws L hc h => ?_
    exact pst_up (by simp) (hcl f (vs.map (·.1)) ws _ A hc (fun a ha => hA a (by rw [List.length_append] at ha; omega)) (als_fst (rst_als hA h)))
  | .blt b es => fun σV σ M A hc hn hA => by
    unfold evV ev
    refine pstl_bnd (evs_ok hcl es σV σ M A hc hn hA) fun vs ws L hc h => ?_
    exact blt_of hc (by simp) (rst_als hA h)
  | .mth k o es => fun σV σ M A hc hn hA => by
    unfold evV ev
    refine pst_bnd (ev_ok hcl o σV σ M A hc (en1_imp hn (fun i hi => by rw [occ]; exact List.mem_append_left _ hi) fun _ _ h => h) hA) fun x wx L hc1 h1 => ?_
    cases hT : rcvV x.1 with
    | none => exact pst_bad
    | some T =>
      rw [rcv_of (rs_al hA h1) hT]
      simp only
      split
      · refine pstl_bnd (evs_2 (evs_ok hcl es) hc1 hn (fun i hi => by rw [occ]; exact List.mem_append_right _ hi) hA) fun vs ws L2 hc2 h2 => ?_
        exact mth_of hc2 (al_ext L2 (rs_al hA h1)) (rst_als hA h2) hT
      · exact pst_bad
  | .fld o f => fun σV σ M A hc hn hA => trivial
  | .met o k es => fun σV σ M A hc hn hA => trivial
  | .mk c es => fun σV σ M A hc hn hA => trivial
  | .isi a ts => fun σV σ M A hc hn hA => by
    unfold evV ev
    refine pst_bnd (ev_ok hcl a σV σ M A hc hn hA) fun x wx L hc1 h1 => ?_
    exact pst_b hc1 fun b e => isTys_of (rs_al hA h1) e
  | .lc own pt k src cs e => ev_ok_lc (evs_ok hcl src) (evc_ok hcl cs) (ev_ok hcl e)
theorem evs_ok (hcl : ClOk clV cl) : ∀ es : List E, EvsOk Q clV cl es
  | [] => evs_ok_nil
  | e :: es => evs_ok_cons (ev_ok hcl e) (evs_ok hcl es)
theorem evc_ok (hcl : ClOk clV cl) : ∀ es : List E, ∀ c ∈ es, EvOk Q clV cl c
  | [] => fun c hc => by cases hc
  | e :: es =>
    have h1 := ev_ok hcl e
    have h2 := evc_ok hcl es
    fun c hc => (List.mem_cons.mp hc).elim (fun h => h ▸ h1) (fun h => h2 c h)
end
end
end Vl

namespace Vl
open PySem Mi
structure Iv (b : Nat) (A : Nat → Prop) (M : Hm) (σV : EV) (σ : En) (O R : Nat → List Nat) : Prop where
  len : σV.length = σ.length
  rd : ∀ (i : Nat) (v : VD), σV[i]? = some (some v) → ∃ w, σ[i]? = some (some w) ∧ Rd M v.2 w v.1 (O i) (R i)
  nod : ∀ i, (O i).Nodup
  dis : ∀ i j a, a ∈ O i → a ∈ O j → i = j
  sep : ∀ i j a, a ∈ R i → a ∉ O j
  own : ∀ i a, a ∈ O i → b ≤ a ∧ a < M.length
  all : ∀ i a, a ∈ R i → A a ∧ a < M.length
  bel : ∀ (i : Nat) (w : W), σ[i]? = some (some w) → below M.length w = true
structure Pn (b : Nat) (A : Nat → Prop) (M : Hm) (w : W) (v : VD) (Ov Rv : List Nat) (O R : Nat → List Nat) : Prop where
  rd : Rd M v.2 w v.1 Ov Rv
  gd : Gd Ov Rv
  own : ∀ a ∈ Ov, b ≤ a
  all : ∀ a ∈ Rv, A a
  d1 : ∀ a ∈ Ov, ∀ i, a ∉ O i ∧ a ∉ R i
  d2 : ∀ a ∈ Rv, ∀ i, a ∉ O i
def upd (f : Nat → List Nat) (i : Nat) (x : List Nat) (j : Nat) : List Nat := if j = i then x else f j
section
variable {b : Nat} {A : Nat → Prop} {M : Hm} {σV : EV} {σ : En} {O R : Nat → List Nat}
theorem Iv.set (h : Iv b A M σV σ O R) {w : W} {v : VD} {Ov Rv : List Nat} (p : Pn b A M w v Ov Rv O R) (i : Nat) : Iv b A M (σV.set i (some v)) (σ.set i (some w)) (upd O i Ov) (upd R i Rv) where
  len := by rw [List.length_set, List.length_set]; exact h.len
  rd j u e := by
    rw [List.getElem?_set] at e
    by_cases hij : i = j
    · subst hij
      rw [if_pos rfl] at e
      split at e
      · rename_i hl
        cases e
        refine ⟨w, by rw [List.getElem?_set_self (by rw [← h.len]; exact hl)], ?_⟩
        simp only [upd, if_true]
        exact p.rd
      · cases e
    · rw [if_neg hij] at e
      obtain ⟨w', e', h'⟩ := h.rd j u e
      refine ⟨w', by rw [List.getElem?_set_ne hij]; exact e', ?_⟩
      have : ¬ j = i := fun e => hij e.symm
      simp only [upd, this, if_false]
      exact h'
  nod j := by
    simp only [upd]
    split
    · exact p.gd.1
    · exact h.nod j
  dis j k a := by
    simp only [upd]
    split <;> split <;> intro h1 h2
    · simp_all
    · exact absurd h2 (p.d1 a h1 k).1
    · exact absurd h1 (p.d1 a h2 j).1
    · exact h.dis j k a h1 h2
  sep j k a := by
    simp only [upd]
    split <;> split <;> intro h1 h2
    · exact p.gd.2 a h1 h2
    · exact p.d2 a h1 k h2
    · exact (p.d1 a h2 j).2 h1
    · exact h.sep j k a h1 h2
  own j a := by
    simp only [upd]
    split <;> intro h1
    · exact ⟨p.own a h1, rd_lt _ p.rd a (.inl h1)⟩
    · exact h.own j a h1
  all j a := by
    simp only [upd]
    split <;> intro h1
    · exact ⟨p.all a h1, rd_lt _ p.rd a (.inr h1)⟩
    · exact h.all j a h1
  bel j x e := by
    rw [List.getElem?_set] at e
    split at e
    · split at e
      · cases e; exact rd_below _ p.rd
      · cases e
    · exact h.bel j x e
theorem Iv.ext (h : Iv b A M σV σ O R) (L : Hm) : Iv b A (M ++ L) σV σ O R where
  len := h.len
  rd i v e := by
    obtain ⟨w, a, c⟩ := h.rd i v e
    exact ⟨w, a, rd_ext L c⟩
  nod := h.nod
  dis := h.dis
  sep := h.sep
  own i a ha := ⟨(h.own i a ha).1, by rw [List.length_append]; have := (h.own i a ha).2; omega⟩
  all i a ha := ⟨(h.all i a ha).1, by rw [List.length_append]; have := (h.all i a ha).2; omega⟩
  bel i w e := below_mono (by simp) w (h.bel i w e)
structure Sh (O R O' R' : Nat → List Nat) : Prop where
  o : ∀ i a, a ∈ O' i → a ∈ O i
  r : ∀ i a, a ∈ R' i → a ∈ R i ∨ a ∈ O i
theorem Sh.refl : Sh O R O R := ⟨fun _ _ h => h, fun _ _ h => .inl h⟩
theorem Sh.trans {O' R' O'' R'' : Nat → List Nat} (h : Sh O R O' R') (h' : Sh O' R' O'' R'') : Sh O R O'' R'' :=
  ⟨fun i a ha => h.o i a (h'.o i a ha), fun i a ha => by
    rcases h'.r i a ha with h1 | h1
    · exact h.r i a h1
    · exact .inr (h.o i a h1)⟩
theorem Pn.sh {O' R' : Nat → List Nat} {w : W} {v : VD} {Ov Rv : List Nat} (p : Pn b A M w v Ov Rv O R) (s : Sh O R O' R') : Pn b A M w v Ov Rv O' R' where
  rd := p.rd
  gd := p.gd
  own := p.own
  all := p.all
  d1 a ha i := ⟨fun h => (p.d1 a ha i).1 (s.o i a h), fun h => by
    rcases s.r i a h with h | h
    · exact (p.d1 a ha i).2 h
    · exact (p.d1 a ha i).1 h⟩
  d2 a ha i h := p.d2 a ha i (s.o i a h)
theorem Pn.ext {w : W} {v : VD} {Ov Rv : List Nat} (p : Pn b A M w v Ov Rv O R) (L : Hm) : Pn b A (M ++ L) w v Ov Rv O R := ⟨rd_ext L p.rd, p.gd, p.own, p.all, p.d1, p.d2⟩
theorem Iv.frz1 (h : Iv b A M σV σ O R) (hA : ∀ a, b ≤ a → A a) (i : Nat) : ∃ O' R', Iv b A M (match σV[i]? with
    | some (some (v, _)) => σV.set i (some (v, 0))
    | _ => σV) σ O' R' ∧ Sh O R O' R' ∧ O' i = [] ∧ ∀ j, O j = [] → O' j = [] := by
  have key : ∀ R0 : List Nat, (∀ a ∈ R0, a ∈ R i ∨ a ∈ O i) → ∀ σV' : EV, σV'.length = σV.length → (∀ j v, σV'[j]? = some (some v) → ∃ w, σ[j]? = some (some w) ∧ Rd M v.2 w v.1 (upd O i [] j) (upd R i R0 j)) → ∃ O' R', Iv b A M σV' σ O' R' ∧ Sh O R O' R' ∧ O' i = [] ∧ ∀ j, O j = [] → O' j = [] := by
    intro R0 hR0 σV' hl hrd
    refine ⟨upd O i [], upd R i R0, ⟨by rw [hl]; exact h.len, hrd, ?_, ?_, ?_, ?_, ?_, h.bel⟩, ⟨?_, ?_⟩, by simp [upd], ?_⟩
    · intro j; simp only [upd]; split
      · exact List.nodup_nil
      · exact h.nod j
    · intro j k a
      simp only [upd]
      split <;> split <;> intro h1 h2
      · simp at h1
      · simp at h1
      · simp at h2
      · exact h.dis j k a h1 h2
    · intro j k a
      simp only [upd]
      split <;> split <;> intro h1 h2
      · simp at h2
      · rename_i hj hk
        rcases hR0 a h1 with h3 | h3
        · exact h.sep i k a h3 h2
        · exact hk (h.dis i k a h3 h2).symm
      · simp at h2
      · exact h.sep j k a h1 h2
    · intro j a; simp only [upd]; split
      · intro h; simp at h
      · exact h.own j a
    · intro j a; simp only [upd]; split
      · intro h1
        rcases hR0 a h1 with h3 | h3
        · exact h.all i a h3
        · exact ⟨hA a (h.own i a h3).1, (h.own i a h3).2⟩
      · exact h.all j a
    · intro j a; simp only [upd]; split
      · intro h; simp at h
      · exact fun h => h
    · intro j a; simp only [upd]; split
      · rename_i hj; subst hj; exact hR0 a
      · exact fun h => .inl h
    · intro j hj
      simp only [upd]
      split
      · rfl
      · exact hj
  cases e : σV[i]? with
  | none =>
    simp only
    refine key [] (by simp) σV rfl fun j v hj => ?_
    obtain ⟨w, a, c⟩ := h.rd j v hj
    refine ⟨w, a, ?_⟩
    have : ¬ j = i := fun hji => by subst hji; rw [e] at hj; cases hj
    simp only [upd, this, if_false]
    exact c
  | some o =>
    cases o with
    | none =>
      simp only
      refine key [] (by simp) σV rfl fun j v hj => ?_
      obtain ⟨w, a, c⟩ := h.rd j v hj
      refine ⟨w, a, ?_⟩
      have : ¬ j = i := fun hji => by subst hji; rw [e] at hj; cases hj
      simp only [upd, this, if_false]
      exact c
    | some v =>
      obtain ⟨v, d⟩ := v
      simp only
      obtain ⟨w, a, c⟩ := h.rd i _ e
      obtain ⟨O', R', q1, q2, q3, q4⟩ := rd_low _ c (Nat.zero_le _)
      have e2 := rd_zero _ q1
      subst e2
      refine key R' q3 _ (by rw [List.length_set]) fun j u hj => ?_
      rw [List.getElem?_set] at hj
      by_cases hij : i = j
      · subst hij
        rw [if_pos rfl] at hj
        split at hj
        · cases hj
          refine ⟨w, a, ?_⟩
          simp only [upd, if_true]
          exact q1
        · cases hj
      · rw [if_neg hij] at hj
        obtain ⟨w', e', h'⟩ := h.rd j u hj
        refine ⟨w', e', ?_⟩
        have : ¬ j = i := fun e => hij e.symm
        simp only [upd, this, if_false]
        exact h'
theorem Iv.frz (hA : ∀ a, b ≤ a → A a) : ∀ (is : List Nat) {σV : EV} {O R : Nat → List Nat} (h : Iv b A M σV σ O R), ∃ O' R', Iv b A M (frz is σV) σ O' R' ∧ Sh O R O' R' ∧ (∀ i ∈ is, O' i = []) ∧ ∀ j, O j = [] → O' j = []
  | [], σV, O, R, h => ⟨O, R, h, Sh.refl, by simp, fun _ h => h⟩
  | i :: is, σV, O, R, h => by
    obtain ⟨O1, R1, h1, s1, e1, n1⟩ := h.frz1 hA i
    obtain ⟨O2, R2, h2, s2, e2, n2⟩ := Iv.frz hA is h1
    refine ⟨O2, R2, ?_, s1.trans s2, ?_, fun j hj => n2 j (n1 j hj)⟩
    · rw [Vl.frz, List.foldl_cons]
      exact h2
    · intro j hj
      rcases List.mem_cons.mp hj with rfl | hj
      · exact n2 _ e1
      · exact e2 j hj
def Oc (M : Hm) (O R : Nat → List Nat) (is : List Nat) (a : Nat) : Prop := M.length ≤ a ∨ ∃ i ∈ is, a ∈ O i ∨ a ∈ R i
theorem Iv.en (h : Iv b A M σV σ O R) (is : List Nat) : En1 (Oc M O R is) M is σV σ := by
  refine ⟨h.len, fun i hi v e => ?_⟩
  obtain ⟨w, a, c⟩ := h.rd i v e
  obtain ⟨O', R', q1, q2, q3, q4⟩ := rd_low _ c (Nat.zero_le _)
  have e2 := rd_zero _ q1
  subst e2
  refine ⟨w, a, R', q1, fun x hx => .inr ⟨i, hi, ?_⟩⟩
  rcases q3 x hx with h | h
  · exact .inr h
  · exact .inl h
theorem Iv.ev (h : Iv b A M σV σ O R) (hc : Clo M) {Q : Pg} {clV : Nat → List V → RV VD} {cl : Nat → List W → Hm → Mi.R W} {e : E} (he : EvOk Q clV cl e) : Pst M.length (Oc M O R (occ e)) M (evV Q clV e σV) (ev Q cl e σ M) := he σV σ M _ hc (h.en _) fun a ha => .inl ha
theorem Iv.evs (h : Iv b A M σV σ O R) (hc : Clo M) {Q : Pg} {clV : Nat → List V → RV VD} {cl : Nat → List W → Hm → Mi.R W} {es : List E} (he : EvsOk Q clV cl es) : PstL M.length (Oc M O R (occs es)) M (evsV Q clV es σV) (evs Q cl es σ M) := he σV σ M _ hc (h.en _) fun a ha => .inl ha
theorem Iv.aft (h : Iv b A M σV σ O R) (hb : b ≤ M.length) (hA : ∀ a, b ≤ a → A a) {L : Hm} {w : W} {v : VD} {is : List Nat} (r : Rs M.length (Oc M O R is) (M ++ L) v.2 w v.1) : ∃ O' R' Ov Rv, Iv b A (M ++ L) (aft v is σV) σ O' R' ∧ Sh O R O' R' ∧ Pn b A (M ++ L) w v Ov Rv O' R' ∧ (∀ a ∈ Ov, M.length ≤ a) ∧ (∀ a ∈ Rv, Oc M O R is a) := by
  obtain ⟨Ov, Rv, q1, q2, q3, q4⟩ := r
  unfold Vl.aft
  have d1 : ∀ a ∈ Ov, ∀ i, a ∉ O i ∧ a ∉ R i := fun a ha i => ⟨fun hx => by have := (h.own i a hx).2; have := q3 a ha; omega, fun hx => by have := (h.all i a hx).2; have := q3 a ha; omega⟩
  split
  · rename_i hf
    have e := rd_full _ hf q1
    subst e
    exact ⟨O, R, Ov, [], h.ext L, Sh.refl, ⟨q1, q2, fun a ha => Nat.le_trans hb (q3 a ha), by simp, d1, by simp⟩, q3, by simp⟩
  · obtain ⟨O', R', h1, s, e, _⟩ := Iv.frz hA is (h.ext L)
    refine ⟨O', R', Ov, Rv, h1, s, ⟨q1, q2, fun a ha => Nat.le_trans hb (q3 a ha), ?_, ?_, ?_⟩, q3, q4⟩
    · intro a ha
      rcases q4 a ha with h2 | ⟨i, hi, h2 | h2⟩
      · exact hA a (Nat.le_trans hb h2)
      · exact hA a (h.own i a h2).1
      · exact (h.all i a h2).1
    · intro a ha i
      refine ⟨fun hx => (d1 a ha i).1 (s.o i a hx), fun hx => ?_⟩
      rcases s.r i a hx with h2 | h2
      · exact (d1 a ha i).2 h2
      · exact (d1 a ha i).1 h2
    · intro a ha i hx
      have h3 := s.o i a hx
      rcases q4 a ha with h2 | ⟨j, hj, h2 | h2⟩
      · have := (h.own i a h3).2
        omega
      · have := h.dis j i a h2 h3
        subst this
        rw [e j hj] at hx
        simp at hx
      · exact h.sep j i a h2 h3
structure Pns (b : Nat) (A : Nat → Prop) (M : Hm) (ws : List W) (vs : List VD) (Ov Rv : List Nat) (O R : Nat → List Nat) : Prop where
  rd : RdT M ws vs Ov Rv
  gd : Gd Ov Rv
  own : ∀ a ∈ Ov, b ≤ a
  all : ∀ a ∈ Rv, A a
  d1 : ∀ a ∈ Ov, ∀ i, a ∉ O i ∧ a ∉ R i
  d2 : ∀ a ∈ Rv, ∀ i, a ∉ O i
theorem rdl_rdt {d : Nat} : ∀ {vs : List V} {ws : List W} {O R : List Nat}, RdL M d ws vs O R → RdT M ws (vs.map fun v => (v, d)) O R
  | [], ws, O, R, h => rdl_nil.mp h
  | v :: vs, ws, O, R, h => by
    obtain ⟨w, ws', O1, O2, R1, R2, rfl, h1, h2, rfl, rfl⟩ := rdl_cons.mp h
    exact ⟨w, ws', O1, O2, R1, R2, rfl, h1, rdl_rdt h2, rfl, rfl⟩
structure Gr (O R O' R' : Nat → List Nat) (Ov Rv : List Nat) : Prop where
  o : ∀ i a, a ∈ O' i → (∃ j, a ∈ O j) ∨ a ∈ Ov
  r : ∀ i a, a ∈ R' i → (∃ j, a ∈ R j) ∨ a ∈ Rv
mutual
theorem bind_iv : ∀ (pt : Pt) {v : VD} {w : W} {σV σV' : EV} {σ : En} {O R : Nat → List Nat} {Ov Rv : List Nat}, Iv b A M σV σ O R → Pn b A M w v Ov Rv O R → bindV pt v σV = some σV' → ∃ σ' O' R', bindPt M pt w σ = some σ' ∧ Iv b A M σV' σ' O' R' ∧ Gr O R O' R' Ov Rv
  | .name i, v, w, σV, σV', σ, O, R, Ov, Rv, h, p, e => by
    rw [bindV] at e
    cases e
    refine ⟨_, _, _, rfl, h.set p i, ⟨?_, ?_⟩⟩
    · intro j a; simp only [upd]; split
      · exact fun h => .inr h
      · exact fun h => .inl ⟨j, h⟩
    · intro j a; simp only [upd]; split
      · exact fun h => .inr h
      · exact fun h => .inl ⟨j, h⟩
  | .tup ps, (v, d), w, σV, σV', σ, O, R, Ov, Rv, h, p, e => by
    have p1 : Rd M d w v Ov Rv := p.rd
    cases v with
    | p x =>
      cases x with
      | tup xs =>
        obtain ⟨rfl, rfl, rfl⟩ := rd_p.mp p1
        have hr : RdT M (xs.map W.p) (xs.map fun x => ((V.p x : V), d)) [] [] := by
          have := rdl_rdt (M := M) (d := d) (vs := xs.map V.p) ((rdl_p xs).mpr ⟨rfl, rfl, rfl⟩)
          rw [List.map_map] at this
          exact this
        obtain ⟨σ', O', R', e1, h1, g⟩ := binds_iv ps h ⟨hr, p.gd, p.own, p.all, p.d1, p.d2⟩ e
        exact ⟨σ', O', R', e1, h1, g⟩
      | _ => cases e
    | tup us =>
      obtain ⟨ws, rfl, _, h2⟩ := rd_tup.mp p1
      obtain ⟨σ', O', R', e1, h1, g⟩ := binds_iv ps h ⟨rdl_rdt h2, p.gd, p.own, p.all, p.d1, p.d2⟩ e
      exact ⟨σ', O', R', e1, h1, g⟩
    | nd k us =>
      cases k with
      | lst =>
        rcases rd_nd.mp p1 with ⟨a, o, X, Y, rfl, ha, hk, h2, h3⟩ | ⟨_, _, _, e, _⟩
        · cases o with
          | lst ws =>
            have sx : X.Sublist Ov ∧ ∀ b ∈ Y, b ∈ Rv := by
              rcases h3 with ⟨_, rfl, rfl⟩ | ⟨_, rfl, rfl⟩
              · exact ⟨List.Sublist.refl _, fun b hb => List.mem_cons_of_mem _ hb⟩
              · exact ⟨List.sublist_cons_self _ _, fun b hb => hb⟩
            obtain ⟨σ', O', R', e1, h1, g⟩ := binds_iv ps h ⟨rdl_rdt h2, ⟨p.gd.1.sublist sx.1, fun x hx hy => p.gd.2 x (sx.2 x hx) (sx.1.subset hy)⟩, fun x hx => p.own x (sx.1.subset hx), fun x hx => p.all x (sx.2 x hx), fun x hx => p.d1 x (sx.1.subset hx), fun x hx => p.d2 x (sx.2 x hx)⟩ e
            refine ⟨σ', O', R', ?_, h1, ⟨fun i x hx => ?_, fun i x hx => ?_⟩⟩
            · simp only [bindPt, seqOf, ha]
              exact e1
            · rcases g.o i x hx with h | h
              · exact .inl h
              · exact .inr (sx.1.subset h)
            · rcases g.r i x hx with h | h
              · exact .inl h
              · exact .inr (sx.2 x h)
          | _ => cases hk
        · cases e
      | _ => cases e
theorem binds_iv : ∀ (ps : List Pt) {vs : List VD} {ws : List W} {σV σV' : EV} {σ : En} {O R : Nat → List Nat} {Ov Rv : List Nat}, Iv b A M σV σ O R → Pns b A M ws vs Ov Rv O R → bindVs ps vs σV = some σV' → ∃ σ' O' R', bindPts M ps ws σ = some σ' ∧ Iv b A M σV' σ' O' R' ∧ Gr O R O' R' Ov Rv
  | [], [], ws, σV, σV', σ, O, R, Ov, Rv, h, p, e => by
    obtain ⟨rfl, rfl, rfl⟩ := p.rd
    rw [bindVs] at e
    cases e
    exact ⟨σ, O, R, rfl, h, ⟨fun i a h => .inl ⟨i, h⟩, fun i a h => .inl ⟨i, h⟩⟩⟩
  | [], v :: vs, ws, σV, σV', σ, O, R, Ov, Rv, h, p, e => by unfold bindVs at e; cases e
  | q :: ps, [], ws, σV, σV', σ, O, R, Ov, Rv, h, p, e => by unfold bindVs at e; cases e
  | q :: ps, v :: vs, ws, σV, σV', σ, O, R, Ov, Rv, h, p, e => by
    obtain ⟨w, ws', O1, O2, R1, R2, rfl, h1, h2, rfl, rfl⟩ := p.rd
    rw [bindVs] at e
    have gn := List.nodup_append.mp p.gd.1
    cases e2 : bindV q v σV with
    | none => rw [e2] at e; cases e
    | some σ1 =>
      rw [e2] at e
      have p1 : Pn b A M w v O1 R1 O R := ⟨h1, ⟨gn.1, fun c hc hx => p.gd.2 c (List.mem_append_left _ hc) (List.mem_append_left _ hx)⟩, fun a ha => p.own a (List.mem_append_left _ ha), fun a ha => p.all a (List.mem_append_left _ ha), fun a ha => p.d1 a (List.mem_append_left _ ha), fun a ha => p.d2 a (List.mem_append_left _ ha)⟩
      obtain ⟨τ, O', R', e3, h3, g⟩ := bind_iv q h p1 e2
      have p2 : Pns b A M ws' vs O2 R2 O' R' := ⟨h2, ⟨gn.2.1, fun c hc hx => p.gd.2 c (List.mem_append_right _ hc) (List.mem_append_right _ hx)⟩, fun a ha => p.own a (List.mem_append_right _ ha), fun a ha => p.all a (List.mem_append_right _ ha), fun a ha i => ⟨fun hx => by
          rcases g.o i a hx with ⟨j, h⟩ | h
          · exact (p.d1 a (List.mem_append_right _ ha) j).1 h
          · exact gn.2.2 a h a ha rfl, fun hx => by
          rcases g.r i a hx with ⟨j, h⟩ | h
          · exact (p.d1 a (List.mem_append_right _ ha) j).2 h
          · exact p.gd.2 a (List.mem_append_left _ h) (List.mem_append_right _ ha)⟩, fun a ha i hx => by
          rcases g.o i a hx with ⟨j, h⟩ | h
          · exact p.d2 a (List.mem_append_right _ ha) j h
          · exact p.gd.2 a (List.mem_append_right _ ha) (List.mem_append_left _ h)⟩
      obtain ⟨σ', O'', R'', e4, h4, g2⟩ := binds_iv ps h3 p2 e
      refine ⟨σ', O'', R'', ?_, h4, ⟨fun i a ha => ?_, fun i a ha => ?_⟩⟩
      · rw [bindPts, e3]
        exact e4
      · rcases g2.o i a ha with ⟨j, h⟩ | h
        · rcases g.o j a h with h | h
          · exact .inl h
          · exact .inr (List.mem_append_left _ h)
        · exact .inr (List.mem_append_right _ h)
      · rcases g2.r i a ha with ⟨j, h⟩ | h
        · rcases g.r j a h with h | h
          · exact .inl h
          · exact .inr (List.mem_append_left _ h)
        · exact .inr (List.mem_append_right _ h)
end
end
end Vl

namespace Vl
open PySem Mi
section
variable {M : Hm}
theorem gd_app {O1 O2 R1 R2 : List Nat} (h : Gd (O1 ++ O2) (R1 ++ R2)) : Gd O1 R1 ∧ Gd O2 R2 ∧ (∀ a ∈ O1, a ∉ O2) ∧ (∀ a ∈ R1, a ∉ O2) ∧ ∀ a ∈ R2, a ∉ O1 := by
  have gn := List.nodup_append.mp h.1
  exact ⟨⟨gn.1, fun c hc hx => h.2 c (List.mem_append_left _ hc) (List.mem_append_left _ hx)⟩, ⟨gn.2.1, fun c hc hx => h.2 c (List.mem_append_right _ hc) (List.mem_append_right _ hx)⟩, fun a ha hb => gn.2.2 a ha a hb rfl, fun c hc hx => h.2 c (List.mem_append_left _ hc) (List.mem_append_right _ hx), fun c hc hx => h.2 c (List.mem_append_right _ hc) (List.mem_append_left _ hx)⟩
theorem gd_join {O1 O2 R1 R2 : List Nat} (h1 : Gd O1 R1) (h2 : Gd O2 R2) (a : ∀ a ∈ O1, a ∉ O2) (b : ∀ a ∈ R1, a ∉ O2) (c : ∀ a ∈ R2, a ∉ O1) : Gd (O1 ++ O2) (R1 ++ R2) := by
  refine ⟨List.nodup_append.mpr ⟨h1.1, h2.1, fun x hx y hy e => a x hx (e ▸ hy)⟩, fun x hx hy => ?_⟩
  rcases List.mem_append.mp hx with hx | hx
  · rcases List.mem_append.mp hy with hy | hy
    · exact h1.2 x hx hy
    · exact b x hx hy
  · rcases List.mem_append.mp hy with hy | hy
    · exact c x hx hy
    · exact h2.2 x hx hy
theorem rdl_put : ∀ (vs : List V) (n : Nat) {v : V} {ws : List W} {O R : List Nat} {d : Nat}, RdL M d ws vs O R → Gd O R → vs[n]? = some v → ∃ w On Rn, ws[n]? = some w ∧ Rd M d w v On Rn ∧ On.Sublist O ∧ (∀ c ∈ Rn, c ∈ R) ∧ Gd On Rn ∧
    ∀ (M' : Hm) (e : Nat) (v' : V) (On' Rn' : List Nat), e ≤ d → (∀ c, c ∈ O ∨ c ∈ R → c ∉ On → M'[c]? = M[c]?) → Rd M' e w v' On' Rn' → Gd On' Rn' → (∀ c ∈ On', c ∈ On ∨ (c ∉ O ∧ c ∉ R)) → (∀ c ∈ Rn', c ∈ On ∨ c ∉ O) →
      ∃ O' R', RdL M' e ws (vs.set n v') O' R' ∧ Gd O' R' ∧ (∀ c ∈ O', (c ∈ O ∧ c ∉ On) ∨ c ∈ On') ∧ (∀ c ∈ R', c ∈ R ∨ c ∈ O ∨ c ∈ Rn')
  | [], n, v, ws, O, R, d, h, g, e => by simp at e
  | u :: vs, 0, v, ws, O, R, d, h, g, e => by
    obtain ⟨w, ws', O1, O2, R1, R2, rfl, h1, h2, rfl, rfl⟩ := rdl_cons.mp h
    cases e
    obtain ⟨g1, g2, x1, x2, x3⟩ := gd_app g
    refine ⟨w, O1, R1, rfl, h1, List.sublist_append_left _ _, fun c hc => List.mem_append_left _ hc, g1, ?_⟩
    intro M' e v' On' Rn' he hM hr hg c1 c2
    have h2' := rdl_agree (M' := M') vs h2 fun c hc => hM c (hc.elim (fun h => .inl (List.mem_append_right _ h)) (fun h => .inr (List.mem_append_right _ h))) (hc.elim (fun h hx => x1 c hx h) (fun h => x3 c h))
    obtain ⟨O2', R2', q1, q2, q3, q4⟩ := rdl_low vs h2' he
    refine ⟨On' ++ O2', Rn' ++ R2', rdl_cons.mpr ⟨w, ws', On', O2', Rn', R2', rfl, hr, q1, rfl, rfl⟩, gd_join hg ⟨g2.1.sublist q2, q4 g2⟩ ?_ ?_ ?_, ?_, ?_⟩
    · intro c hc hx
      have := q2.subset hx
      rcases c1 c hc with h | h
      · exact x1 c h this
      · exact h.1 (List.mem_append_right _ this)
    · intro c hc hx
      have := q2.subset hx
      rcases c2 c hc with h | h
      · exact x1 c h this
      · exact h (List.mem_append_right _ this)
    · intro c hc hx
      rcases q3 c hc with h3 | h3
      · rcases c1 c hx with h | h
        · exact x3 c h3 h
        · exact h.2 (List.mem_append_right _ h3)
      · rcases c1 c hx with h | h
        · exact x1 c h h3
        · exact h.1 (List.mem_append_right _ h3)
    · intro c hc
      rcases List.mem_append.mp hc with h | h
      · exact .inr h
      · exact .inl ⟨List.mem_append_right _ (q2.subset h), fun hx => x1 c hx (q2.subset h)⟩
    · intro c hc
      rcases List.mem_append.mp hc with h | h
      · exact .inr (.inr h)
      · rcases q3 c h with h | h
        · exact .inl (List.mem_append_right _ h)
        · exact .inr (.inl (List.mem_append_right _ h))
  | u :: vs, n + 1, v, ws, O, R, d, h, g, e => by
    obtain ⟨w0, ws', O1, O2, R1, R2, rfl, h1, h2, rfl, rfl⟩ := rdl_cons.mp h
    obtain ⟨g1, g2, x1, x2, x3⟩ := gd_app g
    obtain ⟨w, On, Rn, a1, a2, a3, a4, a5, key⟩ := rdl_put vs n h2 g2 e
    refine ⟨w, On, Rn, a1, a2, a3.trans (List.sublist_append_right _ _), fun c hc => List.mem_append_right _ (a4 c hc), a5, ?_⟩
    intro M' e v' On' Rn' he hM hr hg c1 c2
    have h1' := rd_agree (M' := M') u h1 fun c hc => hM c (hc.elim (fun h => .inl (List.mem_append_left _ h)) (fun h => .inr (List.mem_append_left _ h))) (hc.elim (fun h hx => x1 c h (a3.subset hx)) (fun h hx => x2 c h (a3.subset hx)))
    obtain ⟨O1', R1', q1, q2, q3, q4⟩ := rd_low u h1' he
    obtain ⟨O2', R2', b1, b2, b3, b4⟩ := key M' e v' On' Rn' he (fun c hc => hM c (hc.elim (fun h => .inl (List.mem_append_right _ h)) (fun h => .inr (List.mem_append_right _ h)))) hr hg (fun c hc => (c1 c hc).imp_right fun h => ⟨fun hx => h.1 (List.mem_append_right _ hx), fun hx => h.2 (List.mem_append_right _ hx)⟩) (fun c hc => (c2 c hc).imp_right fun h hx => h (List.mem_append_right _ hx))
    refine ⟨O1' ++ O2', R1' ++ R2', rdl_cons.mpr ⟨w0, ws', O1', O2', R1', R2', rfl, q1, b1, rfl, rfl⟩, gd_join ⟨g1.1.sublist q2, q4 g1⟩ b2 ?_ ?_ ?_, ?_, ?_⟩
    · intro c hc hx
      have h3 := q2.subset hc
      rcases b3 c hx with h | h
      · exact x1 c h3 h.1
      · rcases c1 c h with h | h
        · exact x1 c h3 (a3.subset h)
        · exact h.1 (List.mem_append_left _ h3)
    · intro c hc hx
      rcases b3 c hx with h | h
      · rcases q3 c hc with h3 | h3
        · exact x2 c h3 h.1
        · exact x1 c h3 h.1
      · rcases c1 c h with h | h
        · rcases q3 c hc with h3 | h3
          · exact x2 c h3 (a3.subset h)
          · exact x1 c h3 (a3.subset h)
        · rcases q3 c hc with h3 | h3
          · exact h.2 (List.mem_append_left _ h3)
          · exact h.1 (List.mem_append_left _ h3)
    · intro c hc hx
      have h3 := q2.subset hx
      rcases b4 c hc with h | h | h
      · exact x3 c h h3
      · exact x1 c h3 h
      · rcases c2 c h with h | h
        · exact x1 c h3 (a3.subset h)
        · exact h (List.mem_append_left _ h3)
    · intro c hc
      rcases List.mem_append.mp hc with h | h
      · exact .inl ⟨List.mem_append_left _ (q2.subset h), fun hx => x1 c (q2.subset h) (a3.subset hx)⟩
      · exact (b3 c h).imp_left fun h => ⟨List.mem_append_right _ h.1, h.2⟩
    · intro c hc
      rcases List.mem_append.mp hc with h | h
      · rcases q3 c h with h | h
        · exact .inl (List.mem_append_left _ h)
        · exact .inr (.inl (List.mem_append_left _ h))
      · rcases b4 c h with h | h | h
        · exact .inl (List.mem_append_right _ h)
        · exact .inr (.inl (List.mem_append_right _ h))
        · exact .inr (.inr h)
def ptr (M : Hm) : List P → W → Option W
  | [], w => some w
  | y :: ys, w => match idxV w (.p y) M with
    | .ok w' _ => ptr M ys w'
    | _ => none
theorem upd_pos {α : Type} {f : V → Option (V × α)} {put : VD} : ∀ (path : List P) {v : V} {d : Nat} {r : VD × α}, updV f put path (v, d) = some r → 0 < d
  | [], v, d, r, e => by
    unfold updV at e
    split at e
    · rename_i h; exact h
    · cases e
  | y :: ys, v, d, r, e => by
    cases v with
    | p x => cases e
    | tup vs =>
      cases y with
      | int i =>
        simp only [updV] at e
        split at e
        · split at e
          · rename_i v _
            cases h : updV f put ys (v, d) with
            | none => rw [h] at e; cases e
            | some q => exact upd_pos ys h
          · cases e
        · cases e
      | _ => cases e
    | nd k vs =>
      cases k with
      | lst =>
        cases y with
        | int i =>
          simp only [updV] at e
          split at e
          · split at e
            · rename_i v _
              cases h : updV f put ys (v, d - 1) with
              | none => rw [h] at e; cases e
              | some q => have := upd_pos ys h; omega
            · cases e
          · cases e
        | _ => cases e
      | dic ks =>
        simp only [updV] at e
        split at e
        · split at e
          · split at e
            · rename_i v _
              cases h : updV f put ys (v, d - 1) with
              | none => rw [h] at e; cases e
              | some q => have := upd_pos ys h; omega
            · cases e
          · cases e
        · cases e
      | _ => cases e
def Upd (M : Hm) {α : Type} (f : V → Option (V × α)) (put : VD) (path : List P) (v : V) (d : Nat) (w : W) (O R : List Nat) (r : VD × α) : Prop :=
  ∃ a dn vn vn' On Rn, ptr M path w = some (.ref a) ∧ 0 < dn ∧ Rd M dn (.ref a) vn On Rn ∧ On.Sublist O ∧ (∀ c ∈ Rn, c ∈ R) ∧ Gd On Rn ∧ getV path v = some vn ∧ f vn = some (vn', r.2) ∧
    r.1.2 ≤ d ∧ ∀ (M' : Hm) (On' Rn' : List Nat), (∀ c, c ∈ O ∨ c ∈ R → c ∉ On → M'[c]? = M[c]?) → (∀ c, c ∉ On → M'[c]? = M[c]?) → Rd M' (ownBy put dn) (.ref a) vn' On' Rn' → Gd On' Rn' → (∀ c ∈ On', c ∈ On ∨ (c ∉ O ∧ c ∉ R)) → (∀ c ∈ Rn', c ∈ On ∨ c ∉ O) →
      ∃ O' R', Rd M' r.1.2 w r.1.1 O' R' ∧ Gd O' R' ∧ (∀ c ∈ O', (c ∈ O ∧ c ∉ On) ∨ c ∈ On') ∧ (∀ c ∈ R', c ∈ R ∨ c ∈ O ∨ c ∈ Rn')
theorem ownBy_le (put : VD) (d : Nat) : ownBy put d ≤ d := by
  unfold ownBy
  split
  · exact Nat.le_refl _
  · exact Nat.min_le_left _ _
theorem upd_of {α : Type} {f : V → Option (V × α)} {put : VD} (hf : ∀ v r, f v = some r → ∃ k vs, v = .nd k vs) : ∀ (path : List P) {v : V} {d : Nat} {w : W} {O R : List Nat} {r : VD × α}, updV f put path (v, d) = some r → Rd M d w v O R → Gd O R → Upd M f put path v d w O R r
  | [], v, d, w, O, R, r, e, h, g => by
    have hd := upd_pos _ e
    unfold updV at e
    rw [if_pos hd] at e
    cases h2 : f v with
    | none => rw [h2] at e; cases e
    | some q =>
      rw [h2] at e
      cases e
      obtain ⟨k, vs, rfl⟩ := hf v q h2
      rcases rd_nd.mp h with ⟨a, o, X, Y, rfl, _⟩ | ⟨h0, _⟩
      · refine ⟨a, d, .nd k vs, q.1, O, R, rfl, hd, h, List.Sublist.refl _, fun c hc => hc, g, rfl, h2, ownBy_le _ _, ?_⟩
        intro M' On' Rn' _ _ hr hg c1 c2
        exact ⟨On', Rn', hr, hg, fun c hc => .inr hc, fun c hc => .inr (.inr hc)⟩
      · omega
  | y :: ys, v, d, w, O, R, r, e, h, g => by
    cases v with
    | p x => cases e
    | tup vs =>
      cases y with
      | int i =>
        simp only [updV] at e
        cases e1 : Mi.placeOf vs.length i with
        | none => rw [e1] at e; cases e
        | some n =>
          rw [e1] at e
          simp only at e
          cases e2 : vs[n]? with
          | none => rw [e2] at e; cases e
          | some v =>
            rw [e2] at e
            simp only at e
            cases e3 : updV f put ys (v, d) with
            | none => rw [e3] at e; cases e
            | some q =>
              rw [e3] at e
              cases e
              obtain ⟨ws, rfl, hp, h2⟩ := rd_tup.mp h
              obtain ⟨u, O1, R1, a1, a2, a3, a4, a5, key⟩ := rdl_put vs n h2 g e2
              obtain ⟨a, dn, vn, vn', On, Rn, b1, b2, b3, b4, b5, b6, b7, b8, b9, b10⟩ := upd_of hf ys e3 a2 a5
              have hl := rdl_len _ h2
              refine ⟨a, dn, vn, vn', On, Rn, ?_, b2, b3, b4.trans a3, fun c hc => a4 c (b5 c hc), b6, ?_, b8, b9, ?_⟩
              · simp only [ptr, idxV, tupItems]
                rw [show atW ws i = ws[n]? from atW_mk (by rw [hl]; exact e1), a1]
                exact b1
              · simp only [getV, e1, e2]
                exact b7
              · intro M' On' Rn' hM hM2 hr hg c1 c2
                obtain ⟨O', R', d1, d2, d3, d4⟩ := b10 M' On' Rn' (fun c _ => hM2 c) hM2 hr hg (fun c hc => (c1 c hc).imp_right fun h => ⟨fun hx => h.1 (a3.subset hx), fun hx => h.2 (a4 c hx)⟩) (fun c hc => (c2 c hc).imp_right fun h hx => h (a3.subset hx))
                obtain ⟨O'', R'', f1, f2, f3, f4⟩ := key M' q.1.2 q.1.1 O' R' b9 (fun c hc hn => hM2 c fun hx => hn (b4.subset hx)) d1 d2 (fun c hc => by
                    rcases d3 c hc with h | h
                    · exact .inl h.1
                    · rcases c1 c h with h | h
                      · exact .inl (b4.subset h)
                      · exact .inr h) (fun c hc => by
                    rcases d4 c hc with h | h | h
                    · exact .inr (fun hx => g.2 c (a4 c h) hx)
                    · exact .inl h
                    · rcases c2 c h with h | h
                      · exact .inl (b4.subset h)
                      · exact .inr h)
                refine ⟨O'', R'', rd_tup.mpr ⟨ws, rfl, hp, f1⟩, f2, fun c hc => ?_, fun c hc => ?_⟩
                · rcases f3 c hc with h | h
                  · exact .inl ⟨h.1, fun hx => h.2 (b4.subset hx)⟩
                  · rcases d3 c h with h | h
                    · exact .inl ⟨a3.subset h.1, h.2⟩
                    · exact .inr h
                · rcases f4 c hc with h | h | h
                  · exact .inl h
                  · exact .inr (.inl h)
                  · rcases d4 c h with h | h | h
                    · exact .inl (a4 c h)
                    · exact .inr (.inl (a3.subset h))
                    · exact .inr (.inr h)
      | _ => cases e
    | nd k vs =>
      have hd0 := upd_pos _ e
      rcases rd_nd.mp h with ⟨a0, o, X, Y, rfl, ha, hk, h2, hX⟩ | ⟨h0, _⟩
      rotate_left
      · omega
      obtain ⟨rfl, rfl⟩ : O = a0 :: X ∧ R = Y := by
        rcases hX with ⟨h0, _⟩ | ⟨_, h1, h2⟩
        · omega
        · exact ⟨h1, h2⟩
      have ga : a0 ∉ X ∧ X.Nodup := by simpa using g.1
      have gX : Gd X R := ⟨ga.2, fun c hc hx => g.2 c hc (List.mem_cons_of_mem _ hx)⟩
      have gY : a0 ∉ R := fun hx => g.2 a0 hx List.mem_cons_self
      -- the step within
      have key0 : ∀ (n : Nat) (v : V) (q : VD × α), vs[n]? = some v → updV f put ys (v, d - 1) = some q → (∀ u, (kidsO o)[n]? = some u → idxV (.ref a0) (.p y) M = .ok u M) → getV (y :: ys) (.nd k vs) = getV ys v → r = ((.nd k (vs.set n q.1.1), 1 + q.1.2), q.2) → Upd M f put (y :: ys) (.nd k vs) d (.ref a0) (a0 :: X) R r := by
        intro n v q e2 e3 hi hg e
        subst e
        obtain ⟨u, O1, R1, a1, a2, a3, a4, a5, key⟩ := rdl_put vs n h2 gX e2
        obtain ⟨a, dn, vn, vn', On, Rn, b1, b2, b3, b4, b5, b6, b7, b8, b9, b10⟩ := upd_of hf ys e3 a2 a5
        refine ⟨a, dn, vn, vn', On, Rn, ?_, b2, b3, (b4.trans a3).trans (List.sublist_cons_self _ _), fun c hc => a4 c (b5 c hc), b6, ?_, b8, ?_, ?_⟩
        · simp only [ptr, hi u a1]
          exact b1
        · rw [hg]; exact b7
        · show 1 + q.1.2 ≤ d
          omega
        · intro M' On' Rn' hM hM2 hr hgd c1 c2
          obtain ⟨O', R', d1, d2, d3, d4⟩ := b10 M' On' Rn' (fun c _ => hM2 c) hM2 hr hgd (fun c hc => (c1 c hc).imp_right fun h => ⟨fun hx => h.1 (List.mem_cons_of_mem _ (a3.subset hx)), fun hx => h.2 (a4 c hx)⟩) (fun c hc => (c2 c hc).imp_right fun h hx => h (List.mem_cons_of_mem _ (a3.subset hx)))
          obtain ⟨O'', R'', f1, f2, f3, f4⟩ := key M' q.1.2 q.1.1 O' R' b9 (fun c hc hn => hM2 c fun hx => hn (b4.subset hx)) d1 d2 (fun c hc => by
              rcases d3 c hc with h | h
              · exact .inl h.1
              · rcases c1 c h with h | h
                · exact .inl (b4.subset h)
                · exact .inr ⟨fun hx => h.1 (List.mem_cons_of_mem _ hx), h.2⟩) (fun c hc => by
              rcases d4 c hc with h | h | h
              · exact .inr (fun hx => gX.2 c (a4 c h) hx)
              · exact .inl h
              · rcases c2 c h with h | h
                · exact .inl (b4.subset h)
                · exact .inr fun hx => h (List.mem_cons_of_mem _ hx))
          have na : ∀ c ∈ O'', c ≠ a0 := by
            intro c hc ec
            subst ec
            rcases f3 c hc with h | h
            · exact ga.1 h.1
            · rcases d3 c h with h | h
              · exact ga.1 (a3.subset h.1)
              · rcases c1 c h with h | h
                · exact ga.1 (a3.subset (b4.subset h))
                · exact h.1 List.mem_cons_self
          have nr : ∀ c ∈ R'', c ≠ a0 := by
            intro c hc ec
            subst ec
            rcases f4 c hc with h | h | h
            · exact gY h
            · exact ga.1 h
            · rcases d4 c h with h | h | h
              · exact gY (a4 c h)
              · exact ga.1 (a3.subset h)
              · rcases c2 c h with h | h
                · exact ga.1 (a3.subset (b4.subset h))
                · exact h List.mem_cons_self
          refine ⟨a0 :: O'', R'', rd_nd.mpr (.inl ⟨a0, o, O'', R'', rfl, ?_, hk, ?_, .inr ⟨by show 0 < 1 + q.1.2; omega, rfl, rfl⟩⟩), ⟨List.nodup_cons.mpr ⟨fun hx => na a0 hx rfl, f2.1⟩, fun c hc hx => ?_⟩, fun c hc => ?_, fun c hc => ?_⟩
          · rw [hM2 a0 fun hx => ga.1 (a3.subset (b4.subset hx))]
            exact ha
          · rw [show (1 + q.1.2) - 1 = q.1.2 by omega]
            exact f1
          · rcases List.mem_cons.mp hx with rfl | hx
            · exact nr _ hc rfl
            · exact f2.2 c hc hx
          · rcases List.mem_cons.mp hc with rfl | hc
            · exact .inl ⟨List.mem_cons_self, fun hx => ga.1 (a3.subset (b4.subset hx))⟩
            · rcases f3 c hc with h | h
              · exact .inl ⟨List.mem_cons_of_mem _ h.1, fun hx => h.2 (b4.subset hx)⟩
              · rcases d3 c h with h | h
                · exact .inl ⟨List.mem_cons_of_mem _ (a3.subset h.1), h.2⟩
                · exact .inr h
          · rcases f4 c hc with h | h | h
            · exact .inl h
            · exact .inr (.inl (List.mem_cons_of_mem _ h))
            · rcases d4 c h with h | h | h
              · exact .inl (a4 c h)
              · exact .inr (.inl (List.mem_cons_of_mem _ (a3.subset h)))
              · exact .inr (.inr h)
      have hl := rdl_len _ h2
      cases k with
      | lst =>
        cases o with
        | lst ws =>
          cases y with
          | int i =>
            simp only [updV] at e
            cases e1 : Mi.placeOf vs.length i with
            | none => rw [e1] at e; cases e
            | some n =>
              rw [e1] at e
              simp only at e
              cases e2 : vs[n]? with
              | none => rw [e2] at e; cases e
              | some v =>
                rw [e2] at e
                simp only at e
                cases e3 : updV f put ys (v, d - 1) with
                | none => rw [e3] at e; cases e
                | some q =>
                  rw [e3] at e
                  refine key0 n v q e2 e3 (fun u hu => ?_) ?_ ?_
                  · simp only [idxV, ha]
                    rw [show atW ws i = ws[n]? from atW_mk (by rw [show ws.length = vs.length from hl]; exact e1), show ws[n]? = some u from hu]
                  · simp only [getV, e1, e2]
                  · cases e; rfl
          | _ => cases e
        | _ => cases hk
      | dic ks =>
        cases o with
        | dic kvs =>
          cases hk
          simp only [updV] at e
          split at e
          · rename_i hko
            cases e1 : kidx (kvs.map (·.1)) y with
            | none => rw [e1] at e; cases e
            | some n =>
              rw [e1] at e
              simp only at e
              cases e2 : vs[n]? with
              | none => rw [e2] at e; cases e
              | some v =>
                rw [e2] at e
                simp only at e
                cases e3 : updV f put ys (v, d - 1) with
                | none => rw [e3] at e; cases e
                | some q =>
                  rw [e3] at e
                  refine key0 n v q e2 e3 (fun u hu => ?_) ?_ ?_
                  · simp only [idxV, ha, ← keysOk_eq, hko, if_true]
                    rw [dget_kidx, e1]
                    simp only [Option.bind_some]
                    rw [show (kvs.map (·.2))[n]? = some u from hu]
                  · simp only [getV, hko, if_true, e1, e2]
                  · cases e; rfl
          · cases e
        | _ => cases hk
      | _ => cases e
end
end Vl

namespace Vl
open PySem Mi
section
variable {M : Hm}
theorem node_set {a : Nat} {o o' : MO} {k' : Kd} {vs' : List V} {e : Nat} {X' Y' : List Nat} (ha : M[a]? = some o) (hk : kdO o' = some k') (h : RdL M (e - 1) (kidsO o') vs' X' Y') (he : 0 < e) (hX : a ∉ X') (hY : a ∉ Y') : Rd (M.set a o') e (.ref a) (.nd k' vs') (a :: X') Y' := by
  refine rd_nd.mpr (.inl ⟨a, o', X', Y', rfl, ?_, hk, rdl_agree vs' h ?_, .inr ⟨he, rfl, rfl⟩⟩)
  · rw [List.getElem?_set_self (lt_of_get ha)]
  · intro c hc
    have : a ≠ c := fun e => by
      subst e
      exact hc.elim hX hY
    rw [List.getElem?_set_ne this]
theorem ownBy_pos {put : VD} {d : Nat} (h : 0 < d) : 0 < ownBy put d := by
  unfold ownBy
  split <;> omega
theorem low_put {v : VD} {u : W} {Ov Rv : List Nat} {dn : Nat} (h : Rd M v.2 u v.1 Ov Rv) (g : Gd Ov Rv) : ∃ U W, Rd M (ownBy v dn - 1) u v.1 U W ∧ Gd U W ∧ (∀ c ∈ U, c ∈ Ov) ∧ (∀ c ∈ W, c ∈ Ov ∨ c ∈ Rv) := by
  obtain ⟨v, d⟩ := v
  have low : ∀ e, e ≤ d → ∃ U W, Rd M e u v U W ∧ Gd U W ∧ (∀ c ∈ U, c ∈ Ov) ∧ (∀ c ∈ W, c ∈ Ov ∨ c ∈ Rv) := by
    intro e he
    obtain ⟨O', R', a, b, c, q⟩ := rd_low _ h he
    exact ⟨O', R', a, ⟨g.1.sublist b, q g⟩, fun x hx => b.subset hx, fun x hx => (c x hx).symm⟩
  cases v with
  | p x =>
    obtain ⟨rfl, rfl, rfl⟩ := rd_p.mp h
    exact ⟨[], [], rd_p.mpr ⟨rfl, rfl, rfl⟩, ⟨List.nodup_nil, by simp⟩, by simp, by simp⟩
  | tup vs => exact low _ (by show min dn (1 + d) - 1 ≤ d; omega)
  | nd k vs => exact low _ (by show min dn (1 + d) - 1 ≤ d; omega)
theorem own_nd {dn a : Nat} {k : Kd} {vs : List V} {On Rn : List Nat} (hd : 0 < dn) (h : Rd M dn (.ref a) (.nd k vs) On Rn) (g : Gd On Rn) : ∃ o X, M[a]? = some o ∧ kdO o = some k ∧ On = a :: X ∧ RdL M (dn - 1) (kidsO o) vs X Rn ∧ Gd X Rn ∧ a ∉ X ∧ a ∉ Rn := by
  rcases rd_nd.mp h with ⟨a', o, X, Y, e, ha, hk, h2, hX⟩ | ⟨h0, _⟩
  · cases e
    rcases hX with ⟨h0, _⟩ | ⟨_, rfl, rfl⟩
    · omega
    · have ga : a ∉ X ∧ X.Nodup := by simpa using g.1
      exact ⟨o, X, ha, hk, rfl, h2, ⟨ga.2, fun c hc hx => g.2 c hc (List.mem_cons_of_mem _ hx)⟩, ga.1, fun hx => g.2 a hx List.mem_cons_self⟩
  · omega
structure Mu (M : Hm) (a : Nat) (o' : MO) (e : Nat) (vn' : V) (On Rn Ov Rv On' Rn' : List Nat) : Prop where
  rd : Rd (M.set a o') e (.ref a) vn' On' Rn'
  gd : Gd On' Rn'
  bel : belows M.length (kidsO o') = true
  o : ∀ c ∈ On', c ∈ On ∨ c ∈ Ov
  r : ∀ c ∈ Rn', c ∈ On ∨ c ∈ Rn ∨ c ∈ Ov ∨ c ∈ Rv
theorem mu_mk {a : Nat} {o o' : MO} {k' : Kd} {vs' : List V} {e : Nat} {X On Rn Ov Rv X' Y' : List Nat} (ha : M[a]? = some o) (hk : kdO o' = some k') (h : RdL M (e - 1) (kidsO o') vs' X' Y') (he : 0 < e) (g : Gd X' Y') (hOn : On = a :: X) (hX : ∀ c ∈ X', c ∈ X ∨ c ∈ Ov) (hY : ∀ c ∈ Y', c ∈ X ∨ c ∈ Rn ∨ c ∈ Ov ∨ c ∈ Rv) (na : a ∉ X ∧ a ∉ Rn ∧ a ∉ Ov ∧ a ∉ Rv) : Mu M a o' e (.nd k' vs') On Rn Ov Rv (a :: X') Y' := by
  subst hOn
  have nX : a ∉ X' := fun h => (hX a h).elim na.1 na.2.2.1
  have nY : a ∉ Y' := fun h => by
    rcases hY a h with h | h | h | h
    · exact na.1 h
    · exact na.2.1 h
    · exact na.2.2.1 h
    · exact na.2.2.2 h
  refine ⟨node_set ha hk h he nX nY, ⟨List.nodup_cons.mpr ⟨nX, g.1⟩, fun c hc hx => ?_⟩, rdl_below _ h, fun c hc => ?_, fun c hc => ?_⟩
  · rcases List.mem_cons.mp hx with rfl | hx
    · exact nY hc
    · exact g.2 c hc hx
  · rcases List.mem_cons.mp hc with rfl | hc
    · exact .inl List.mem_cons_self
    · exact (hX c hc).imp_left fun h => List.mem_cons_of_mem _ h
  · exact (hY c hc).imp_left fun h => List.mem_cons_of_mem _ h
theorem rdl_lowg {vs : List V} {d d' : Nat} {ws : List W} {O R : List Nat} (h : RdL M d ws vs O R) (g : Gd O R) (hd : d' ≤ d) : ∃ O' R', RdL M d' ws vs O' R' ∧ Gd O' R' ∧ (∀ c ∈ O', c ∈ O) ∧ (∀ c ∈ R', c ∈ O ∨ c ∈ R) := by
  obtain ⟨O', R', a, b, c, q⟩ := rdl_low vs h hd
  exact ⟨O', R', a, ⟨g.1.sublist b, q g⟩, fun x hx => b.subset hx, fun x hx => (c x hx).symm⟩
theorem rdl_split {d : Nat} : ∀ (vs us : List V) {ws : List W} {O R : List Nat}, RdL M d ws (vs ++ us) O R → ∃ ws1 ws2 O1 O2 R1 R2, ws = ws1 ++ ws2 ∧ RdL M d ws1 vs O1 R1 ∧ RdL M d ws2 us O2 R2 ∧ O = O1 ++ O2 ∧ R = R1 ++ R2
  | [], us, ws, O, R, h => ⟨[], ws, [], O, [], R, rfl, rdl_nil.mpr ⟨rfl, rfl, rfl⟩, h, rfl, rfl⟩
  | v :: vs, us, ws, O, R, h => by
    obtain ⟨w, ws', O1, O2, R1, R2, rfl, h1, h2, rfl, rfl⟩ := rdl_cons.mp h
    obtain ⟨ws1, ws2, O3, O4, R3, R4, rfl, h3, h4, rfl, rfl⟩ := rdl_split vs us h2
    exact ⟨w :: ws1, ws2, O1 ++ O3, O4, R1 ++ R3, R4, rfl, rdl_cons.mpr ⟨w, ws1, O1, O3, R1, R3, rfl, h1, h3, rfl, rfl⟩, h4, by simp, by simp⟩
theorem rdl_setp {d : Nat} (x : P) : ∀ (vs : List V) (n : Nat) {ws : List W} {O R : List Nat}, RdL M d ws vs O R → ∃ O' R', RdL M d (ws.set n (.p x)) (vs.set n (.p x)) O' R' ∧ O'.Sublist O ∧ R'.Sublist R
  | [], n, ws, O, R, h => by
    obtain ⟨rfl, rfl, rfl⟩ := rdl_nil.mp h
    exact ⟨[], [], rdl_nil.mpr ⟨rfl, rfl, rfl⟩, List.Sublist.refl _, List.Sublist.refl _⟩
  | v :: vs, 0, ws, O, R, h => by
    obtain ⟨w, ws', O1, O2, R1, R2, rfl, h1, h2, rfl, rfl⟩ := rdl_cons.mp h
    exact ⟨O2, R2, rdl_cons.mpr ⟨.p x, ws', [], O2, [], R2, rfl, rd_p.mpr ⟨rfl, rfl, rfl⟩, h2, rfl, rfl⟩, List.sublist_append_right _ _, List.sublist_append_right _ _⟩
  | v :: vs, n + 1, ws, O, R, h => by
    obtain ⟨w, ws', O1, O2, R1, R2, rfl, h1, h2, rfl, rfl⟩ := rdl_cons.mp h
    obtain ⟨O', R', a, b, c⟩ := rdl_setp x vs n h2
    exact ⟨O1 ++ O', R1 ++ R', rdl_cons.mpr ⟨w, _, O1, O', R1, R', rfl, h1, a, rfl, rfl⟩, b.append_left _, c.append_left _⟩
theorem rdl_ksetp {d : Nat} (x : P) (y : P) : ∀ (kvs : List (P × W)) (vs : List V) {O R : List Nat}, RdL M d (kvs.map (·.2)) vs O R → ∃ O' R', RdL M d ((kvs.map fun q => if q.1 = y then (y, W.p x) else q).map (·.2)) (kset y (.p x) (kvs.map (·.1)) vs) O' R' ∧ O'.Sublist O ∧ R'.Sublist R
  | [], vs, O, R, h => by
    cases vs with
    | cons v vs => obtain ⟨w, ws', _, _, _, _, e, _⟩ := rdl_cons.mp h; cases e
    | nil => exact ⟨O, R, h, List.Sublist.refl _, List.Sublist.refl _⟩
  | q :: kvs, vs, O, R, h => by
    cases vs with
    | nil => obtain ⟨e, _⟩ := rdl_nil.mp h; cases e
    | cons v vs =>
      obtain ⟨w, ws', O1, O2, R1, R2, e, h1, h2, rfl, rfl⟩ := rdl_cons.mp h
      cases e
      obtain ⟨O', R', a, b, c⟩ := rdl_ksetp x y kvs vs h2
      rw [List.map_cons, List.map_cons, List.map_cons, kset]
      by_cases hq : q.1 = y
      · rw [if_pos hq, if_pos hq]
        exact ⟨O', R', rdl_cons.mpr ⟨.p x, _, [], O', [], R', rfl, rd_p.mpr ⟨rfl, rfl, rfl⟩, a, rfl, rfl⟩, b.trans (List.sublist_append_right _ _), c.trans (List.sublist_append_right _ _)⟩
      · rw [if_neg hq, if_neg hq]
        exact ⟨O1 ++ O', R1 ++ R', rdl_cons.mpr ⟨q.2, _, O1, O', R1, R', rfl, h1, a, rfl, rfl⟩, b.append_left _, c.append_left _⟩
theorem ownBy_one {v : VD} {d : Nat} : ownBy v d - 1 ≤ d - 1 := by have := ownBy_le v d; omega
theorem mut_of {m : Mt} {vds : List VD} {us : List W} {vn : V} {r : V × VD} {dn a : Nat} {On Rn Ov Rv : List Nat} (hd : 0 < dn) (h : Rd M dn (.ref a) vn On Rn) (g : Gd On Rn) (hu : RdT M us vds Ov Rv) (gu : Gd Ov Rv) (d1 : ∀ c ∈ Ov, c ∉ On ∧ c ∉ Rn) (d2 : ∀ c ∈ Rv, c ∉ On) (e : mutV m vds vn = some r) :
    ∃ o' w On' Rn', (∀ T, rcvV vn = some T → mthV m T (.ref a) us M = .ok w (M.set a o')) ∧ Mu M a o' (ownBy (mutD m vds) dn) r.1 On Rn Ov Rv On' Rn' ∧ (m = .pop → ∃ Rr, Rd (M.set a o') 0 w r.2.1 [] Rr ∧ r.2.2 = 0 ∧ (∀ c ∈ Rr, c ∉ On' ∧ (c ∈ On ∨ c ∈ Rn)) ∧ M[a]? ≠ some o') := by
  unfold mutV at e
  split at e
  · -- append
    rename_i w dw xs
    split at e
    · rename_i hb
      cases e
      obtain ⟨o, X, ha, hk, rfl, h2, gX, nX, nR⟩ := own_nd hd h g
      obtain ⟨u, us', O1, O2, R1, R2, rfl, h3, ⟨rfl, rfl, rfl⟩, rfl, rfl⟩ := hu
      simp only [List.append_nil] at *
      cases o with
      | lst ws =>
        obtain ⟨X1, Y1, q1, q2, q3, q4⟩ := rdl_lowg h2 gX (ownBy_one (v := mutD .append [(w, dw)]))
        obtain ⟨U, V', p1, p2, p3, p4⟩ := low_put (v := (w, dw)) (dn := dn) h3 gu
        have hl := rdl_len _ h2
        have na : a ∉ O1 ∧ a ∉ R1 := ⟨fun h => (d1 a h).1 List.mem_cons_self, fun h => d2 a h List.mem_cons_self⟩
        refine ⟨.lst (ws ++ [u]), .p .non, a :: (X1 ++ U), Y1 ++ V', fun T hT => ?_, mu_mk (X := X) ha rfl (rdl_app _ _ q1 (rdl_cons.mpr ⟨u, [], U, [], V', [], rfl, p1, rdl_nil.mpr ⟨rfl, rfl, rfl⟩, by simp, by simp⟩)) (ownBy_pos hd) (gd_join q2 p2 ?_ ?_ ?_) rfl ?_ ?_ ⟨nX, nR, na.1, na.2⟩, fun e => by cases e⟩
        · cases hT
          simp only [mthV, appendF, ha]
          rw [if_pos (by rw [show ws.length = xs.length from hl]; exact hb)]
        · intro c hc hx
          exact (d1 c (p3 c hx)).1 (List.mem_cons_of_mem _ (q3 c hc))
        · intro c hc hx
          rcases q4 c hc with h | h
          · exact (d1 c (p3 c hx)).1 (List.mem_cons_of_mem _ h)
          · exact (d1 c (p3 c hx)).2 h
        · intro c hc hx
          rcases p4 c hc with h | h
          · exact (d1 c h).1 (List.mem_cons_of_mem _ (q3 c hx))
          · exact d2 c h (List.mem_cons_of_mem _ (q3 c hx))
        · intro c hc
          rcases List.mem_append.mp hc with h | h
          · exact .inl (q3 c h)
          · exact .inr (p3 c h)
        · intro c hc
          rcases List.mem_append.mp hc with h | h
          · rcases q4 c h with h | h
            · exact .inl h
            · exact .inr (.inl h)
          · rcases p4 c h with h | h
            · exact .inr (.inr (.inl h))
            · exact .inr (.inr (.inr h))
      | _ => cases hk
    · cases e
  · -- clear
    cases e
    obtain ⟨o, X, ha, hk, rfl, h2, gX, nX, nR⟩ := own_nd hd h g
    obtain ⟨rfl, rfl, rfl⟩ := hu
    cases o with
    | lst ws =>
      refine ⟨.lst [], .p .non, [a], [], fun T hT => ?_, mu_mk (X := X) ha rfl (rdl_nil.mpr ⟨rfl, rfl, rfl⟩) (ownBy_pos hd) ⟨List.nodup_nil, by simp⟩ rfl (by simp) (by simp) ⟨nX, nR, by simp, by simp⟩, fun e => by cases e⟩
      cases hT
      simp only [mthV, clearF, ha]
    | _ => cases hk
  · -- extend
    rename_i ys d xs
    split at e
    · rename_i hb
      cases e
      obtain ⟨o, X, ha, hk, rfl, h2, gX, nX, nR⟩ := own_nd hd h g
      obtain ⟨u, us', O1, O2, R1, R2, rfl, h3, ⟨rfl, rfl, rfl⟩, rfl, rfl⟩ := hu
      simp only [List.append_nil] at *
      cases o with
      | lst ws =>
        rcases rd_nd.mp h3 with ⟨a2, o2, X2, Y2, rfl, ha2, hk2, h4, hX2⟩ | ⟨_, _, _, e, _⟩
        · cases o2 with
          | lst ts =>
            have sx : X2.Sublist O1 ∧ ∀ b ∈ Y2, b ∈ R1 := by
              rcases hX2 with ⟨_, rfl, rfl⟩ | ⟨_, rfl, rfl⟩
              · exact ⟨List.Sublist.refl _, fun b hb => List.mem_cons_of_mem _ hb⟩
              · exact ⟨List.sublist_cons_self _ _, fun b hb => hb⟩
            have g2 : Gd X2 Y2 := ⟨gu.1.sublist sx.1, fun x hx hy => gu.2 x (sx.2 x hx) (sx.1.subset hy)⟩
            obtain ⟨X1, Y1, q1, q2, q3, q4⟩ := rdl_lowg h2 gX (ownBy_one (v := mutD .extend [((.nd .lst ys : V), d)]))
            obtain ⟨U, V', p1, p2, p3, p4⟩ := rdl_lowg h4 g2 (show ownBy (mutD .extend [((.nd .lst ys : V), d)]) dn - 1 ≤ d - 1 by show min dn (1 + (d - 1)) - 1 ≤ d - 1; omega)
            have hl := rdl_len _ h2
            have hl2 := rdl_len _ h4
            have na : a ∉ O1 ∧ a ∉ R1 := ⟨fun h => (d1 a h).1 List.mem_cons_self, fun h => d2 a h List.mem_cons_self⟩
            have p3' : ∀ c ∈ U, c ∈ O1 := fun c hc => sx.1.subset (p3 c hc)
            have p4' : ∀ c ∈ V', c ∈ O1 ∨ c ∈ R1 := fun c hc => (p4 c hc).imp (fun h => sx.1.subset h) (fun h => sx.2 c h)
            refine ⟨.lst (ws ++ ts), .p .non, a :: (X1 ++ U), Y1 ++ V', fun T hT => ?_, mu_mk (X := X) ha rfl (rdl_app _ _ q1 p1) (ownBy_pos hd) (gd_join q2 p2 ?_ ?_ ?_) rfl ?_ ?_ ⟨nX, nR, na.1, na.2⟩, fun e => by cases e⟩
            · cases hT
              simp only [mthV, extendF, ha, ha2]
              rw [if_pos (by rw [show ws.length = xs.length from hl, show ts.length = ys.length from hl2]; exact hb)]
            · intro c hc hx
              exact (d1 c (p3' c hx)).1 (List.mem_cons_of_mem _ (q3 c hc))
            · intro c hc hx
              rcases q4 c hc with h | h
              · exact (d1 c (p3' c hx)).1 (List.mem_cons_of_mem _ h)
              · exact (d1 c (p3' c hx)).2 h
            · intro c hc hx
              rcases p4' c hc with h | h
              · exact (d1 c h).1 (List.mem_cons_of_mem _ (q3 c hx))
              · exact d2 c h (List.mem_cons_of_mem _ (q3 c hx))
            · intro c hc
              rcases List.mem_append.mp hc with h | h
              · exact .inl (q3 c h)
              · exact .inr (p3' c h)
            · intro c hc
              rcases List.mem_append.mp hc with h | h
              · rcases q4 c h with h | h
                · exact .inl h
                · exact .inr (.inl h)
              · rcases p4' c h with h | h
                · exact .inr (.inr (.inl h))
                · exact .inr (.inr (.inr h))
          | _ => cases hk2
        · cases e
      | _ => cases hk
    · cases e
  · -- pop
    rename_i xs
    split at e
    · rename_i y hy
      cases e
      obtain ⟨o, X, ha, hk, rfl, h2, gX, nX, nR⟩ := own_nd hd h g
      obtain ⟨rfl, rfl, rfl⟩ := hu
      cases o with
      | lst ws =>
        have hx : xs = xs.dropLast ++ [y] := by
          have hn : xs ≠ [] := by intro e; subst e; simp at hy
          rw [← List.getLast?_eq_getElem?, List.getLast?_eq_some_getLast hn] at hy
          cases hy
          exact (List.dropLast_concat_getLast hn).symm
        have hl := rdl_len _ h2
        rw [hx] at h2
        obtain ⟨ws1, ws2, O1, O2, R1, R2, hw, h3, h4, rfl, rfl⟩ := rdl_split _ _ h2
        obtain ⟨w, ws', O3, O4, R3, R4, rfl, h5, h6, rfl, rfl⟩ := rdl_cons.mp h4
        obtain ⟨rfl, rfl, rfl⟩ := rdl_nil.mp h6
        simp only [List.append_nil] at *
        obtain ⟨g1, g2, x1, x2, x3⟩ := gd_app gX
        simp only [kidsO] at hw hl
        subst hw
        obtain ⟨O', R', b1, b2, b3, b4⟩ := rd_low _ h5 (Nat.zero_le _)
        have e0 := rd_zero _ b1
        subst e0
        have nRr : a ∉ R' := fun hx => (b3 a hx).elim (fun h => nR (List.mem_append_right _ h)) (fun h => nX (List.mem_append_right _ h))
        refine ⟨.lst ws1, w, a :: O1, R1, fun T hT => ?_, mu_mk (X := O1 ++ O3) ha rfl h3 hd g1 rfl (fun c hc => .inl (List.mem_append_left _ hc)) (fun c hc => .inr (.inl (List.mem_append_left _ hc))) ⟨nX, nR, by simp, by simp⟩, fun _ => ⟨R', rd_agree _ b1 fun c hc => ?_, trivial, fun c hc => ⟨?_, ?_⟩, by rw [ha]; intro e; injection e with e; injection e with e; have := congrArg List.length e; simp at this⟩⟩
        · cases hT
          simp only [mthV, popF, ha]
          have : (ws1 ++ [w])[(ws1 ++ [w]).length - 1]? = some w := by simp
          rw [this]
          simp
        · have : a ≠ c := fun e => by
            subst e
            rcases hc with h | h
            · simp at h
            · exact nRr h
          rw [List.getElem?_set_ne this]
        · intro hx
          rcases List.mem_cons.mp hx with rfl | hx
          · exact nRr hc
          · rcases b3 c hc with h | h
            · exact x3 c h hx
            · exact x1 c hx h
        · rcases b3 c hc with h | h
          · exact .inr (List.mem_append_right _ h)
          · exact .inl (List.mem_cons_of_mem _ (List.mem_append_right _ h))
      | _ => cases hk
    · cases e
  · -- setdefault
    rename_i y dy w d ks vs
    split at e
    · rename_i hb
      obtain ⟨o, X, ha, hk, rfl, h2, gX, nX, nR⟩ := own_nd hd h g
      obtain ⟨u0, us', O1, O2, R1, R2, rfl, h3, h4, rfl, rfl⟩ := hu
      obtain ⟨u, us', O3, O4, R3, R4, rfl, h5, ⟨rfl, rfl, rfl⟩, rfl, rfl⟩ := h4
      obtain ⟨rfl, rfl, rfl⟩ := rd_p.mp h3
      simp only [List.append_nil, List.nil_append] at *
      cases o with
      | dic kvs =>
        cases hk
        have hl := rdl_len _ h2
        obtain ⟨X1, Y1, q1, q2, q3, q4⟩ := rdl_lowg h2 gX (ownBy_one (v := ((w, d) : VD)))
        have na : a ∉ O3 ∧ a ∉ R3 := ⟨fun h => (d1 a h).1 List.mem_cons_self, fun h => d2 a h List.mem_cons_self⟩
        have hkk : kget (kvs.map (·.1)) vs y = none → kidx (kvs.map (·.1)) y = none := by
          intro hn
          unfold kget at hn
          cases h6 : kidx (kvs.map (·.1)) y with
          | none => rfl
          | some n =>
            rw [h6] at hn
            have h7 := kidx_lt h6
            simp only [Option.bind_some, List.getElem?_eq_none_iff] at hn
            simp only [kidsO, List.length_map] at hl h7
            omega
        cases h6 : kget (kvs.map (·.1)) vs y with
        | some v =>
          rw [h6] at e
          cases e
          obtain ⟨n, h7, h8⟩ : ∃ n, kidx (kvs.map (·.1)) y = some n ∧ vs[n]? = some v := by
            unfold kget at h6
            cases h7 : kidx (kvs.map (·.1)) y with
            | none => rw [h7] at h6; cases h6
            | some n => rw [h7] at h6; exact ⟨n, rfl, h6⟩
          obtain ⟨x, _, _, hx, _⟩ := rdl_at vs n h2 h8
          refine ⟨.dic kvs, x, a :: X1, Y1, fun T hT => ?_, mu_mk (X := X) ha rfl q1 (ownBy_pos hd) q2 rfl (fun c hc => .inl (q3 c hc)) (fun c hc => (q4 c hc).elim .inl (fun h => .inr (.inl h))) ⟨nX, nR, na.1, na.2⟩, fun e => by cases e⟩
          cases hT
          simp only [mthV, setdefF, ha, ← keysOk_eq]
          rw [if_pos (by simpa using hb), dget_kidx, h7]
          simp only [Option.bind_some]
          simp only [kidsO] at hx
          rw [hx]
          simp only
          congr 1
          refine (List.ext_getElem? fun i => ?_).symm
          by_cases hi : a = i
          · subst hi
            rw [List.getElem?_set_self (lt_of_get ha), ha]
          · rw [List.getElem?_set_ne hi]
        | none =>
          rw [h6] at e
          cases e
          have h7 := hkk h6
          obtain ⟨U, V', p1, p2, p3, p4⟩ := low_put (v := (w, d)) (dn := dn) h5 gu
          have hdp : dput kvs y u = kvs ++ [(y, u)] := by
            unfold dput
            rw [any_kidx, h7]
            rfl
          refine ⟨.dic (dput kvs y u), u, a :: (X1 ++ U), Y1 ++ V', fun T hT => ?_, mu_mk (X := X) (k' := .dic (kputK (kvs.map (·.1)) y)) ha (by show some (Kd.dic _) = _; rw [dput_keys]) ?_ (ownBy_pos hd) (gd_join q2 p2 ?_ ?_ ?_) rfl ?_ ?_ ⟨nX, nR, na.1, na.2⟩, fun e => by cases e⟩
          · cases hT
            simp only [mthV, setdefF, ha, ← keysOk_eq]
            rw [if_pos (by simpa using hb), dget_kidx, h7]
            rfl
          · simp only [kidsO, hdp, kputV, h7, List.map_append]
            exact rdl_app _ _ q1 (rdl_cons.mpr ⟨u, [], U, [], V', [], rfl, p1, rdl_nil.mpr ⟨rfl, rfl, rfl⟩, by simp, by simp⟩)
          · intro c hc hx
            exact (d1 c (p3 c hx)).1 (List.mem_cons_of_mem _ (q3 c hc))
          · intro c hc hx
            rcases q4 c hc with h | h
            · exact (d1 c (p3 c hx)).1 (List.mem_cons_of_mem _ h)
            · exact (d1 c (p3 c hx)).2 h
          · intro c hc hx
            rcases p4 c hc with h | h
            · exact (d1 c h).1 (List.mem_cons_of_mem _ (q3 c hx))
            · exact d2 c h (List.mem_cons_of_mem _ (q3 c hx))
          · intro c hc
            rcases List.mem_append.mp hc with h | h
            · exact .inl (q3 c h)
            · exact .inr (p3 c h)
          · intro c hc
            rcases List.mem_append.mp hc with h | h
            · rcases q4 c h with h | h
              · exact .inl h
              · exact .inr (.inl h)
            · rcases p4 c h with h | h
              · exact .inr (.inr (.inl h))
              · exact .inr (.inr (.inr h))
      | _ => cases hk
    · cases e
  · cases e
end
end Vl

namespace Vl
open PySem Mi
section
variable {M : Hm}
theorem set_of {y : P} {v : VD} {u : W} {vn : V} {r : V × Unit} {dn a : Nat} {On Rn Ov Rv : List Nat} (hd : 0 < dn) (h : Rd M dn (.ref a) vn On Rn) (g : Gd On Rn) (hu : Rd M v.2 u v.1 Ov Rv) (d1 : ∀ c ∈ Ov, c ∉ On ∧ c ∉ Rn) (d2 : ∀ c ∈ Rv, c ∉ On) (e : setVV y v.1 vn = some r) :
    ∃ o' On' Rn', setV (.ref a) (.p y) u M = some (M.set a o') ∧ Mu M a o' (ownBy (v.1, 0) dn) r.1 On Rn Ov Rv On' Rn' := by
  -- with a value that is no object
  have fromAl : ∀ {k : Kd} {vs : List V} {o o' : MO} {k' : Kd} {vs' : List V} {X : List Nat}, M[a]? = some o → kdO o' = some k' → On = a :: X → a ∉ X → a ∉ Rn → (ownBy (v.1, 0) dn - 1 = 0) → F2 (Al (fun c => c ≠ a ∧ (c ∈ X ∨ c ∈ Rn ∨ c ∈ Ov ∨ c ∈ Rv)) M) (kidsO o') vs' → ∃ On' Rn', Mu M a o' (ownBy (v.1, 0) dn) (.nd k' vs') On Rn Ov Rv On' Rn' := by
    intro k vs o o' k' vs' X ha hk hOn nX nR he hF
    obtain ⟨R', q, hR⟩ := al_l.mpr hF
    have na : a ∉ Ov ∧ a ∉ Rv := ⟨fun h => (d1 a h).1 (by rw [hOn]; exact List.mem_cons_self), fun h => d2 a h (by rw [hOn]; exact List.mem_cons_self)⟩
    exact ⟨a :: [], R', mu_mk (X := X) ha hk (by rw [he]; exact q) (ownBy_pos hd) ⟨List.nodup_nil, by simp⟩ hOn (by simp) (fun c hc => (hR c hc).2) ⟨nX, nR, na.1, na.2⟩⟩
  have alv : ∀ {X : List Nat}, On = a :: X → Al (fun c => c ≠ a ∧ (c ∈ X ∨ c ∈ Rn ∨ c ∈ Ov ∨ c ∈ Rv)) M u v.1 := by
    intro X hOn
    obtain ⟨O', R', q1, q2, q3, q4⟩ := rd_low _ hu (Nat.zero_le _)
    have e0 := rd_zero _ q1
    subst e0
    refine ⟨R', q1, fun c hc => ⟨fun e => ?_, ?_⟩⟩
    · subst e
      rcases q3 c hc with h | h
      · exact d2 c h (by rw [hOn]; exact List.mem_cons_self)
      · exact (d1 c h).1 (by rw [hOn]; exact List.mem_cons_self)
    · rcases q3 c hc with h | h
      · exact .inr (.inr (.inr h))
      · exact .inr (.inr (.inl h))
  have alk : ∀ {ws : List W} {vs : List V} {X : List Nat}, RdL M (dn - 1) ws vs X Rn → a ∉ X → a ∉ Rn → F2 (Al (fun c => c ≠ a ∧ (c ∈ X ∨ c ∈ Rn ∨ c ∈ Ov ∨ c ∈ Rv)) M) ws vs := by
    intro ws vs X h2 nX nR
    obtain ⟨O', R', q1, q2, q3, q4⟩ := rdl_low vs h2 (Nat.zero_le _)
    have e0 := rdl_zero vs q1
    subst e0
    refine al_l.mp ⟨R', q1, fun c hc => ⟨fun e => ?_, ?_⟩⟩
    · subst e
      exact (q3 c hc).elim nR nX
    · rcases q3 c hc with h | h
      · exact .inr (.inl h)
      · exact .inl h
  unfold setVV at e
  split at e
  · rename_i xs
    split at e
    · rename_i j
      cases e1 : Mi.placeOf xs.length j with
      | none => rw [e1] at e; cases e
      | some n =>
        rw [e1] at e
        cases e
        obtain ⟨o, X, ha, hk, rfl, h2, gX, nX, nR⟩ := own_nd hd h g
        have na : a ∉ Ov ∧ a ∉ Rv := ⟨fun h => (d1 a h).1 List.mem_cons_self, fun h => d2 a h List.mem_cons_self⟩
        cases o with
        | lst ws =>
          have hl := rdl_len _ h2
          have hs : setV (.ref a) (.p (.int j)) u M = some (M.set a (.lst (ws.set n u))) := by
            simp only [setV, ha]
            rw [show ws.length = xs.length from hl, e1]
          obtain ⟨v, d⟩ := v
          cases v with
          | p x =>
            obtain ⟨rfl, rfl, rfl⟩ := rd_p.mp hu
            obtain ⟨O', R', q1, q2, q3⟩ := rdl_setp x xs n h2
            exact ⟨_, _, _, hs, mu_mk (X := X) ha rfl q1 hd ⟨gX.1.sublist q2, fun c hc hx => gX.2 c (q3.subset hc) (q2.subset hx)⟩ rfl (fun c hc => .inl (q2.subset hc)) (fun c hc => .inr (.inl (q3.subset hc))) ⟨nX, nR, na.1, na.2⟩⟩
          | tup vs =>
            obtain ⟨On', Rn', q⟩ := fromAl (k := .lst) (vs := xs) (o' := .lst (ws.set n u)) ha rfl rfl nX nR (by show min dn (1 + 0) - 1 = 0; omega) ((alk h2 nX nR).set n (alv rfl))
            exact ⟨_, _, _, hs, q⟩
          | nd k vs =>
            obtain ⟨On', Rn', q⟩ := fromAl (k := .lst) (vs := xs) (o' := .lst (ws.set n u)) ha rfl rfl nX nR (by show min dn (1 + 0) - 1 = 0; omega) ((alk h2 nX nR).set n (alv rfl))
            exact ⟨_, _, _, hs, q⟩
        | _ => cases hk
    · cases e
  · rename_i ks vs
    split at e
    · rename_i hb
      cases e
      obtain ⟨o, X, ha, hk, rfl, h2, gX, nX, nR⟩ := own_nd hd h g
      have na : a ∉ Ov ∧ a ∉ Rv := ⟨fun h => (d1 a h).1 List.mem_cons_self, fun h => d2 a h List.mem_cons_self⟩
      cases o with
      | dic kvs =>
        cases hk
        have hs : setV (.ref a) (.p y) u M = some (M.set a (.dic (dput kvs y u))) := by
          simp only [setV, ha, ← keysOk_eq]
          rw [if_pos (by simpa using hb)]
        have hkd : kdO (.dic (dput kvs y u)) = some (.dic (kputK (kvs.map (·.1)) y)) := by show some (Kd.dic _) = _; rw [dput_keys]
        obtain ⟨v, d⟩ := v
        cases v with
        | p x =>
          obtain ⟨rfl, rfl, rfl⟩ := rd_p.mp hu
          obtain ⟨O', R', q1, q2, q3⟩ : ∃ O' R', RdL M (dn - 1) ((dput kvs y (.p x)).map (·.2)) (kputV (kvs.map (·.1)) vs y (.p x)) O' R' ∧ O'.Sublist X ∧ R'.Sublist Rn := by
            unfold dput kputV
            rw [any_kidx]
            cases h6 : kidx (kvs.map (·.1)) y with
            | none =>
              simp only [Option.isSome_none, Bool.false_eq_true, if_false, List.map_append, List.map_cons, List.map_nil]
              refine ⟨X ++ [], Rn ++ [], rdl_app _ _ h2 (rdl_cons.mpr ⟨_, [], [], [], [], [], rfl, rd_p.mpr ⟨rfl, rfl, rfl⟩, rdl_nil.mpr ⟨rfl, rfl, rfl⟩, rfl, rfl⟩), by simp, by simp⟩
            | some n =>
              simp only [Option.isSome_some, if_true]
              exact rdl_ksetp x y kvs vs h2
          exact ⟨_, _, _, hs, mu_mk (X := X) ha hkd q1 hd ⟨gX.1.sublist q2, fun c hc hx => gX.2 c (q3.subset hc) (q2.subset hx)⟩ rfl (fun c hc => .inl (q2.subset hc)) (fun c hc => .inr (.inl (q3.subset hc))) ⟨nX, nR, na.1, na.2⟩⟩
        | tup us =>
          obtain ⟨On', Rn', q⟩ := fromAl (k := .lst) (vs := vs) (o' := .dic (dput kvs y u)) ha hkd rfl nX nR (by show min dn (1 + 0) - 1 = 0; omega) (dput_vals (alv rfl) (alk h2 nX nR))
          exact ⟨_, _, _, hs, q⟩
        | nd k us =>
          obtain ⟨On', Rn', q⟩ := fromAl (k := .lst) (vs := vs) (o' := .dic (dput kvs y u)) ha hkd rfl nX nR (by show min dn (1 + 0) - 1 = 0; omega) (dput_vals (alv rfl) (alk h2 nX nR))
          exact ⟨_, _, _, hs, q⟩
      | _ => cases hk
    · cases e
  · cases e
theorem mutV_nd {m : Mt} {vds : List VD} : ∀ v r, mutV m vds v = some r → ∃ k vs, v = .nd k vs := by
  intro v r h
  unfold mutV at h
  split at h <;> first | exact ⟨_, _, rfl⟩ | cases h
theorem setVV_nd {y : P} {w : V} : ∀ v r, setVV y w v = some r → ∃ k vs, v = .nd k vs := by
  intro v r h
  unfold setVV at h
  split at h <;> first | exact ⟨_, _, rfl⟩ | cases h
end
theorem idx_ref (k : Nat) (y : P) (M : Hm) : idxV (.ref k) (.p y) M = match M[k]? with
    | some (.lst xs) => (match y with
      | .int i => match atW xs i with
        | some w => .ok w M
        | none => .bad
      | _ => .bad)
    | some (.dic kvs) => if dictOk kvs y then (match dget kvs y with
        | some w => .ok w M
        | none => .bad)
      else .bad
    | _ => .bad := by
  cases y <;> rfl
theorem idxV_both {w : W} {y : P} {M M' : Hm} {u : W} (h : idxV w (.p y) M = .ok u M') : M' = M ∧ ∀ L, idxV w (.p y) (M ++ L) = .ok u (M ++ L) := by
  cases w with
  | ref k =>
    rw [idx_ref] at h
    cases ha : M[k]? with
    | none => rw [ha] at h; cases h
    | some o =>
      rw [ha] at h
      have hl : ∀ L, (M ++ L)[k]? = some o := fun L => by rw [get_app (lt_of_get ha), ha]
      cases o with
      | lst xs =>
        cases y with
        | int i =>
          simp only at h
          cases hw : atW xs i with
          | none => rw [hw] at h; cases h
          | some x =>
            rw [hw] at h
            cases h
            refine ⟨rfl, fun L => ?_⟩
            rw [idx_ref, hl L]
            simp only [hw]
        | _ => cases h
      | dic kvs =>
        simp only at h
        by_cases hk : dictOk kvs y = true
        · rw [if_pos hk] at h
          cases hw : dget kvs y with
          | none => rw [hw] at h; cases h
          | some x =>
            rw [hw] at h
            cases h
            refine ⟨rfl, fun L => ?_⟩
            rw [idx_ref, hl L]
            simp only [hk, if_true, hw]
        · rw [if_neg hk] at h
          cases h
      | _ => cases h
  | p x =>
    cases y with
    | int i =>
      cases x with
      | str x =>
        simp only [idxV] at h ⊢
        by_cases hb : x.length ≤ big
        · rw [if_pos hb] at h
          simp only [if_pos hb]
          cases hw : atW x.cps.toList i with
          | none => rw [hw] at h; cases h
          | some c => rw [hw] at h; cases h; exact ⟨rfl, fun L => rfl⟩
        · rw [if_neg hb] at h; cases h
      | tup xs =>
        simp only [idxV, tupItems] at h ⊢
        cases hw : atW (xs.map W.p) i with
        | none => rw [hw] at h; cases h
        | some c => rw [hw] at h; cases h; exact ⟨rfl, fun L => rfl⟩
      | _ => cases h
    | _ => cases x <;> cases h
  | tup xs =>
    cases y with
    | int i =>
      simp only [idxV, tupItems] at h ⊢
      cases hw : atW xs i with
      | none => rw [hw] at h; cases h
      | some c => rw [hw] at h; cases h; exact ⟨rfl, fun L => rfl⟩
    | _ => cases h
  | fl xs =>
    cases y with
    | int i =>
      simp only [idxV] at h ⊢
      cases hw : atW xs i with
      | none => rw [hw] at h; cases h
      | some c => rw [hw] at h; cases h; exact ⟨rfl, fun L => rfl⟩
    | _ => cases h
theorem idxV_heap {w : W} {y : P} {M M' : Hm} {u : W} (h : idxV w (.p y) M = .ok u M') : M' = M := (idxV_both h).1
theorem idxV_ext {w : W} {y : P} {M : Hm} (L : Hm) {u : W} (h : idxV w (.p y) M = .ok u M) : idxV w (.p y) (M ++ L) = .ok u (M ++ L) := (idxV_both h).2 L
theorem ptr_ext {M : Hm} (L : Hm) : ∀ {path : List P} {w u : W}, ptr M path w = some u → ptr (M ++ L) path w = some u
  | [], w, u, h => h
  | y :: ys, w, u, h => by
    unfold ptr at h ⊢
    cases h2 : idxV w (.p y) M with
    | ok x M' =>
      have e := idxV_heap h2
      subst e
      rw [h2] at h
      rw [idxV_ext L h2]
      exact ptr_ext L h
    | err c fs M' => rw [h2] at h; cases h
    | bad => rw [h2] at h; cases h
theorem ptr_snoc {M : Hm} (y : P) : ∀ {path : List P} {w u x : W}, ptr M path w = some u → idxV u (.p y) M = .ok x M → ptr M (path ++ [y]) w = some x
  | [], w, u, x, h, hx => by
    cases h
    rw [List.nil_append]
    unfold ptr
    rw [hx]
    rfl
  | z :: ys, w, u, x, h, hx => by
    rw [List.cons_append]
    unfold ptr at h ⊢
    cases h2 : idxV w (.p z) M with
    | ok x' M' =>
      rw [h2] at h
      exact ptr_snoc y h hx
    | err c fs M' => rw [h2] at h; cases h
    | bad => rw [h2] at h; cases h
theorem getV_cons (z : P) (ys : List P) (v : V) : getV (z :: ys) v = (getV [z] v).bind (getV ys) := by
  cases v with
  | p x => rfl
  | tup vs =>
    cases z with
    | int i =>
      simp only [getV]
      cases Mi.placeOf vs.length i with
      | none => rfl
      | some n =>
        simp only
        cases vs[n]? <;> rfl
    | _ => rfl
  | nd k vs =>
    cases k with
    | lst =>
      cases z with
      | int i =>
        simp only [getV]
        cases Mi.placeOf vs.length i with
        | none => rfl
        | some n =>
          simp only
          cases vs[n]? <;> rfl
      | _ => rfl
    | dic ks =>
      simp only [getV]
      by_cases hk : keysOk ks z = true
      · rw [if_pos hk, if_pos hk]
        cases kidx ks z with
        | none => rfl
        | some n =>
          simp only
          cases vs[n]? <;> rfl
      · rw [if_neg hk, if_neg hk]
        rfl
    | _ => rfl
theorem getV_snoc {y : P} : ∀ {path : List P} {v n : V}, getV (path ++ [y]) v = some n → ∃ u, getV path v = some u ∧ getV [y] u = some n
  | [], v, n, h => ⟨v, rfl, h⟩
  | z :: ys, v, n, h => by
    rw [List.cons_append, getV_cons] at h
    rw [getV_cons]
    cases h2 : getV [z] v with
    | none => rw [h2] at h; cases h
    | some u => rw [h2] at h; exact getV_snoc h
theorem get_step {M : Hm} {A : Nat → Prop} {y : P} {v n : V} {w : W} (h : Al A M w v) (e : getV [y] v = some n) : ∃ u, idxV w (.p y) M = .ok u M ∧ Al A M u n := by
  cases v with
  | p x => cases e
  | tup vs =>
    cases y with
    | int i =>
      obtain ⟨ws, rfl, _, h2⟩ := al_tup.mp h
      simp only [getV] at e
      cases e1 : Mi.placeOf vs.length i with
      | none => rw [e1] at e; cases e
      | some n' =>
        rw [e1] at e
        simp only at e
        cases e2 : vs[n']? with
        | none => rw [e2] at e; cases e
        | some x =>
          rw [e2] at e
          cases e
          obtain ⟨u, e3, h3⟩ := h2.at' n' _ e2
          refine ⟨u, ?_, h3⟩
          simp only [idxV, tupItems]
          rw [show atW ws i = ws[n']? from atW_mk (by rw [h2.len]; exact e1), e3]
    | _ => cases e
  | nd k vs =>
    cases k with
    | lst =>
      obtain ⟨a, ws, rfl, ha, h2, _⟩ := al_lst h
      cases y with
      | int i =>
        simp only [getV] at e
        cases e1 : Mi.placeOf vs.length i with
        | none => rw [e1] at e; cases e
        | some n' =>
          rw [e1] at e
          simp only at e
          cases e2 : vs[n']? with
          | none => rw [e2] at e; cases e
          | some x =>
            rw [e2] at e
            cases e
            obtain ⟨u, e3, h3⟩ := h2.at' n' _ e2
            refine ⟨u, ?_, h3⟩
            simp only [idxV, ha]
            rw [show atW ws i = ws[n']? from atW_mk (by rw [h2.len]; exact e1), e3]
      | _ => cases e
    | dic ks =>
      obtain ⟨a, kvs, rfl, ha, rfl, h2, _⟩ := al_dic h
      simp only [getV] at e
      by_cases hk : keysOk (kvs.map (·.1)) y = true
      · rw [if_pos hk] at e
        cases e1 : kidx (kvs.map (·.1)) y with
        | none => rw [e1] at e; cases e
        | some n' =>
          rw [e1] at e
          simp only at e
          cases e2 : vs[n']? with
          | none => rw [e2] at e; cases e
          | some x =>
            rw [e2] at e
            cases e
            obtain ⟨u, e3, h3⟩ := h2.at' n' _ e2
            refine ⟨u, ?_, h3⟩
            simp only [idxV, ha, ← keysOk_eq, hk, if_true]
            rw [dget_kidx, e1]
            simp only [Option.bind_some, e3]
      · rw [if_neg hk] at e
        cases e
    | _ => cases e
section
variable {b : Nat} {A : Nat → Prop} {M : Hm} {σV : EV} {σ : En} {O R : Nat → List Nat} {Q : Pg} {clV : Nat → List V → RV VD} {cl : Nat → List W → Hm → Mi.R W}
theorem pl_of (hev : ∀ e, EvOk Q clV cl e) : ∀ (o : E) {q : Nat × List P} {M : Hm} {v : VD} {n : V}, Iv b A M σV σ O R → Clo M → plV Q clV o σV = .ok q → σV[q.1]? = some (some v) → getV q.2 v.1 = some n →
    ∃ w w0 L, ev Q cl o σ M = .ok w (M ++ L) ∧ Clo (M ++ L) ∧ σ[q.1]? = some (some w0) ∧ ptr (M ++ L) q.2 w0 = some w ∧ Al (Oc M O R [q.1]) (M ++ L) w n
  | .var i, q, M, v, n, h, hc, e, hv, hg => by
    unfold plV at e
    cases e
    cases hg
    obtain ⟨w, a, c⟩ := (h.en [i]).2 i List.mem_cons_self v hv
    refine ⟨w, w, [], ?_, by rw [List.append_nil]; exact hc, a, rfl, by rw [List.append_nil]; exact c⟩
    rw [List.append_nil]
    show (match σ[i]? with
      | some (some w) => (.ok w M : Mi.R W)
      | _ => .bad) = _
    rw [a]
  | .idx o k, q, M, v, n, h, hc, e, hv, hg => by
    unfold plV at e
    split at e
    · rename_i q0 y dy e1 e2
      cases e
      obtain ⟨u, g1, g2⟩ := getV_snoc hg
      obtain ⟨w, w0, L, f1, f2, f3, f4, f5⟩ := pl_of hev o h hc e1 hv g1
      have p := (h.ext L).ev f2 (hev k)
      rw [e2] at p
      obtain ⟨x, L2, p1, p2, p3⟩ := p
      have hx := rs_pp p3
      subst hx
      obtain ⟨u', g3, g4⟩ := get_step (al_ext L2 f5) g2
      refine ⟨u', w0, L ++ L2, ?_, by rw [← List.append_assoc]; exact p2, f3, ?_, by rw [← List.append_assoc]; exact g4⟩
      · rw [← List.append_assoc]
        show ((ev Q cl o σ M).bnd fun x M1 => (ev Q cl k σ M1).bnd fun y M2 => idxV x y M2) = _
        rw [f1]
        simp only [Mi.R.bnd_ok]
        rw [p1]
        exact g3
      · rw [← List.append_assoc]
        exact ptr_snoc y (ptr_ext L2 f4) g3
    · cases e
  | .cst _, _, _, _, _, _, _, e, _, _ => by unfold plV at e; cases e
  | .glb _ _, _, _, _, _, _, _, e, _, _ => by unfold plV at e; cases e
  | .tup _, _, _, _, _, _, _, e, _, _ => by unfold plV at e; cases e
  | .lst _, _, _, _, _, _, _, e, _, _ => by unfold plV at e; cases e
  | .dct _, _, _, _, _, _, _, e, _, _ => by unfold plV at e; cases e
  | .bin _ _ _, _, _, _, _, _, _, e, _, _ => by unfold plV at e; cases e
  | .neg _, _, _, _, _, _, _, e, _, _ => by unfold plV at e; cases e
  | .cmp _ _ _, _, _, _, _, _, _, e, _, _ => by unfold plV at e; cases e
  | .chn _ _ _ _ _, _, _, _, _, _, _, e, _, _ => by unfold plV at e; cases e
  | .and _ _, _, _, _, _, _, _, e, _, _ => by unfold plV at e; cases e
  | .or _ _, _, _, _, _, _, _, e, _, _ => by unfold plV at e; cases e
  | .not _, _, _, _, _, _, _, e, _, _ => by unfold plV at e; cases e
  | .slc _ _ _, _, _, _, _, _, _, e, _, _ => by unfold plV at e; cases e
  | .rvs _, _, _, _, _, _, _, e, _, _ => by unfold plV at e; cases e
  | .srs _, _, _, _, _, _, _, e, _, _ => by unfold plV at e; cases e
  | .lns _, _, _, _, _, _, _, e, _, _ => by unfold plV at e; cases e
  | .call _ _, _, _, _, _, _, _, e, _, _ => by unfold plV at e; cases e
  | .blt _ _, _, _, _, _, _, _, e, _, _ => by unfold plV at e; cases e
  | .mth _ _ _, _, _, _, _, _, _, e, _, _ => by unfold plV at e; cases e
  | .fld _ _, _, _, _, _, _, _, e, _, _ => by unfold plV at e; cases e
  | .met _ _ _, _, _, _, _, _, _, e, _, _ => by unfold plV at e; cases e
  | .mk _ _, _, _, _, _, _, _, e, _, _ => by unfold plV at e; cases e
  | .isi _ _, _, _, _, _, _, _, e, _, _ => by unfold plV at e; cases e
  | .lc _ _ _ _ _ _, _, _, _, _, _, _, e, _, _ => by unfold plV at e; cases e
structure Fr (M : Hm) (O : Nat → List Nat) (M' : Hm) (O' : Nat → List Nat) : Prop where
  le : M.length ≤ M'.length
  eq : ∀ a, a < M.length → (∀ i, a ∉ O i) → M'[a]? = M[a]?
  own : ∀ i a, a ∈ O' i → (∃ j, a ∈ O j) ∨ M.length ≤ a
theorem Fr.refl : Fr M O M O := ⟨Nat.le_refl _, fun _ _ _ => rfl, fun i a h => .inl ⟨i, h⟩⟩
theorem Fr.trans {M' M'' : Hm} {O' O'' : Nat → List Nat} (h : Fr M O M' O') (h' : Fr M' O' M'' O'') : Fr M O M'' O'' where
  le := Nat.le_trans h.le h'.le
  eq a ha hn := by
    rw [h'.eq a (Nat.lt_of_lt_of_le ha h.le) fun i hi => ?_, h.eq a ha hn]
    rcases h.own i a hi with ⟨j, hj⟩ | hj
    · exact hn j hj
    · omega
  own i a ha := by
    rcases h'.own i a ha with ⟨j, hj⟩ | hj
    · exact h.own j a hj
    · exact .inr (Nat.le_trans h.le hj)
theorem Fr.ext (L : Hm) {O' R R' : Nat → List Nat} (s : Sh O R O' R') : Fr M O (M ++ L) O' := ⟨by simp, fun a ha _ => get_app ha, fun i a ha => .inl ⟨i, s.o i a ha⟩⟩
theorem chg_of {α : Type} {f : V → Option (V × α)} {put : VD} (hf : ∀ v r, f v = some r → ∃ k vs, v = .nd k vs) {q : Nat × List P} {r : EV × α} (h : Iv b A M σV σ O R) (e : chgV f put q σV = some r) {w0 : W} (hw0 : σ[q.1]? = some (some w0)) :
    ∃ a dn vn vn' On Rn, ptr M q.2 w0 = some (.ref a) ∧ 0 < dn ∧ Rd M dn (.ref a) vn On Rn ∧ Gd On Rn ∧ (∀ c ∈ On, c ∈ O q.1) ∧ (∀ c ∈ Rn, c ∈ R q.1) ∧ f vn = some (vn', r.2) ∧ (∃ v, σV[q.1]? = some (some v) ∧ getV q.2 v.1 = some vn) ∧
      ∀ (o' : MO) (On' Rn' Ov Rv : List Nat), Mu M a o' (ownBy put dn) vn' On Rn Ov Rv On' Rn' → (∀ c ∈ Ov, b ≤ c ∧ ∀ i, c ∉ O i ∧ c ∉ R i) → (∀ c ∈ Rv, A c ∧ ∀ i, c ∉ O i) → (∀ c, b ≤ c → A c) → Clo M →
        ∃ O' R', Iv b A (M.set a o') r.1 σ O' R' ∧ Clo (M.set a o') ∧ a ∈ O q.1 ∧ (∀ i c, c ∈ O' i → (∃ j, c ∈ O j ∧ c ∉ On) ∨ c ∈ On') := by
  unfold chgV at e
  cases hv : σV[q.1]? with
  | none => rw [hv] at e; cases e
  | some ov =>
    cases ov with
    | none => rw [hv] at e; cases e
    | some v =>
      rw [hv] at e
      simp only at e
      cases hu : updV f put q.2 v with
      | none => rw [hu] at e; cases e
      | some u =>
        rw [hu] at e
        cases e
        obtain ⟨w, hw, hrd⟩ := h.rd q.1 v hv
        rw [hw0] at hw
        cases hw
        have gq : Gd (O q.1) (R q.1) := ⟨h.nod q.1, fun c hc => h.sep q.1 q.1 c hc⟩
        obtain ⟨v, d⟩ := v
        obtain ⟨a, dn, vn, vn', On, Rn, b1, b2, b3, b4, b5, b6, b7, b8, b9, b10⟩ := upd_of hf q.2 hu hrd gq
        refine ⟨a, dn, vn, vn', On, Rn, b1, b2, b3, b6, fun c hc => b4.subset hc, b5, b8, ⟨_, rfl, b7⟩, ?_⟩
        intro o' On' Rn' Ov Rv mu hO hR hA hc
        obtain ⟨k, vs, rfl⟩ := hf _ _ b8
        obtain ⟨o, X, ha, hk, rfl, _⟩ := own_nd b2 b3 b6
        have aq : a ∈ O q.1 := b4.subset List.mem_cons_self
        have hset : ∀ c, c ∉ a :: X → (M.set a o')[c]? = M[c]? := fun c hc => by
          rw [List.getElem?_set_ne fun e => hc (by rw [e]; exact List.mem_cons_self)]
        obtain ⟨O', R', k1, k2, k3, k4⟩ := b10 (M.set a o') On' Rn' (fun c _ hn => hset c hn) hset mu.rd mu.gd (fun c hc => (mu.o c hc).imp_right fun h => (hO c h).2 q.1) (fun c hc => by
          rcases mu.r c hc with h | h | h | h
          · exact .inl h
          · exact .inr fun hx => gq.2 c (b5 c h) hx
          · exact .inr ((hO c h).2 q.1).1
          · exact .inr ((hR c h).2 q.1))
        have oin : ∀ c ∈ O', c ∈ O q.1 ∨ c ∈ Ov := fun c hc => by
          rcases k3 c hc with h | h
          · exact .inl h.1
          · exact (mu.o c h).imp_left fun h => b4.subset h
        have rin : ∀ c ∈ R', c ∈ R q.1 ∨ c ∈ O q.1 ∨ c ∈ Ov ∨ c ∈ Rv := fun c hc => by
          rcases k4 c hc with h | h | h
          · exact .inl h
          · exact .inr (.inl h)
          · rcases mu.r c h with h | h | h | h
            · exact .inr (.inl (b4.subset h))
            · exact .inl (b5 c h)
            · exact .inr (.inr (.inl h))
            · exact .inr (.inr (.inr h))
        have lt' := rd_lt _ k1
        rw [List.length_set] at lt'
        refine ⟨upd O q.1 O', upd R q.1 R', ⟨?_, ?_, ?_, ?_, ?_, ?_, ?_, fun i w e => by rw [List.length_set]; exact h.bel i w e⟩, clo_set hc mu.bel, aq, ?_⟩
        · rw [List.length_set]; exact h.len
        · intro j x hj
          rw [List.getElem?_set] at hj
          by_cases hij : q.1 = j
          · subst hij
            rw [if_pos rfl] at hj
            split at hj
            · cases hj
              refine ⟨w0, hw0, ?_⟩
              simp only [upd, if_true]
              exact k1
            · cases hj
          · rw [if_neg hij] at hj
            obtain ⟨w', e', h'⟩ := h.rd j x hj
            refine ⟨w', e', ?_⟩
            have : ¬ j = q.1 := fun e => hij e.symm
            simp only [upd, this, if_false]
            refine rd_agree _ h' fun c hc => ?_
            have : a ≠ c := fun e => by
              subst e
              rcases hc with h1 | h1
              · exact hij (h.dis q.1 j a aq h1)
              · exact h.sep j q.1 a h1 aq
            rw [List.getElem?_set_ne this]
        · intro j; simp only [upd]; split
          · exact k2.1
          · exact h.nod j
        · intro j k c
          simp only [upd]
          split <;> split <;> intro h1 h2
          · simp_all
          · rcases oin c h1 with h3 | h3
            · rename_i hj hk; rw [hj]; exact h.dis q.1 k c h3 h2
            · exact absurd h2 ((hO c h3).2 k).1
          · rcases oin c h2 with h3 | h3
            · rename_i hj hk; rw [hk]; exact h.dis j q.1 c h1 h3
            · exact absurd h1 ((hO c h3).2 j).1
          · exact h.dis j k c h1 h2
        · intro j k c
          simp only [upd]
          split <;> split <;> intro h1 h2
          · exact k2.2 c h1 h2
          · rename_i hj hk
            rcases rin c h1 with h3 | h3 | h3 | h3
            · exact h.sep q.1 k c h3 h2
            · exact hk (h.dis q.1 k c h3 h2).symm
            · exact ((hO c h3).2 k).1 h2
            · exact (hR c h3).2 k h2
          · rcases oin c h2 with h3 | h3
            · exact h.sep j q.1 c h1 h3
            · exact ((hO c h3).2 j).2 h1
          · exact h.sep j k c h1 h2
        · intro j c
          rw [List.length_set]
          simp only [upd]; split
          · intro h1
            refine ⟨?_, lt' c (.inl h1)⟩
            rcases oin c h1 with h3 | h3
            · exact (h.own q.1 c h3).1
            · exact (hO c h3).1
          · exact h.own j c
        · intro j c
          rw [List.length_set]
          simp only [upd]; split
          · intro h1
            refine ⟨?_, lt' c (.inr h1)⟩
            rcases rin c h1 with h3 | h3 | h3 | h3
            · exact (h.all q.1 c h3).1
            · exact hA c (h.own q.1 c h3).1
            · exact hA c (hO c h3).1
            · exact (hR c h3).1
          · exact h.all j c
        · intro j c
          simp only [upd]; split
          · intro h1
            exact (k3 c h1).imp_left fun h => ⟨q.1, h⟩
          · rename_i hj
            intro h1
            exact .inl ⟨j, h1, fun hx => hj (h.dis j q.1 c h1 (b4.subset hx))⟩
end
end Vl

namespace Vl
open PySem Mi
section
variable {b : Nat} {A : Nat → Prop} {M : Hm} {σV : EV} {σ : En} {O R : Nat → List Nat} {Q : Pg} {clV : Nat → List V → RV VD} {cl : Nat → List W → Hm → Mi.R W}
theorem Iv.cut {L : Hm} (h : Iv b A (M ++ L) σV σ O R) (hc : Clo M) (hb : ∀ (i : Nat) (w : W), σ[i]? = some (some w) → below M.length w = true) : ∃ O' R', Iv b A M σV σ O' R' ∧ ∀ i c, c ∈ O' i → c ∈ O i := by
  refine ⟨fun i => if ((σV[i]?).join).isSome then O i else [], fun i => if ((σV[i]?).join).isSome then R i else [], ⟨h.len, ?_, ?_, ?_, ?_, ?_, ?_, hb⟩, ?_⟩
  · intro i v e
    obtain ⟨w, a, c⟩ := h.rd i v e
    refine ⟨w, a, ?_⟩
    simp only [e, Option.join_some, Option.isSome_some, if_true]
    exact rd_cut hc _ (hb i w a) c
  · intro i
    split
    · exact h.nod i
    · exact List.nodup_nil
  · intro i j c
    split <;> split <;> intro h1 h2
    · exact h.dis i j c h1 h2
    · simp at h2
    · simp at h1
    · simp at h1
  · intro i j c
    split <;> split <;> intro h1 h2
    · exact h.sep i j c h1 h2
    · simp at h2
    · simp at h1
    · simp at h1
  · intro i c
    split
    · rename_i hs
      intro h1
      refine ⟨(h.own i c h1).1, ?_⟩
      cases e : σV[i]? with
      | none => rw [e] at hs; cases hs
      | some o =>
        cases o with
        | none => rw [e] at hs; cases hs
        | some v =>
          obtain ⟨w, a, q⟩ := h.rd i v e
          exact rd_lt _ (rd_cut hc _ (hb i w a) q) c (.inl h1)
    · intro h; simp at h
  · intro i c
    split
    · rename_i hs
      intro h1
      refine ⟨(h.all i c h1).1, ?_⟩
      cases e : σV[i]? with
      | none => rw [e] at hs; cases hs
      | some o =>
        cases o with
        | none => rw [e] at hs; cases hs
        | some v =>
          obtain ⟨w, a, q⟩ := h.rd i v e
          exact rd_lt _ (rd_cut hc _ (hb i w a) q) c (.inr h1)
    · intro h; simp at h
  · intro i c
    simp only
    split
    · exact fun h => h
    · intro h; simp at h
def Pss (b : Nat) (A : Nat → Prop) (M : Hm) (O : Nat → List Nat) (r : RSV) (mi : RS) : Prop := match r with
  | .nx s => ∃ σ' M' O' R', mi = .nx σ' M' ∧ Iv b A M' s σ' O' R' ∧ Clo M' ∧ Fr M O M' O'
  | .bk s => ∃ σ' M' O' R', mi = .bk σ' M' ∧ Iv b A M' s σ' O' R' ∧ Clo M' ∧ Fr M O M' O'
  | .er c fs s => ∃ σ' M' O' R', mi = .er c fs σ' M' ∧ Iv b A M' s σ' O' R' ∧ Clo M' ∧ Fr M O M' O'
  | .rt v => ∃ w M', mi = .rt w M' ∧ Clo M' ∧ M.length ≤ M'.length ∧ (∀ a, a < M.length → (∀ i, a ∉ O i) → M'[a]? = M[a]?) ∧ Rs b A M' v.2 w v.1
  | .bad => True
theorem pss_base {M' : Hm} {O' : Nat → List Nat} {r : RSV} {mi : RS} (f : Fr M O M' O') (h : Pss b A M' O' r mi) : Pss b A M O r mi := by
  cases r with
  | nx s => obtain ⟨σ', M'', O'', R'', e, i, c, f'⟩ := h; exact ⟨σ', M'', O'', R'', e, i, c, f.trans f'⟩
  | bk s => obtain ⟨σ', M'', O'', R'', e, i, c, f'⟩ := h; exact ⟨σ', M'', O'', R'', e, i, c, f.trans f'⟩
  | er c fs s => obtain ⟨σ', M'', O'', R'', e, i, c, f'⟩ := h; exact ⟨σ', M'', O'', R'', e, i, c, f.trans f'⟩
  | rt v =>
    obtain ⟨w, M'', e, c, l, q, r⟩ := h
    refine ⟨w, M'', e, c, Nat.le_trans f.le l, fun a ha hn => ?_, r⟩
    rw [q a (Nat.lt_of_lt_of_le ha f.le) fun i hi => ?_, f.eq a ha hn]
    rcases f.own i a hi with ⟨j, hj⟩ | hj
    · exact hn j hj
    · omega
  | bad => trivial
theorem pss_seq {r : RSV} {mi : RS} {k : EV → RSV} {k' : En → Hm → RS} (h : Pss b A M O r mi) (hb : b ≤ M.length) (hk : ∀ M' s σ' O' R', Iv b A M' s σ' O' R' → Clo M' → b ≤ M'.length → Pss b A M' O' (k s) (k' σ' M')) : Pss b A M O (r.seq k) (mi.seq k') := by
  cases r with
  | nx s =>
    obtain ⟨σ', M', O', R', rfl, i, c, f⟩ := h
    exact pss_base f (hk M' s σ' O' R' i c (Nat.le_trans hb f.le))
  | bk s => obtain ⟨σ', M'', O'', R'', rfl, i, c, f'⟩ := h; exact ⟨σ', M'', O'', R'', rfl, i, c, f'⟩
  | er c fs s => obtain ⟨σ', M'', O'', R'', rfl, i, c, f'⟩ := h; exact ⟨σ', M'', O'', R'', rfl, i, c, f'⟩
  | rt v => obtain ⟨w, M'', rfl, h⟩ := h; exact ⟨w, M'', rfl, h⟩
  | bad => trivial
theorem Fr.ex (L : Hm) : Fr M O (M ++ L) O := ⟨by simp, fun a ha _ => get_app ha, fun i a ha => .inl ⟨i, ha⟩⟩
theorem pss_ev {M0 : Hm} {O0 : Nat → List Nat} (f : Fr M0 O0 M O) (h : Iv b A M σV σ O R) (hc : Clo M) {e : E} (he : EvOk Q clV cl e) {k : VD → RSV} {k' : W → Hm → RS}
    (hk : ∀ v w L, evV Q clV e σV = .ok v → Clo (M ++ L) → Rs M.length (Oc M O R (occ e)) (M ++ L) v.2 w v.1 → Pss b A M0 O0 (k v) (k' w (M ++ L))) : Pss b A M0 O0 ((evV Q clV e σV).toS σV k) ((tidy M (ev Q cl e σ M)).toS σ k') := by
  have p := pst_tidy hc (fun a ha => .inl ha) (h.ev hc he)
  revert p hk
  cases evV Q clV e σV with
  | ok v =>
    intro hk
    rintro ⟨w, L, e, hc2, r⟩
    rw [e]
    exact hk v w L rfl hc2 r
  | err c fs =>
    intro _
    rintro ⟨L, e, hc2⟩
    rw [e]
    exact ⟨σ, M ++ L, O, R, rfl, h.ext L, hc2, f.trans (Fr.ex L)⟩
  | bad => intro _ _; trivial
theorem exp_gen (h : Iv b A M σV σ O R) (hc : Clo M) {e : E} (he : EvOk Q clV cl e) : Pss b A M O ((evV Q clV e σV).toS σV fun _ => .nx σV) (run Q cl (.exp e) σ M) :=
  pss_ev Fr.refl h hc he fun v w L _ hc2 r => ⟨σ, M ++ L, O, R, rfl, h.ext L, hc2, Fr.ex L⟩
theorem asg_gen (h : Iv b A M σV σ O R) (hc : Clo M) (hb : b ≤ M.length) (hA : ∀ a, b ≤ a → A a) {e : E} (he : EvOk Q clV cl e) (p : Pt) : Pss b A M O ((evV Q clV e σV).toS σV fun v => match bindV p v (aft v (occ e) σV) with
    | some σ' => .nx σ'
    | none => .bad) (run Q cl (.asg (.pt p) e) σ M) := by
  refine pss_ev Fr.refl h hc he fun v w L _ hc2 r => ?_
  obtain ⟨O', R', Ov, Rv, h1, s, pn, ho, _⟩ := h.aft hb hA r
  cases e1 : bindV p v (aft v (occ e) σV) with
  | none => trivial
  | some σ' =>
    obtain ⟨τ, O'', R'', e2, h2, g⟩ := bind_iv p h1 pn e1
    simp only [e2]
    refine ⟨τ, M ++ L, O'', R'', rfl, h2, hc2, ⟨by simp, fun a ha _ => get_app ha, fun i a ha => ?_⟩⟩
    rcases g.o i a ha with ⟨j, hj⟩ | hj
    · exact .inl ⟨j, s.o j a hj⟩
    · exact .inr (ho a hj)
theorem par_gen (h : Iv b A M σV σ O R) (hc : Clo M) (hb : b ≤ M.length) (hA : ∀ a, b ≤ a → A a) {x y : E} (hx : EvOk Q clV cl x) (hy : EvOk Q clV cl y) (i j : Nat) : Pss b A M O (runV Q clV (.par i j x y) σV) (run Q cl (.par i j x y) σ M) := by
  refine pss_ev Fr.refl h hc hx fun v w L _ hc2 r => ?_
  obtain ⟨O1, R1, Ov, Rv, h1, s, pn, ho, _⟩ := h.aft hb hA r
  have f1 : Fr M O (M ++ L) O1 := Fr.ext L s
  refine pss_ev f1 h1 hc2 hy fun v2 w2 L2 _ hc3 r2 => ?_
  have hb2 : b ≤ (M ++ L).length := by rw [List.length_append]; omega
  obtain ⟨O2, R2, Ov2, Rv2, h3, s2, pn2, ho2, hr2⟩ := h1.aft hb2 hA r2
  have pn' := (pn.ext L2).sh s2
  have h4 := h3.set pn' i
  -- the second's are not the first's
  have lt1 := rd_lt _ pn.rd
  have pn3 : Pn b A (M ++ L ++ L2) w2 v2 Ov2 Rv2 (upd O2 i Ov) (upd R2 i Rv) := by
    refine ⟨pn2.rd, pn2.gd, pn2.own, pn2.all, fun a ha k => ⟨?_, ?_⟩, fun a ha k => ?_⟩
    · simp only [upd]; split
      · intro hx
        have := lt1 a (.inl hx)
        have := ho2 a ha
        omega
      · exact (pn2.d1 a ha k).1
    · simp only [upd]; split
      · intro hx
        have := lt1 a (.inr hx)
        have := ho2 a ha
        omega
      · exact (pn2.d1 a ha k).2
    · simp only [upd]; split
      · intro hx
        rcases hr2 a ha with h | ⟨n, _, h | h⟩
        · have := lt1 a (.inl hx)
          omega
        · exact (pn.d1 a hx n).1 h
        · exact (pn.d1 a hx n).2 h
      · exact pn2.d2 a ha k
  have h5 := h4.set pn3 j
  refine ⟨_, _, _, _, rfl, h5, hc3, ⟨by simp only [List.length_append]; omega, fun a ha _ => by rw [List.append_assoc]; exact get_app ha, fun k a ha => ?_⟩⟩
  simp only [upd] at ha
  split at ha
  · have := ho2 a ha
    rw [List.length_append] at this
    exact .inr (by omega)
  · split at ha
    · exact .inr (ho a ha)
    · exact .inl ⟨k, s.o k a (s2.o k a ha)⟩
theorem ret_gen (h : Iv b A M σV σ O R) (hc : Clo M) (hb : b ≤ M.length) (hA : ∀ a, b ≤ a → A a) {e : E} (he : EvOk Q clV cl e) : Pss b A M O ((evV Q clV e σV).toS σV fun v => .rt v) (run Q cl (.ret e) σ M) := by
  refine pss_ev Fr.refl h hc he fun v w L _ hc2 r => ?_
  obtain ⟨Ov, Rv, q1, q2, q3, q4⟩ := r
  refine ⟨w, M ++ L, rfl, hc2, by simp, fun a ha _ => get_app ha, Ov, Rv, q1, q2, fun a ha => Nat.le_trans hb (q3 a ha), fun a ha => ?_⟩
  rcases q4 a ha with h1 | ⟨i, _, h1 | h1⟩
  · exact hA a (Nat.le_trans hb h1)
  · exact hA a (h.own i a h1).1
  · exact (h.all i a h1).1
theorem tidy_same {w : W} (h : below M.length w = true) : tidy M (.ok w M) = .ok w M := by
  cases w with
  | p x => simp [tidy]
  | ref k =>
    simp only [below, decide_eq_true_eq] at h
    simp only [tidy, List.take_length, if_true, h]
  | tup ws => simp [tidy]
  | fl xs => simp [tidy]
theorem ret_var (h : Iv b A M σV σ O R) (hc : Clo M) (hb : b ≤ M.length) (i : Nat) : Pss b A M O ((match σV[i]? with
    | some (some v) => (.ok v : RV VD)
    | _ => .bad).toS σV fun v => .rt v) (run Q cl (.ret (.var i)) σ M) := by
  cases e : σV[i]? with
  | none => trivial
  | some o =>
    cases o with
    | none => trivial
    | some v =>
      obtain ⟨w, e1, r⟩ := h.rd i v e
      have hw := h.bel i w e1
      show Pss b A M O (.rt v) ((tidy M (match σ[i]? with
        | some (some w) => (.ok w M : Mi.R W)
        | _ => .bad)).toS σ fun w M1 => .rt w M1)
      rw [e1]
      simp only
      rw [tidy_same hw]
      exact ⟨w, M, rfl, hc, Nat.le_refl _, fun _ _ _ => rfl, O i, R i, r, ⟨h.nod i, fun c hc => h.sep i i c hc⟩, fun a ha => (h.own i a ha).1, fun a ha => (h.all i a ha).1⟩
theorem ret_two (h : Iv b A M σV σ O R) (hc : Clo M) (hb : b ≤ M.length) (hA : ∀ a, b ≤ a → A a) {i j : Nat} (hij : i ≠ j) : Pss b A M O ((twoV σV i j).toS σV fun v => .rt v) (run Q cl (.ret (.tup [.var i, .var j])) σ M) := by
  unfold twoV
  cases e : σV[i]? with
  | none => trivial
  | some o =>
    cases o with
    | none => trivial
    | some v =>
      cases e' : σV[j]? with
      | none => trivial
      | some o' =>
        cases o' with
        | none => trivial
        | some v' =>
          obtain ⟨w, e1, r⟩ := h.rd i v e
          obtain ⟨w', e2, r'⟩ := h.rd j v' e'
          have hw := h.bel i w e1
          have hw' := h.bel j w' e2
          have hev : ev Q cl (.tup [.var i, .var j]) σ M = .ok (mkTup [w, w']) M := by
            show (((match σ[i]? with
              | some (some w) => (.ok w M : Mi.R W)
              | _ => .bad).bnd fun w M1 => (((match σ[j]? with
              | some (some w) => (.ok w M1 : Mi.R W)
              | _ => .bad).bnd fun w M1 => (((.ok [] M1 : Mi.R (List W)).bnd fun ws M2 => .ok (w :: ws) M2))).bnd fun ws M2 => .ok (w :: ws) M2)).bnd fun ws M1 => if ws.length ≤ big then .ok (mkTup ws) M1 else .bad) = _
            rw [e1, e2]
            simp [big]
          show Pss b A M O (.rt (mkTupV [v.1, v'.1], mind [v, v'])) ((tidy M (ev Q cl (.tup [.var i, .var j]) σ M)).toS σ fun w M1 => .rt w M1)
          have ht : below M.length (mkTup [w, w']) = true := by
            unfold mkTup
            split
            · rfl
            · simp [below, belows, hw, hw']
          rw [hev, tidy_same ht]
          have hrt : RsT b A M [w, w'] [v, v'] := ⟨O i ++ (O j ++ []), R i ++ (R j ++ []), ⟨w, [w'], O i, O j ++ [], R i, R j ++ [], rfl, r, ⟨w', [], O j, [], R j, [], rfl, r', ⟨rfl, rfl, rfl⟩, rfl, rfl⟩, rfl, rfl⟩, by
            simp only [List.append_nil]
            exact gd_join ⟨h.nod i, fun c hc => h.sep i i c hc⟩ ⟨h.nod j, fun c hc => h.sep j j c hc⟩ (fun c h1 h2 => hij (h.dis i j c h1 h2)) (fun c h1 h2 => h.sep i j c h1 h2) (fun c h1 h2 => h.sep j i c h1 h2), fun a ha => by
            simp only [List.append_nil, List.mem_append] at ha
            exact ha.elim (fun h1 => (h.own i a h1).1) (fun h1 => (h.own j a h1).1), fun a ha => by
            simp only [List.append_nil, List.mem_append] at ha
            exact ha.elim (fun h1 => (h.all i a h1).1) (fun h1 => (h.all j a h1).1)⟩
          have := pst_tup hc hA hrt
          obtain ⟨x, L, e3, hc3, r3⟩ := this
          injection e3 with e3 e4
          subst e3
          rw [← e4] at r3
          exact ⟨_, M, rfl, hc, Nat.le_refl _, fun _ _ _ => rfl, r3⟩
theorem aft_val {v : VD} : ∀ (is : List Nat) (σV : EV) {i : Nat}, (frz is σV)[i]? = some (some v) → ∃ d, σV[i]? = some (some (v.1, d))
  | [], σV, i, h => ⟨v.2, h⟩
  | j :: is, σV, i, h => by
    rw [frz, List.foldl_cons] at h
    obtain ⟨d, h⟩ := aft_val is _ h
    split at h
    · rename_i u _ e
      rw [List.getElem?_set] at h
      split at h
      · split at h
        · cases h
          rename_i hij _
          subst hij
          exact ⟨_, e⟩
        · cases h
      · exact ⟨d, h⟩
    · exact ⟨d, h⟩
theorem Iv.afts (h : Iv b A M σV σ O R) (hb : b ≤ M.length) (hA : ∀ a, b ≤ a → A a) {L : Hm} {ws : List W} {vs : List VD} {is : List Nat} (r : RsT M.length (Oc M O R is) (M ++ L) ws vs) : ∃ O' R' Ov Rv, Iv b A (M ++ L) (afts vs is σV) σ O' R' ∧ Sh O R O' R' ∧ Pns b A (M ++ L) ws vs Ov Rv O' R' ∧ (∀ a ∈ Ov, M.length ≤ a) := by
  obtain ⟨Ov, Rv, q1, q2, q3, q4⟩ := r
  unfold Vl.afts
  have d1 : ∀ a ∈ Ov, ∀ i, a ∉ O i ∧ a ∉ R i := fun a ha i => ⟨fun hx => by have := (h.own i a hx).2; have := q3 a ha; omega, fun hx => by have := (h.all i a hx).2; have := q3 a ha; omega⟩
  split
  · rename_i hf
    have e : Rv = [] := by
      have : ∀ {vs : List VD} {ws : List W} {O R : List Nat}, RdT (M ++ L) ws vs O R → (vs.all fun v => fullV v.2 v.1) = true → R = [] := by
        intro vs
        induction vs with
        | nil => rintro ws O R ⟨_, _, rfl⟩ _; rfl
        | cons v vs ih =>
          rintro ws O R ⟨w, ws', O1, O2, R1, R2, rfl, h1, h2, rfl, rfl⟩ hf
          rw [List.all_cons, Bool.and_eq_true] at hf
          rw [rd_full _ hf.1 h1, ih h2 hf.2]
          rfl
      exact this q1 hf
    subst e
    exact ⟨O, R, Ov, [], h.ext L, Sh.refl, ⟨q1, q2, fun a ha => Nat.le_trans hb (q3 a ha), by simp, d1, by simp⟩, q3⟩
  · obtain ⟨O', R', h1, s, e, _⟩ := Iv.frz hA is (h.ext L)
    refine ⟨O', R', Ov, Rv, h1, s, ⟨q1, q2, fun a ha => Nat.le_trans hb (q3 a ha), ?_, ?_, ?_⟩, q3⟩
    · intro a ha
      rcases q4 a ha with h2 | ⟨i, hi, h2 | h2⟩
      · exact hA a (Nat.le_trans hb h2)
      · exact hA a (h.own i a h2).1
      · exact (h.all i a h2).1
    · intro a ha i
      refine ⟨fun hx => (d1 a ha i).1 (s.o i a hx), fun hx => ?_⟩
      rcases s.r i a hx with h2 | h2
      · exact (d1 a ha i).2 h2
      · exact (d1 a ha i).1 h2
    · intro a ha i hx
      have h3 := s.o i a hx
      rcases q4 a ha with h2 | ⟨j, hj, h2 | h2⟩
      · have := (h.own i a h3).2
        omega
      · have := h.dis j i a h2 h3
        subst this
        rw [e j hj] at hx
        simp at hx
      · exact h.sep j i a h2 h3
theorem afts_val {v : VD} {vs : List VD} {is : List Nat} {i : Nat} (h : (afts vs is σV)[i]? = some (some v)) : ∃ d, σV[i]? = some (some (v.1, d)) := by
  unfold afts at h
  split at h
  · exact ⟨v.2, h⟩
  · exact aft_val is _ h
theorem pl_noerr : ∀ (o : E) {c : Nat} {fs : List P}, plV Q clV o σV ≠ .err c fs
  | .var i, c, fs => by unfold plV; intro e; cases e
  | .idx o k, c, fs => by unfold plV; split <;> intro e <;> cases e
  | .cst _, _, _ => by unfold plV; intro e; cases e
  | .glb _ _, _, _ => by unfold plV; intro e; cases e
  | .tup _, _, _ => by unfold plV; intro e; cases e
  | .lst _, _, _ => by unfold plV; intro e; cases e
  | .dct _, _, _ => by unfold plV; intro e; cases e
  | .bin _ _ _, _, _ => by unfold plV; intro e; cases e
  | .neg _, _, _ => by unfold plV; intro e; cases e
  | .cmp _ _ _, _, _ => by unfold plV; intro e; cases e
  | .chn _ _ _ _ _, _, _ => by unfold plV; intro e; cases e
  | .and _ _, _, _ => by unfold plV; intro e; cases e
  | .or _ _, _, _ => by unfold plV; intro e; cases e
  | .not _, _, _ => by unfold plV; intro e; cases e
  | .slc _ _ _, _, _ => by unfold plV; intro e; cases e
  | .rvs _, _, _ => by unfold plV; intro e; cases e
  | .srs _, _, _ => by unfold plV; intro e; cases e
  | .lns _, _, _ => by unfold plV; intro e; cases e
  | .call _ _, _, _ => by unfold plV; intro e; cases e
  | .blt _ _, _, _ => by unfold plV; intro e; cases e
  | .mth _ _ _, _, _ => by unfold plV; intro e; cases e
  | .fld _ _, _, _ => by unfold plV; intro e; cases e
  | .met _ _ _, _, _ => by unfold plV; intro e; cases e
  | .mk _ _, _, _ => by unfold plV; intro e; cases e
  | .isi _ _, _, _ => by unfold plV; intro e; cases e
  | .lc _ _ _ _ _ _, _, _ => by unfold plV; intro e; cases e
theorem tidy_heap {w : W} {Mx : Hm} : ∃ w' M3, tidy M (.ok w Mx) = .ok w' M3 ∧ (M3 = Mx ∨ (Mx.take M.length = M ∧ (M3 = M ∨ ∃ xs, pures xs ≠ none ∧ M3 = M ++ [.lst xs]))) := by
  unfold tidy
  by_cases h : Mx.take M.length = M
  · simp only [h, if_true]
    cases w with
    | p x => exact ⟨_, _, rfl, .inr ⟨trivial, .inl rfl⟩⟩
    | ref k =>
      simp only
      split
      · exact ⟨_, _, rfl, .inr ⟨trivial, .inl rfl⟩⟩
      · split
        · split
          · rename_i hp
            exact ⟨_, _, rfl, .inr ⟨trivial, .inr ⟨_, (fun e => by rw [e] at hp; cases hp), rfl⟩⟩⟩
          · exact ⟨_, _, rfl, .inl rfl⟩
        · exact ⟨_, _, rfl, .inl rfl⟩
    | tup ws => exact ⟨_, _, rfl, .inl rfl⟩
    | fl xs => exact ⟨_, _, rfl, .inr ⟨trivial, .inl rfl⟩⟩
  · simp only [h, if_false]
    exact ⟨_, _, rfl, .inl rfl⟩
theorem mut_gen (hev : ∀ e, EvOk Q clV cl e) (hevs : ∀ es, EvsOk Q clV cl es) (h : Iv b A M σV σ O R) (hc : Clo M) (hb : b ≤ M.length) (hA : ∀ a, b ≤ a → A a) (m : Mt) (o : E) (es : List E) {k : EV × VD → RSV} {k' : W → Hm → RS}
    (hk : ∀ (q : Nat × List P) (vds : List VD) (r : EV × VD) (w : W) (L : Hm) (a : Nat) (o' : MO) (On' On : List Nat) (O1 O' R' : Nat → List Nat), chgV (mutV m vds) (mutD m vds) q (afts vds (occs es) σV) = some r → Iv b A ((M ++ L).set a o') r.1 σ O' R' → Clo ((M ++ L).set a o') → a < M.length → (∃ i, a ∈ O i) → (∀ i c, c ∈ O1 i → c ∈ O i) → (∀ i c, c ∈ O' i → (∃ j, c ∈ O1 j ∧ c ∉ On) ∨ c ∈ On') → (∀ c ∈ On', (∃ j, c ∈ O j) ∨ M.length ≤ c) →
      (m = .pop → ∃ Rr, Rd ((M ++ L).set a o') 0 w r.2.1 [] Rr ∧ r.2.2 = 0 ∧ (∀ c ∈ Rr, c ∉ On' ∧ A c ∧ (c ∈ On ∨ ∀ j, c ∉ O1 j)) ∧ M[a]? ≠ some o') → Pss b A M O (k r) ((tidy M (.ok w ((M ++ L).set a o'))).toS σ k')) :
    Pss b A M O ((plV Q clV o σV).toS σV fun q => match mayV m q σV with
        | true => (evsV Q clV es σV).toS σV fun ws => match chgV (mutV m ws) (mutD m ws) q (afts ws (occs es) σV) with
          | some r => k r
          | none => .bad
        | false => .bad) ((tidy M (ev Q cl (.mth m o es) σ M)).toS σ k') := by
  cases hp : plV Q clV o σV with
  | bad => trivial
  | err c fs => exact absurd hp (pl_noerr o)
  | ok q =>
    simp only [RV.toS_ok]
    cases hm : mayV m q σV with
    | false => trivial
    | true =>
      simp only
      unfold mayV at hm
      cases hv : σV[q.1]? with
      | none => rw [hv] at hm; cases hm
      | some ov =>
        cases ov with
        | none => rw [hv] at hm; cases hm
        | some v =>
          rw [hv] at hm
          simp only at hm
          cases hg : getV q.2 v.1 with
          | none => rw [hg] at hm; cases hm
          | some n =>
            rw [hg] at hm
            simp only [Option.bind_some] at hm
            cases hT : rcvV n with
            | none => rw [hT] at hm; cases hm
            | some T =>
              rw [hT] at hm
              simp only at hm
              obtain ⟨w, w0, L, f1, f2, f3, f4, f5⟩ := pl_of hev o h hc hp hv hg
              have hrc := rcv_of f5 hT
              have hev2 : ev Q cl (.mth m o es) σ M = (evs Q cl es σ (M ++ L)).bnd fun ws M2 => mthV m T w ws M2 := by
                show ((ev Q cl o σ M).bnd fun w M1 => match rcv M1 w with
                  | some T => if mthOk m T then (evs Q cl es σ M1).bnd fun ws M2 => mthV m T w ws M2 else .bad
                  | none => .bad) = _
                rw [f1]
                simp only [Mi.R.bnd_ok, hrc, hm, if_true]
              rw [hev2]
              have hL := h.ext L
              have hbL : b ≤ (M ++ L).length := by rw [List.length_append]; omega
              have p := hL.evs f2 (hevs es)
              revert p
              cases evsV Q clV es σV with
              | bad => intro _; trivial
              | err c fs =>
                rintro ⟨L2, e, hc2⟩
                rw [e]
                simp only [Mi.R.bnd_err, RV.toS_err]
                rw [List.append_assoc]
                simp only [tidy, take_app, if_true, Mi.R.toS_err]
                exact ⟨σ, M, O, R, rfl, h, hc, Fr.refl⟩
              | ok vds =>
                rintro ⟨us, L2, e, hc2, r⟩
                rw [e]
                simp only [Mi.R.bnd_ok, RV.toS_ok]
                obtain ⟨O1, R1, Ov, Rv, h1, s, pn, ho⟩ := hL.afts hbL hA r
                cases hch : chgV (mutV m vds) (mutD m vds) q (afts vds (occs es) σV) with
                | none => trivial
                | some r =>
                  simp only
                  obtain ⟨a, dn, vn, vn', On, Rn, c1, c2, c3, c4, c5, c6, c7, ⟨v2, c8, c9⟩, key⟩ := chg_of (mutV_nd (m := m) (vds := vds)) h1 hch f3
                  have hwa : w = .ref a := by
                    have := ptr_ext L2 f4
                    rw [c1] at this
                    cases this
                    rfl
                  subst hwa
                  have hvn : n = vn := by
                    obtain ⟨R', f6, _⟩ := f5
                    exact rd_fun _ _ (rd_ext L2 f6) c3
                  subst hvn
                  obtain ⟨o', w', On', Rn', d1, d2, d3⟩ := mut_of c2 c3 c4 pn.rd pn.gd (fun c hc => ⟨fun hx => (pn.d1 c hc q.1).1 (c5 c hx), fun hx => (pn.d1 c hc q.1).2 (c6 c hx)⟩) (fun c hc hx => pn.d2 c hc q.1 (c5 c hx)) c7
                  obtain ⟨O', R', k1, k2, k3, k4⟩ := key o' On' Rn' Ov Rv d2 (fun c hc => ⟨pn.own c hc, pn.d1 c hc⟩) (fun c hc => ⟨pn.all c hc, pn.d2 c hc⟩) hA hc2
                  rw [d1 T hT]
                  have aO : a ∈ O q.1 := s.o q.1 a k3
                  have aM : a < M.length := (h.own q.1 a aO).2
                  rw [List.append_assoc] at k1 k2 ⊢
                  have := hk q vds r w' (L ++ L2) a o' On' On O1 O' R' hch k1 k2 aM ⟨_, aO⟩ s.o k4 (fun c hc => by
                    rcases d2.o c hc with h | h
                    · exact .inl ⟨q.1, s.o q.1 c (c5 c h)⟩
                    · have := ho c h
                      rw [List.length_append] at this
                      exact .inr (by omega)) (fun hm => by
                    obtain ⟨Rr, e1, e2, e3, e4⟩ := d3 hm
                    rw [List.append_assoc] at e1
                    refine ⟨Rr, e1, e2, fun c hc => ⟨(e3 c hc).1, ?_, ?_⟩, fun e5 => e4 ?_⟩
                    · rcases (e3 c hc).2 with h2 | h2
                      · exact hA c (h1.own q.1 c (c5 c h2)).1
                      · exact (h1.all q.1 c (c6 c h2)).1
                    · rcases (e3 c hc).2 with h2 | h2
                      · exact .inl h2
                      · exact .inr fun j hj => h1.sep q.1 j c (c6 c h2) hj
                    · rw [List.append_assoc, get_app aM]
                      exact e5)
                  exact this
theorem chg_end (hc : Clo M) (h : Iv b A M σV σ O R) {Mx : Hm} {s : EV} {O' R' : Nat → List Nat} (i1 : Iv b A Mx s σ O' R') (c1 : Clo Mx) (f1 : Fr M O Mx O') {w : W} : ∃ w' M3 O'' R'', tidy M (.ok w Mx) = .ok w' M3 ∧ Iv b A M3 s σ O'' R'' ∧ Clo M3 ∧ Fr M O M3 O'' := by
  obtain ⟨w', M3, e, h3⟩ := tidy_heap (M := M) (w := w) (Mx := Mx)
  rcases h3 with rfl | ⟨ht, h3⟩
  · exact ⟨w', M3, O', R', e, i1, c1, f1⟩
  · obtain ⟨L, rfl⟩ : ∃ L, Mx = M ++ L := ⟨Mx.drop M.length, by
      have := (List.take_append_drop M.length Mx).symm
      rw [ht] at this
      exact this⟩
    obtain ⟨O'', R'', i2, s2⟩ := i1.cut hc h.bel
    have f2 : Fr M O M O'' := ⟨Nat.le_refl _, fun _ _ _ => rfl, fun i a ha => f1.own i a (s2 i a ha)⟩
    rcases h3 with rfl | ⟨xs, hx, rfl⟩
    · exact ⟨w', _, O'', R'', e, i2, hc, f2⟩
    · cases hp : pures xs with
      | none => exact absurd hp hx
      | some ps =>
        have := pures_some hp
        subst this
        exact ⟨w', _, O'', R'', e, i2.ext _, clo_one hc (by rw [belows_mem]; intro w hw; obtain ⟨x, _, rfl⟩ := List.mem_map.mp hw; rfl), f2.trans (Fr.ex _)⟩
theorem set_fr {L : Hm} {a : Nat} {o' : MO} {O' : Nat → List Nat} (ha : ∃ i, a ∈ O i) (ho : ∀ i c, c ∈ O' i → (∃ j, c ∈ O j) ∨ M.length ≤ c) : Fr M O ((M ++ L).set a o') O' where
  le := by simp
  eq c hc hn := by
    have : a ≠ c := fun e => by
      subst e
      obtain ⟨i, hi⟩ := ha
      exact hn i hi
    rw [List.getElem?_set_ne this, get_app hc]
  own := ho
theorem exp_mut (hev : ∀ e, EvOk Q clV cl e) (hevs : ∀ es, EvsOk Q clV cl es) (h : Iv b A M σV σ O R) (hc : Clo M) (hb : b ≤ M.length) (hA : ∀ a, b ≤ a → A a) (m : Mt) (o : E) (es : List E) : Pss b A M O ((plV Q clV o σV).toS σV fun q => match mayV m q σV with
        | true => (evsV Q clV es σV).toS σV fun ws => match chgV (mutV m ws) (mutD m ws) q (afts ws (occs es) σV) with
          | some r => .nx r.1
          | none => .bad
        | false => .bad) (run Q cl (.exp (.mth m o es)) σ M) := by
  refine mut_gen hev hevs h hc hb hA m o es fun q vds r w L a o' On' On O1 O' R' hch k1 k2 aM aO s k4 k5 _ => ?_
  obtain ⟨w', M3, O'', R'', e, i, c, f⟩ := chg_end hc h k1 k2 (set_fr aO fun i c hc => by
    rcases k4 i c hc with ⟨j, hj, _⟩ | hj
    · exact .inl ⟨j, s j c hj⟩
    · exact k5 c hj) (w := w)
  rw [e]
  exact ⟨σ, M3, O'', R'', rfl, i, c, f⟩
theorem asg_pop (hev : ∀ e, EvOk Q clV cl e) (hevs : ∀ es, EvsOk Q clV cl es) (h : Iv b A M σV σ O R) (hc : Clo M) (hb : b ≤ M.length) (hA : ∀ a, b ≤ a → A a) (p : Pt) (o : E) (es : List E) : Pss b A M O ((plV Q clV o σV).toS σV fun q => match mayV .pop q σV with
        | true => (evsV Q clV es σV).toS σV fun ws => match chgV (mutV .pop ws) (mutD .pop ws) q (afts ws (occs es) σV) with
          | some r => match bindV p r.2 r.1 with
            | some σ' => .nx σ'
            | none => .bad
          | none => .bad
        | false => .bad) (run Q cl (.asg (.pt p) (.mth .pop o es)) σ M) := by
  refine mut_gen hev hevs h hc hb hA .pop o es fun q vds r w L a o' On' On O1 O' R' hch k1 k2 aM aO s k4 k5 k6 => ?_
  obtain ⟨Rr, e1, e2, e3, e4⟩ := k6 rfl
  have hne : ¬ ((M ++ L).set a o').take M.length = M := by
    intro e
    have h1 : (((M ++ L).set a o').take M.length)[a]? = some o' := by
      rw [List.getElem?_take_of_lt aM, List.getElem?_set_self (by rw [List.length_append]; omega)]
    rw [e] at h1
    exact e4 h1
  have ht : tidy M (.ok w ((M ++ L).set a o')) = .ok w ((M ++ L).set a o') := by simp only [tidy, hne, if_false]
  rw [ht]
  cases hbd : bindV p r.2 r.1 with
  | none => trivial
  | some σ' =>
    obtain ⟨r1, r2, d⟩ := r
    simp only at e1 e2 k1 hbd
    subst e2
    have pn : Pn b A ((M ++ L).set a o') w (r2, 0) [] Rr O' R' := ⟨e1, ⟨List.nodup_nil, by simp⟩, by simp, fun c hc => (e3 c hc).2.1, by simp, fun c hc i hx => by
      obtain ⟨h1, _, h3⟩ := e3 c hc
      rcases k4 i c hx with ⟨j, h4, h5⟩ | h4
      · rcases h3 with h3 | h3
        · exact h5 h3
        · exact h3 j h4
      · exact h1 h4⟩
    obtain ⟨τ, O'', R'', b1, b2, g⟩ := bind_iv p k1 pn hbd
    refine ⟨τ, _, O'', R'', ?_, b2, k2, ?_⟩
    · simp only [Mi.R.toS_ok, b1]
    · refine set_fr aO fun i c hc => ?_
      rcases g.o i c hc with ⟨j, hj⟩ | hj
      · rcases k4 j c hj with ⟨n, hn, _⟩ | hj
        · exact .inl ⟨n, s n c hn⟩
        · exact k5 c hj
      · simp at hj
theorem asg_idx (hev : ∀ e, EvOk Q clV cl e) (h : Iv b A M σV σ O R) (hc : Clo M) (hb : b ≤ M.length) (hA : ∀ a, b ≤ a → A a) (o i e : E) : Pss b A M O (runV Q clV (.asg (.idx o i) e) σV) (run Q cl (.asg (.idx o i) e) σ M) := by
  refine pss_ev Fr.refl h hc (hev e) fun v w L _ hc2 r => ?_
  obtain ⟨O1, R1, Ov, Rv, h1, s, pn, ho, _⟩ := h.aft hb hA r
  cases hp : plV Q clV o (aft v (occ e) σV) with
  | bad => trivial
  | err c fs => trivial
  | ok q =>
    cases hi : evV Q clV i (aft v (occ e) σV) with
    | bad => trivial
    | err c fs => trivial
    | ok y =>
      obtain ⟨y, dy⟩ := y
      cases y with
      | tup _ => trivial
      | nd _ _ => trivial
      | p y =>
        simp only
        cases hch : chgV (setVV y v.1) (v.1, 0) q (aft v (occ e) σV) with
        | none => trivial
        | some r =>
          simp only
          -- the place
          have hw0 : ∃ w0, σ[q.1]? = some (some w0) := by
            unfold chgV at hch
            cases hv : (aft v (occ e) σV)[q.1]? with
            | none => rw [hv] at hch; cases hch
            | some ov =>
              cases ov with
              | none => rw [hv] at hch; cases hch
              | some u => obtain ⟨w0, a, _⟩ := h1.rd _ _ hv; exact ⟨w0, a⟩
          obtain ⟨w0, hw0⟩ := hw0
          obtain ⟨_, _, vn0, _, _, _, _, _, _, _, _, _, _, ⟨v0, hv0, hg0⟩, _⟩ := chg_of (setVV_nd (y := y) (w := v.1)) h1 hch hw0
          obtain ⟨wo, w0', L2, f1, f2, f3, f4, f5⟩ := pl_of hev o h1 hc2 hp hv0 hg0
          rw [hw0] at f3
          cases f3
          have hL := h1.ext L2
          have p := hL.ev f2 (hev i)
          rw [hi] at p
          obtain ⟨x, L3, p1, p2, p3⟩ := p
          have hx := rs_pp p3
          subst hx
          have hL3 := hL.ext L3
          obtain ⟨a, dn, vn, vn', On, Rn, c1, c2, c3, c4, c5, c6, c7, _, key⟩ := chg_of (setVV_nd (y := y) (w := v.1)) hL3 hch hw0
          have hwa : wo = .ref a := by
            have := ptr_ext L3 f4
            rw [c1] at this
            cases this
            rfl
          subst hwa
          have pn3 := (pn.ext L2).ext L3
          obtain ⟨o', On', Rn', d1, d2⟩ := set_of (v := v) c2 c3 c4 pn3.rd (fun c hc => ⟨fun hx => (pn3.d1 c hc q.1).1 (c5 c hx), fun hx => (pn3.d1 c hc q.1).2 (c6 c hx)⟩) (fun c hc hx => pn3.d2 c hc q.1 (c5 c hx)) c7
          obtain ⟨O', R', k1, k2, k3, k4⟩ := key o' On' Rn' Ov Rv d2 (fun c hc => ⟨pn3.own c hc, pn3.d1 c hc⟩) (fun c hc => ⟨pn3.all c hc, pn3.d2 c hc⟩) hA p2
          refine ⟨σ, _, O', R', ?_, k1, k2, ?_⟩
          · rw [f1]
            simp only [Mi.R.toS_ok]
            rw [p1]
            simp only [Mi.R.toS_ok]
            rw [d1]
          · rw [List.append_assoc, List.append_assoc]
            refine set_fr ⟨q.1, s.o q.1 a k3⟩ fun j c hc => ?_
            rcases k4 j c hc with ⟨n, hn, _⟩ | hj
            · exact .inl ⟨n, s.o n c hn⟩
            · rcases d2.o c hj with h | h
              · exact .inl ⟨q.1, s.o q.1 c (c5 c h)⟩
              · exact .inr (ho c h)
def BodyOk (b : Nat) (A : Nat → Prop) (f : EV → RSV) (f' : En → Hm → RS) : Prop := ∀ M s σ O R, Iv b A M s σ O R → Clo M → b ≤ M.length → Pss b A M O (f s) (f' σ M)
def Fx (A : Nat → Prop) (M : Hm) (O : Nat → List Nat) (us : List W) (its : List V) : Prop := F2 (Al (fun a => A a ∧ ∀ i, a ∉ O i) M) us its
theorem al_fr {M' : Hm} {O' : Nat → List Nat} (f : Fr M O M' O') {w : W} {v : V} (h : Al (fun a => A a ∧ ∀ i, a ∉ O i) M w v) : Al (fun a => A a ∧ ∀ i, a ∉ O' i) M' w v := by
  obtain ⟨R, h, hR⟩ := h
  have hl := rd_lt _ h
  refine ⟨R, rd_agree _ h fun a ha => ?_, fun a ha => ⟨(hR a ha).1, fun i hi => ?_⟩⟩
  · rcases ha with ha | ha
    · simp at ha
    · exact f.eq a (hl a (.inr ha)) (hR a ha).2
  · rcases f.own i a hi with ⟨j, hj⟩ | hj
    · exact (hR a ha).2 j hj
    · have := hl a (.inr ha)
      omega
theorem for_of {pt : Pt} {f : EV → RSV} {f' : En → Hm → RS} (hf : BodyOk b A f f') {ok : Hm → Bool} {pins : List Nat} {Ms : Hm} (hok : ok = stays pins Ms) : ∀ (its : List V) {us : List W} {M : Hm} {σV : EV} {σ : En} {O R : Nat → List Nat}, Iv b A M σV σ O R → Clo M → b ≤ M.length → Fx A M O us its → (∀ k ∈ pins, k < M.length ∧ (∀ i, k ∉ O i) ∧ M[k]? = Ms[k]?) → Pss b A M O (forV pt f its σV) (forL pt f' ok us σ M)
  | [], us, M, σV, σ, O, R, h, hc, hb, hx, hp => by
    cases hx
    exact ⟨σ, M, O, R, rfl, h, hc, Fr.refl⟩
  | v :: its, us, M, σV, σ, O, R, h, hc, hb, hx, hp => by
    cases hx with
    | @cons w _ us _ a hx =>
      unfold forV forL
      cases e1 : bindV pt (v, 0) σV with
      | none => trivial
      | some s =>
        obtain ⟨Rv, q1, q2⟩ := a
        obtain ⟨τ, O1, R1, e2, h1, g⟩ := bind_iv pt h (v := (v, 0)) (w := w) (Ov := []) (Rv := Rv) ⟨q1, ⟨List.nodup_nil, by simp⟩, by simp, fun c hc => (q2 c hc).1, by simp, fun c hc i => (q2 c hc).2 i⟩ e1
        have f1 : Fr M O M O1 := ⟨Nat.le_refl _, fun _ _ _ => rfl, fun i c hc => by
          rcases g.o i c hc with h | h
          · exact .inl h
          · simp at h⟩
        simp only [e2]
        have p := hf M s τ O1 R1 h1 hc hb
        revert p
        cases f s with
        | bad => intro _; trivial
        | rt v =>
          rintro p
          have p' := pss_base f1 p
          obtain ⟨w, M2, e, p⟩ := p'
          rw [e]
          exact ⟨w, M2, rfl, p⟩
        | er c fs s2 =>
          rintro p
          have p' := pss_base f1 p
          obtain ⟨σ2, M2, O2, R2, e, p⟩ := p'
          rw [e]
          exact ⟨σ2, M2, O2, R2, rfl, p⟩
        | bk s2 =>
          rintro p
          have p' := pss_base f1 p
          obtain ⟨σ2, M2, O2, R2, e, p⟩ := p'
          rw [e]
          exact ⟨σ2, M2, O2, R2, rfl, p⟩
        | nx s2 =>
          rintro ⟨σ2, M2, O2, R2, e, i2, c2, f2⟩
          rw [e]
          have f3 := f1.trans f2
          have hp2 : ∀ k ∈ pins, k < M2.length ∧ (∀ i, k ∉ O2 i) ∧ M2[k]? = Ms[k]? := fun k hk => by
            obtain ⟨k1, k2, k3⟩ := hp k hk
            refine ⟨Nat.lt_of_lt_of_le k1 f3.le, fun i hi => ?_, by rw [f3.eq k k1 k2, k3]⟩
            rcases f3.own i k hi with ⟨j, hj⟩ | hj
            · exact k2 j hj
            · omega
          have hs : ok M2 = true := by
            rw [hok, stays, List.all_eq_true]
            intro k hk
            exact decide_eq_true (hp2 k hk).2.2
          simp only [hs, if_true]
          exact pss_base f3 (for_of hf hok its i2 c2 (Nat.le_trans hb f3.le) (hx.imp fun _ _ h => al_fr f3 h) hp2)
theorem whl_of {c : EV → RV VD} {f : EV → RSV} {c' : En → Hm → Mi.R W} {f' : En → Hm → RS} (hcd : ∀ M0 O0 M s σ O R, Fr M0 O0 M O → Iv b A M s σ O R → Clo M → ∀ (k : VD → RSV) (k' : W → Hm → RS), (∀ v w L, Clo (M ++ L) → (∀ x, v.1 = .p x → w = .p x) → Pss b A M0 O0 (k v) (k' w (M ++ L))) → Pss b A M0 O0 ((c s).toS s k) ((c' σ M).toS σ k')) (hf : BodyOk b A f f') : ∀ (n : Nat) {M : Hm} {σV : EV} {σ : En} {O R : Nat → List Nat}, Iv b A M σV σ O R → Clo M → b ≤ M.length → Pss b A M O (whlV c f n σV) (whlL c' f' n σ M)
  | 0, M, σV, σ, O, R, h, hc, hb => trivial
  | n + 1, M, σV, σ, O, R, h, hc, hb => by
    unfold whlV whlL
    refine hcd M O M σV σ O R Fr.refl h hc _ _ fun v w L hc2 hw => ?_
    obtain ⟨v, d⟩ := v
    cases v with
    | tup _ => trivial
    | nd _ _ => trivial
    | p x =>
      cases x with
      | bl t =>
        rw [hw _ rfl]
        have h2 := h.ext L
        have f1 : Fr M O (M ++ L) O := Fr.ex L
        have hb2 : b ≤ (M ++ L).length := by rw [List.length_append]; omega
        cases t with
        | false => exact ⟨σ, M ++ L, O, R, rfl, h2, hc2, f1⟩
        | true =>
          simp only
          have p := hf (M ++ L) σV σ O R h2 hc2 hb2
          revert p
          cases f σV with
          | bad => intro _; trivial
          | rt v =>
            intro p
            obtain ⟨w, M2, e, p⟩ := pss_base f1 p
            rw [e]
            exact ⟨w, M2, rfl, p⟩
          | er c fs s2 =>
            intro p
            obtain ⟨σ2, M2, O2, R2, e, p⟩ := pss_base f1 p
            rw [e]
            exact ⟨σ2, M2, O2, R2, rfl, p⟩
          | bk s2 =>
            intro p
            obtain ⟨σ2, M2, O2, R2, e, p⟩ := pss_base f1 p
            rw [e]
            exact ⟨σ2, M2, O2, R2, rfl, p⟩
          | nx s2 =>
            rintro ⟨σ2, M2, O2, R2, e, i2, c2, f2⟩
            rw [e]
            exact pss_base (f1.trans f2) (whl_of hcd hf n i2 c2 (Nat.le_trans hb2 f2.le))
      | _ => trivial
theorem pins_in {M : Hm} : ∀ {vs : List V} {ws : List W} {d : Nat} {O R : List Nat}, RdL M d ws vs O R → ∀ k ∈ pinsOf ws, k ∈ O ∨ k ∈ R
  | [], ws, d, O, R, h, k, hk => by
    obtain ⟨rfl, _, _⟩ := rdl_nil.mp h
    simp [pinsOf] at hk
  | v :: vs, ws, d, O, R, h, k, hk => by
    obtain ⟨w, ws', O1, O2, R1, R2, rfl, h1, h2, rfl, rfl⟩ := rdl_cons.mp h
    have rest : k ∈ pinsOf ws' → k ∈ O1 ++ O2 ∨ k ∈ R1 ++ R2 := fun hk => (pins_in h2 k hk).imp (fun h => List.mem_append_right _ h) (fun h => List.mem_append_right _ h)
    cases w with
    | ref a =>
      simp only [pinsOf] at hk
      rcases List.mem_cons.mp hk with rfl | hk
      · cases v with
        | p x => obtain ⟨e, _⟩ := rd_p.mp h1; cases e
        | tup xs => obtain ⟨_, e, _⟩ := rd_tup.mp h1; cases e
        | nd kk xs =>
          rcases rd_nd.mp h1 with ⟨a, o, X, Y, e, _, _, _, h5⟩ | ⟨_, _, e, _⟩
          · cases e
            rcases h5 with ⟨_, rfl, rfl⟩ | ⟨_, rfl, rfl⟩
            · exact .inr (List.mem_append_left _ List.mem_cons_self)
            · exact .inl (List.mem_append_left _ List.mem_cons_self)
          · cases e
      · exact rest hk
    | p x => exact rest hk
    | tup x => exact rest hk
    | fl x => exact rest hk
theorem pure_items {k : Ik} {vs its : List V} {ps : List P} (h : vpures vs = some ps) (e : itemsV k vs = some its) : ∃ qs : List P, its = qs.map .p := by
  have := vpures_some h
  subst this
  have hz : ∀ xs ys : List P, ∃ qs : List P, zipV (xs.map .p) (ys.map .p) = qs.map .p := by
    intro xs
    induction xs with
    | nil => intro ys; exact ⟨[], by cases ys <;> rfl⟩
    | cons x xs ih =>
      intro ys
      cases ys with
      | nil => exact ⟨[], rfl⟩
      | cons y ys =>
        obtain ⟨qs, e⟩ := ih ys
        exact ⟨.tup [x, y] :: qs, by rw [List.map_cons, List.map_cons, zipV, e]; rfl⟩
  have hs : ∀ (x : P) (ws : List V), seqV (.p x) = some ws → ∃ xs : List P, x = .tup xs ∧ ws = xs.map .p := by
    intro x ws h
    cases x with
    | tup xs => cases h; exact ⟨xs, rfl, rfl⟩
    | _ => cases h
  have one : ∀ {x : P} {r : List P}, V.p x :: r.map V.p = ps.map .p → ∃ y, ps = x :: y ∧ r.map V.p = y.map V.p := by
    intro x r h
    cases ps with
    | nil => cases h
    | cons q ps => injection h with h1 h2; injection h1 with h1; subst h1; exact ⟨ps, rfl, h2⟩
  unfold itemsV at e
  split at e
  · split at e
    · cases e; exact ⟨_, by rw [signsV, show (fun c : Nat => V.p (.str ⟨#[c]⟩)) = V.p ∘ (fun c : Nat => P.str ⟨#[c]⟩) from rfl, ← List.map_map]⟩
    · cases e
  · rename_i w _ heq
    cases ps with
    | nil => cases heq
    | cons x ps =>
      injection heq with h1 h2
      subst h1
      obtain ⟨xs, _, rfl⟩ := hs _ _ e
      exact ⟨xs, rfl⟩
  · split at e
    · cases e; exact ⟨_, by rw [rangeV, show (fun i : Nat => V.p (.int (0 + (i : Int)))) = V.p ∘ (fun i : Nat => P.int (0 + (i : Int))) from rfl, ← List.map_map]⟩
    · cases e
  · rename_i i j _
    split at e
    · cases e; exact ⟨_, by rw [rangeV, show (fun n : Nat => V.p (.int (i + (n : Int)))) = V.p ∘ (fun n : Nat => P.int (i + (n : Int))) from rfl, ← List.map_map]⟩
    · cases e
  · rename_i w heq
    cases ps with
    | nil => cases heq
    | cons x ps =>
      injection heq with h1 h2
      subst h1
      simp [V.isLst] at e
  · rename_i x y heq
    cases ps with
    | nil => cases heq
    | cons p ps =>
      cases ps with
      | nil => cases heq
      | cons q ps =>
        injection heq with h1 h2
        injection h2 with h2 h3
        subst h1 h2
        split at e
        · rename_i xs ys _ ex ey
          obtain ⟨xs', _, rfl⟩ := hs _ _ ex
          obtain ⟨ys', _, rfl⟩ := hs _ _ ey
          split at e
          · cases e; exact hz _ _
          · cases e
        · cases e
  · rename_i w heq
    cases ps with
    | nil => cases heq
    | cons x ps =>
      injection heq with h1 h2
      subst h1
      cases h3 : seqV (V.p x) with
      | none => rw [h3] at e; cases e
      | some us =>
        rw [h3] at e
        obtain ⟨xs, _, rfl⟩ := hs _ _ h3
        cases e
        exact ⟨xs.reverse, by rw [List.map_reverse]⟩
  · cases e
theorem for_gen (hevs : ∀ es, EvsOk Q clV cl es) (h : Iv b A M σV σ O R) (hc : Clo M) (hb : b ≤ M.length) (hA : ∀ a, b ≤ a → A a) {pt : Pt} {k : Ik} {src : List E} {f : EV → RSV} {f' : En → Hm → RS} (hf : BodyOk b A f f') :
    Pss b A M O ((evsV Q clV src σV).toS σV fun ws => match itemsV k (ws.map (·.1)) with
    | some its => forV pt f its (if (vpures (ws.map (·.1))).isSome then σV else frz (occs src) σV)
    | none => .bad) (match evs Q cl src σ M with
    | .ok ws M1 => match itemsOf k ws M1 with
      | some its =>
        let M2 := srcH M its M1
        forL pt f' (stays ((pinsOf ws).filter (· < M2.length)) M2) its σ M2
      | none => .bad
    | .err c fs M1 => .er c fs σ M1
    | .bad => .bad) := by
  have p := h.evs hc (hevs src)
  revert p
  cases evsV Q clV src σV with
  | bad => intro _; trivial
  | err c fs =>
    rintro ⟨L, e, hc2⟩
    rw [e]
    exact ⟨σ, M ++ L, O, R, rfl, h.ext L, hc2, Fr.ex L⟩
  | ok vs =>
    rintro ⟨ws, L, e, hc2, r⟩
    rw [e]
    simp only [RV.toS_ok]
    cases hi : itemsV k (vs.map (·.1)) with
    | none => trivial
    | some its =>
      have hal := als_fst (rst_als (fun a ha => .inl ha) r)
      obtain ⟨us, e1, h1⟩ := items_of hal hi
      rw [e1]
      simp only
      have key : ∀ {O1 R1 : Nat → List Nat} {s : EV} (L2 : Hm), Iv b A (M ++ L2) s σ O1 R1 → Clo (M ++ L2) → Fr M O (M ++ L2) O1 → Fx A (M ++ L2) O1 us its → (∀ k ∈ (pinsOf ws).filter (· < (M ++ L2).length), ∀ i, k ∉ O1 i) → Pss b A M O (forV pt f its s) (forL pt f' (stays ((pinsOf ws).filter (· < (M ++ L2).length)) (M ++ L2)) us σ (M ++ L2)) := by
        intro O1 R1 s L2 i1 c1 f1 x1 hp
        exact pss_base f1 (for_of hf rfl its i1 c1 (by rw [List.length_append]; omega) x1 fun k hk => ⟨by simpa using (List.mem_filter.mp hk).2, hp k hk, rfl⟩)
      by_cases hpv : (vpures (vs.map (·.1))).isSome = true
      · -- nothing that could change
        rw [if_pos hpv]
        obtain ⟨ps, hps⟩ := Option.isSome_iff_exists.mp hpv
        obtain ⟨qs, rfl⟩ := pure_items hps hi
        have hus := al_ps.mp h1
        subst hus
        have hpin : pinsOf ws = [] := by
          have h2 := vpures_some hps
          rw [h2] at hal
          have := al_ps.mp hal
          rw [this]
          clear this h2 hps hal hi e1 h1 e r
          induction ps with
          | nil => rfl
          | cons p ps ih => exact ih
        have hp : pures (qs.map W.p) = some qs := by
          have := f2_pures (A := A) (M := M) (al_ps.mpr rfl : F2 (Al A M) (qs.map W.p) (qs.map V.p))
          rw [this, vpures_map]
        have hs : srcH M (qs.map W.p) (M ++ L) = M := by
          unfold srcH
          rw [take_app, hp]
          simp
        rw [hs]
        have := key [] (s := σV) (O1 := O) (R1 := R) (by rw [List.append_nil]; exact h) (by rw [List.append_nil]; exact hc) (by rw [List.append_nil]; exact Fr.refl) (al_ps.mpr rfl) (by rw [hpin]; simp)
        rw [List.append_nil] at this
        exact this
      · rw [if_neg hpv]
        obtain ⟨O1, R1, i1, s1, z1, _⟩ := Iv.frz hA (occs src) h
        -- what is walked is not one's own any more
        have nO : ∀ a, Oc M O R (occs src) a → A a ∧ ∀ i, a ∉ O1 i := by
          intro a ha
          refine ⟨?_, fun i hi => ?_⟩
          · rcases ha with ha | ⟨j, _, ha | ha⟩
            · exact hA a (Nat.le_trans hb ha)
            · exact hA a (h.own j a ha).1
            · exact (h.all j a ha).1
          · have h3 := s1.o i a hi
            rcases ha with ha | ⟨j, hj, ha | ha⟩
            · have := (h.own i a h3).2
              omega
            · have := h.dis j i a ha h3
              subst this
              rw [z1 j hj] at hi
              simp at hi
            · exact h.sep j i a ha h3
        have x1 : F2 (Al (fun a => A a ∧ ∀ i, a ∉ O1 i) (M ++ L)) us its := h1.imp fun w v hv => al_imp hv nO
        have pin : ∀ k ∈ pinsOf ws, ∀ i, k ∉ O1 i := by
          intro k hk i
          obtain ⟨R2, q1, q2⟩ := al_l.mpr hal
          rcases pins_in q1 k hk with h | h
          · simp at h
          · exact (nO k (q2 k h)).2 i
        unfold srcH
        rw [take_app]
        split
        · rename_i hh
          obtain ⟨ps, hps⟩ := Option.isSome_iff_exists.mp hh.2
          have hus := pures_some hps
          have hvi : vpures its = some ps := by rw [← f2_pures h1]; exact hps
          have hvi := vpures_some hvi
          subst hus
          have := key [] (s := frz (occs src) σV) (O1 := O1) (R1 := R1) (by rw [List.append_nil]; exact i1) (by rw [List.append_nil]; exact hc) (by rw [List.append_nil]; exact ⟨Nat.le_refl _, fun _ _ _ => rfl, fun i a ha => .inl ⟨i, s1.o i a ha⟩⟩) (by rw [hvi]; exact al_ps.mpr rfl) (fun k hk => pin k (List.mem_filter.mp hk).1)
          rw [List.append_nil] at this
          exact this
        · exact key L (i1.ext L) hc2 (Fr.ext L s1) x1 (fun k hk => pin k (List.mem_filter.mp hk).1)
def SOk (Q : Pg) (clV : Nat → List V → RV VD) (cl : Nat → List W → Hm → Mi.R W) (s : S) : Prop := ∀ (b : Nat) (A : Nat → Prop), (∀ a, b ≤ a → A a) → BodyOk b A (runV Q clV s) (run Q cl s)
def SsOk (Q : Pg) (clV : Nat → List V → RV VD) (cl : Nat → List W → Hm → Mi.R W) (ss : List S) : Prop := ∀ (b : Nat) (A : Nat → Prop), (∀ a, b ≤ a → A a) → BodyOk b A (runsV Q clV ss) (runs Q cl ss)
theorem runV_exp (e : E) (he : ∀ m o es, e ≠ .mth m o es) (s : EV) : runV Q clV (.exp e) s = (evV Q clV e s).toS s fun _ => .nx s := by
  cases e with
  | mth m o es => exact absurd rfl (he m o es)
  | _ => rfl
theorem runV_asg (p : Pt) (e : E) (he : ∀ o es, e ≠ .mth .pop o es) (s : EV) : runV Q clV (.asg (.pt p) e) s = (evV Q clV e s).toS s fun v => match bindV p v (aft v (occ e) s) with
    | some σ' => .nx σ'
    | none => .bad := by
  cases e with
  | mth m o es =>
    cases m with
    | pop => exact absurd rfl (he o es)
    | _ => rfl
  | _ => rfl
theorem exp_ok (hev : ∀ e, EvOk Q clV cl e) (hevs : ∀ es, EvsOk Q clV cl es) (e : E) : SOk Q clV cl (.exp e) := by
  intro b A hA M s σ O R h hc hb
  by_cases he : ∃ m o es, e = .mth m o es
  · obtain ⟨m, o, es, rfl⟩ := he
    by_cases hm : m.chg = true
    · have := exp_mut hev hevs h hc hb hA m o es
      exact cast (by congr 1; exact (if_pos hm).symm) this
    · have := exp_gen (e := .mth m o es) h hc (hev _)
      exact cast (by congr 1; exact (if_neg hm).symm) this
  · rw [runV_exp e fun m o es h => he ⟨m, o, es, h⟩]
    exact exp_gen h hc (hev e)
theorem asg_ok (hev : ∀ e, EvOk Q clV cl e) (hevs : ∀ es, EvsOk Q clV cl es) (p : Pt) (e : E) : SOk Q clV cl (.asg (.pt p) e) := by
  intro b A hA M s σ O R h hc hb
  by_cases he : ∃ o es, e = .mth .pop o es
  · obtain ⟨o, es, rfl⟩ := he
    exact asg_pop hev hevs h hc hb hA p o es
  · rw [runV_asg p e fun o es h => he ⟨o, es, h⟩]
    exact asg_gen h hc hb hA (hev e) p
theorem ret_ok (hev : ∀ e, EvOk Q clV cl e) (e : E) : SOk Q clV cl (.ret e) := by
  intro b A hA M s σ O R h hc hb
  show Pss b A M O ((evR Q clV e s).toS s fun v => .rt v) (run Q cl (.ret e) σ M)
  unfold evR
  split
  · exact ret_var h hc hb _
  · rename_i i j
    split
    · exact ret_gen h hc hb hA (hev _)
    · rename_i hij
      exact ret_two h hc hb hA hij
  · exact ret_gen h hc hb hA (hev _)
mutual
theorem run_ok (hev : ∀ e, EvOk Q clV cl e) (hevs : ∀ es, EvsOk Q clV cl es) : ∀ s : S, SOk Q clV cl s
  | .exp e => exp_ok hev hevs e
  | .asg (.pt p) e => asg_ok hev hevs p e
  | .asg (.idx o i) e => fun b A hA M s σ O R h hc hb => asg_idx hev h hc hb hA o i e
  | .asg (.fld _ _) _ => fun b A hA M s σ O R h hc hb => trivial
  | .asg (.tup _) _ => fun b A hA M s σ O R h hc hb => trivial
  | .par i j x y => fun b A hA M s σ O R h hc hb => par_gen h hc hb hA (hev x) (hev y) i j
  | .ret e => ret_ok hev e
  | .retN => fun b A hA M s σ O R h hc hb => ⟨.p .non, M, rfl, hc, Nat.le_refl _, fun _ _ _ => rfl, rs_p⟩
  | .ite c x y => fun b A hA M s σ O R h hc hb => by
    refine pss_ev Fr.refl h hc (hev c) fun v w L _ hc2 r => ?_
    obtain ⟨v, d⟩ := v
    have f1 : Fr M O (M ++ L) O := Fr.ex L
    have hb2 : b ≤ (M ++ L).length := by rw [List.length_append]; omega
    cases v with
    | tup _ => trivial
    | nd _ _ => trivial
    | p z =>
      cases z with
      | bl t =>
        rw [rs_pp r]
        cases t with
        | true => exact pss_base f1 (runs_ok hev hevs x b A hA _ _ _ _ _ (h.ext L) hc2 hb2)
        | false => exact pss_base f1 (runs_ok hev hevs y b A hA _ _ _ _ _ (h.ext L) hc2 hb2)
      | _ => trivial
  | .for_ pt k src body => fun b A hA M s σ O R h hc hb => for_gen hevs h hc hb hA (runs_ok hev hevs body b A hA)
  | .whl c body => fun b A hA M s σ O R h hc hb => whl_of (c := fun σ => evV Q clV c σ) (c' := fun σ M => tidy M (ev Q cl c σ M)) (fun M0 O0 M s σ O R f h hc k k' hk => pss_ev f h hc (hev c) fun v w L _ hc2 r => hk v w L hc2 fun x e => by rw [e] at r; exact rs_pp r) (runs_ok hev hevs body b A hA) turns h hc hb
  | .brk => fun b A hA M s σ O R h hc hb => ⟨σ, M, O, R, rfl, h, hc, Fr.refl⟩
  | .pass => fun b A hA M s σ O R h hc hb => ⟨σ, M, O, R, rfl, h, hc, Fr.refl⟩
  | .raise _ _ => fun b A hA M s σ O R h hc hb => trivial
  | .try_ _ _ _ _ => fun b A hA M s σ O R h hc hb => trivial
theorem runs_ok (hev : ∀ e, EvOk Q clV cl e) (hevs : ∀ es, EvsOk Q clV cl es) : ∀ ss : List S, SsOk Q clV cl ss
  | [] => fun b A hA M s σ O R h hc hb => ⟨σ, M, O, R, rfl, h, hc, Fr.refl⟩
  | s :: ss => fun b A hA M τ σ O R h hc hb => pss_seq (run_ok hev hevs s b A hA M τ σ O R h hc hb) hb fun M' s' σ' O' R' h' hc' hb' => runs_ok hev hevs ss b A hA M' s' σ' O' R' h' hc' hb'
end
end
theorem call_ok (Q : Pg) : ∀ n, ClOk (callV Q n) (callN Q n)
  | 0 => fun f vs ws M A hc hA h => trivial
  | n + 1 => fun f vs ws M A hc hA h => by
    have hev := ev_ok (Q := Q) (call_ok Q n)
    have hevs := evs_ok (Q := Q) (call_ok Q n)
    unfold callV callN
    cases hd : Q.defs[f]? with
    | none => trivial
    | some d =>
      simp only
      rw [← h.len]
      split
      · rename_i hl
        -- the names at the start
        have hiv : ∃ R, Iv M.length A M (startV d vs) (startE d ws) (fun _ => []) R := by
          have hs : ∀ i : Nat, ∃ R : List Nat, (∀ a ∈ R, A a ∧ a < M.length) ∧ ∀ v, (startV d vs)[i]? = some (some v) → ∃ w, (startE d ws)[i]? = some (some w) ∧ Rd M v.2 w v.1 [] R := by
            intro i
            unfold startV startE
            by_cases hi : i < vs.length
            · cases hv : vs[i]? with
              | none => rw [List.getElem?_eq_none_iff] at hv; omega
              | some v =>
                obtain ⟨w, hw, R, hr, hR⟩ := h.at' i v hv
                refine ⟨R, fun a ha => ⟨hR a ha, rd_lt _ hr a (.inr ha)⟩, fun u hu => ?_⟩
                rw [List.getElem?_append_left (by rw [List.length_map]; exact hi), List.getElem?_map, hv] at hu
                cases hu
                refine ⟨w, ?_, hr⟩
                rw [List.getElem?_append_left (by rw [List.length_map, h.len]; exact hi), List.getElem?_map, hw]
                rfl
            · refine ⟨[], by simp, fun u hu => ?_⟩
              rw [List.getElem?_append_right (by rw [List.length_map]; omega)] at hu
              rw [List.getElem?_replicate] at hu
              split at hu <;> cases hu
          refine ⟨fun i => (hs i).choose, ⟨?_, ?_, ?_, ?_, ?_, ?_, ?_, ?_⟩⟩
          · simp [startV, startE, h.len]
          · intro i v e
            exact (hs i).choose_spec.2 v e
          · intro i; exact List.nodup_nil
          · intro i j a ha; simp at ha
          · intro i j a _; simp
          · intro i a ha; simp at ha
          · intro i a ha; exact (hs i).choose_spec.1 a ha
          · intro i w e
            unfold startE at e
            by_cases hi : i < ws.length
            · rw [List.getElem?_append_left (by rw [List.length_map]; exact hi), List.getElem?_map] at e
              cases hw : ws[i]? with
              | none => rw [hw] at e; cases e
              | some u =>
                rw [hw] at e
                cases e
                exact belows_mem.mp (als_below h) w (List.mem_of_getElem? hw)
            · rw [List.getElem?_append_right (by rw [List.length_map]; omega)] at e
              rw [List.getElem?_replicate] at e
              split at e <;> cases e
        obtain ⟨R, hiv⟩ := hiv
        have p := runs_ok hev hevs d.body M.length A hA M _ _ _ _ hiv hc (Nat.le_refl _)
        refine pst_tidy hc hA ?_
        have ext : ∀ M' : Hm, M.length ≤ M'.length → (∀ a, a < M.length → M'[a]? = M[a]?) → ∃ L, M' = M ++ L := by
          intro M' hl he
          refine ⟨M'.drop M.length, ?_⟩
          rw [← List.take_append_drop M.length M']
          congr 1
          · apply List.ext_getElem?
            intro i
            by_cases hi : i < M.length
            · rw [List.getElem?_take_of_lt hi, he i hi]
            · rw [List.getElem?_eq_none_iff.mpr (by simp; omega), List.getElem?_eq_none_iff.mpr (by omega)]
          · simp
        revert p
        cases runsV Q (callV Q n) d.body (startV d vs) with
        | bad => intro _; trivial
        | bk s => rintro ⟨σ', M', O', R', e, _⟩; trivial
        | nx s =>
          rintro ⟨σ', M', O', R', e, i, c, f⟩
          rw [e]
          obtain ⟨L, rfl⟩ := ext M' f.le fun a ha => f.eq a ha (by simp)
          exact ⟨.p .non, L, rfl, c, rs_p⟩
        | er cc fs s =>
          rintro ⟨σ', M', O', R', e, i, c, f⟩
          rw [e]
          obtain ⟨L, rfl⟩ := ext M' f.le fun a ha => f.eq a ha (by simp)
          exact ⟨L, rfl, c⟩
        | rt v =>
          rintro ⟨w, M', e, c, hl, he, r⟩
          rw [e]
          obtain ⟨L, rfl⟩ := ext M' hl fun a ha => he a ha (by simp)
          exact ⟨w, L, rfl, c, r⟩
      · trivial
theorem law_of {Q : Pg} {n f : Nat} {ns : List Int} {d : Nat} (h : callV Q n f [.nd .fl (ns.map fun z => .p (.int z))] = .ok (.p (.bl true), d)) : ∃ M, callN Q n f [Mi.script ns] [] = .ok (.p (.bl true)) M := by
  have p := call_ok Q n f [.nd .fl (ns.map fun z => .p (.int z))] [Mi.script ns] [] (fun _ => True) clo_nil (fun _ _ => trivial) (.cons ⟨[], rd_nd.mpr (.inr ⟨rfl, ns.map .int, rfl, rfl, by rw [List.map_map]; rfl, rfl, rfl⟩), by simp⟩ .nil)
  rw [h] at p
  obtain ⟨w, L, e, _, r⟩ := p
  rw [e, rs_pp r]
  exact ⟨_, rfl⟩
end Vl

namespace Vl
open PySem Mi PySem.W
local macro_rules | `(tactic| array_get_dec) => `(tactic| first | assumption | omega | (simp only [big, List.length_map, List.length_append, List.length_cons, List.length_nil, List.length_reverse, List.length_finRange, List.length_range, List.length_set] <;> omega) | (simp; done))
section
variable {α β γ : Type} [DecidableEq α] [DecidableEq β] [DecidableEq γ]
class Sm (α : Type) [DecidableEq α] [Pd α] : Prop where
  dep : Datum.depth α ≤ 50
  kdl : Pd.kd α ≤ 8
instance : Sm Int := ⟨by decide, by decide⟩
instance : Sm Str := ⟨by decide, by decide⟩
instance : Sm (Int × Int) := ⟨by decide, by decide⟩
instance : Sm ((Int × Int) × (Int × Int)) := ⟨by decide, by decide⟩
instance : Sm (((Int × Int) × (Int × Int)) × Str) := ⟨by decide, by decide⟩
def vn [Pd α] (a : α) : V := .p (Pd.enc a)
def vl [Pd α] (xs : List α) : V := .lst (xs.map vn)
theorem vn_def [Pd α] (a : α) : vn a = .p (Pd.enc a) := id rfl
theorem vl_def [Pd α] (xs : List α) : vl xs = .lst (xs.map vn) := id rfl
@[simp] theorem vn_inj [Pd α] (a b : α) : (vn a = vn b) = (a = b) := by
  refine propext ⟨fun h => ?_, fun h => by rw [h]⟩
  injection h with h
  exact enc_inj h
theorem map_vn [Pd α] (xs : List α) : xs.map vn = (xs.map Pd.enc).map V.p := by rw [List.map_map]; rfl
@[simp] theorem vpures_vn [Pd α] (xs : List α) : vpures (xs.map vn) = some (xs.map Pd.enc) := by rw [map_vn, vpures_map]
@[simp] theorem vpures_nil : vpures [] = some [] := id rfl
@[simp] theorem vpures_cons [Pd α] (a : α) (r : List V) : vpures (vn a :: r) = (vpures r).map (Pd.enc a :: ·) := id rfl
@[simp] theorem vpures_vl [Pd α] (a : List α) (r : List V) : vpures (vl a :: r) = none := id rfl
@[simp] theorem vpures_nd (k : Kd) (a : List V) (r : List V) : vpures (.nd k a :: r) = none := id rfl
@[simp] theorem fullV_vn [Pd α] (d : Nat) (a : α) : fullV d (vn a) = true := by unfold vn fullV; rfl
@[simp] theorem fullV_p (d : Nat) (x : P) : fullV d (.p x) = true := by unfold fullV; rfl
@[simp] theorem fullVs_vn [Pd α] (d : Nat) : ∀ xs : List α, fullVs d (xs.map vn) = true
  | [] => by unfold fullVs; rfl
  | x :: xs => by rw [List.map_cons, fullVs, fullV_vn, fullVs_vn d xs]; rfl
@[simp] theorem fullV_vl [Pd α] (d : Nat) (xs : List α) : fullV (d + 1) (vl xs) = true := by
  unfold vl fullV
  rw [fullVs_vn]
  simp
@[simp] theorem fullV_vl1 [Pd α] (xs : List α) : fullV 1 (vl xs) = true := fullV_vl 0 xs
@[simp] theorem fullV_vl9 [Pd α] (xs : List α) : fullV 9 (vl xs) = true := fullV_vl 8 xs
@[simp] theorem mind_nil : mind [] = 8 := id rfl
@[simp] theorem mind_vn [Pd α] (a : α) (d : Nat) (r : List VD) : mind ((vn a, d) :: r) = mind r := id rfl
@[simp] theorem mind_pp (a : P) (d : Nat) (r : List VD) : mind ((.p a, d) :: r) = mind r := id rfl
@[simp] theorem mind_vl [Pd α] (a : List α) (d : Nat) (r : List VD) : mind ((vl a, d) :: r) = min d (mind r) := id rfl
@[simp] theorem mind_map [Pd α] {δ : Type} (f : δ → α) (d : δ → Nat) : ∀ xs : List δ, mind (xs.map fun x => (vn (f x), d x)) = 8
  | [] => rfl
  | x :: xs => by rw [List.map_cons, mind_vn, mind_map f d xs]
variable (Q : Pg) (cl : Nat → List V → RV VD)
@[simp] theorem evV_var (i : Nat) (σ : EV) : evV Q cl (.var i) σ = match σ[i]? with
    | some (some (v, _)) => .ok (v, 0)
    | _ => .bad := id rfl
@[simp] theorem evV_int (i : Int) (σ : EV) : evV Q cl (.cst (.int i)) σ = .ok (vn i, 0) := id rfl
@[simp] theorem evV_str (i : Str) (σ : EV) : evV Q cl (.cst (.str i)) σ = .ok (vn i, 0) := id rfl
@[simp] theorem evV_bl (i : Bool) (σ : EV) : evV Q cl (.cst (.bl i)) σ = .ok (.p (.bl i), 0) := id rfl
@[simp] theorem evV_non (σ : EV) : evV Q cl (.cst .non) σ = .ok (.p .non, 0) := id rfl
@[simp] theorem evV_gint (x : Str) (i : Int) (σ : EV) : evV Q cl (.glb x (.int i)) σ = .ok (vn i, 0) := id rfl
@[simp] theorem evV_gstr (x : Str) (i : Str) (σ : EV) : evV Q cl (.glb x (.str i)) σ = .ok (vn i, 0) := id rfl
theorem evsV_len : ∀ (es : List E) {σ : EV} {ws : List VD}, evsV Q cl es σ = .ok ws → ws.length = es.length
  | [], σ, ws, h => by
    have h : RV.ok [] = RV.ok ws := h
    injection h with h
    rw [← h]; rfl
  | e :: es, σ, ws, h => by
    have h : ((evV Q cl e σ).bnd fun w => (evsV Q cl es σ).bnd fun ws => .ok (w :: ws)) = .ok ws := h
    cases h1 : evV Q cl e σ with
    | bad => rw [h1] at h; cases h
    | err c fs => rw [h1] at h; cases h
    | ok w =>
      rw [h1] at h
      simp only [RV.bnd_ok] at h
      cases h2 : evsV Q cl es σ with
      | bad => rw [h2] at h; cases h
      | err c fs => rw [h2] at h; cases h
      | ok us =>
        rw [h2] at h
        simp only [RV.bnd_ok, RV.ok.injEq] at h
        rw [← h, List.length_cons, List.length_cons, evsV_len es h2]
@[simp] theorem evV_tup (es : List E) (σ : EV) (hl : es.length ≤ 1000) : evV Q cl (.tup es) σ = (evsV Q cl es σ).bnd fun ws => .ok (mkTupV (ws.map (·.1)), mind ws) := by
  show ((evsV Q cl es σ).bnd fun ws => if ws.length ≤ big then .ok (mkTupV (ws.map (·.1)), mind ws) else .bad) = _
  cases h : evsV Q cl es σ with
  | bad => rfl
  | err c fs => rfl
  | ok ws =>
    have := evsV_len Q cl es h
    simp only [RV.bnd_ok]
    rw [if_pos (by simp only [big]; omega)]
@[simp] theorem evV_lst (es : List E) (σ : EV) (hl : es.length ≤ 1000) : evV Q cl (.lst es) σ = (evsV Q cl es σ).bnd fun ws => .ok (.lst (ws.map (·.1)), 1 + mind ws) := by
  show ((evsV Q cl es σ).bnd fun ws => if ws.length ≤ big then .ok (V.lst (ws.map (·.1)), 1 + mind ws) else .bad) = _
  cases h : evsV Q cl es σ with
  | bad => rfl
  | err c fs => rfl
  | ok ws =>
    have := evsV_len Q cl es h
    simp only [RV.bnd_ok]
    rw [if_pos (by simp only [big]; omega)]
@[simp] theorem evV_bin (o : Op) (a b : E) (σ : EV) : evV Q cl (.bin o a b) σ = (evV Q cl a σ).bnd fun x => (evV Q cl b σ).bnd fun y => opVV o x.1 y.1 := id rfl
def negV : V → RV VD
  | .p (.int i) => rP (.int (-i))
  | _ => .bad
@[simp] theorem evV_neg (a : E) (σ : EV) : evV Q cl (.neg a) σ = (evV Q cl a σ).bnd fun x => negV x.1 := id rfl
@[simp] theorem negV_int (i : Int) : negV (vn i) = .ok (vn (-i), 0) := id rfl
@[simp] theorem evV_cmp (o : CmpOp) (a b : E) (σ : EV) : evV Q cl (.cmp o a b) σ = (evV Q cl a σ).bnd fun x => (evV Q cl b σ).bnd fun y => rB (cmpVV o x.1 y.1) := id rfl
def chnVV (x : Option Bool) (r : RV VD) : RV VD := match x with
  | some true => r
  | some false => rP (.bl false)
  | none => .bad
def andVV (x : V) (r : RV VD) : RV VD := match x with
  | .p (.bl true) => r
  | .p (.bl false) => rP (.bl false)
  | _ => .bad
def orVV (x : V) (r : RV VD) : RV VD := match x with
  | .p (.bl true) => rP (.bl true)
  | .p (.bl false) => r
  | _ => .bad
def notVV : V → RV VD
  | .p (.bl c) => rP (.bl (!c))
  | _ => .bad
@[simp] theorem evV_chn (o o' : CmpOp) (a b c : E) (σ : EV) : evV Q cl (.chn o o' a b c) σ = (evV Q cl a σ).bnd fun x => (evV Q cl b σ).bnd fun y => chnVV (cmpVV o x.1 y.1) ((evV Q cl c σ).bnd fun z => rB (cmpVV o' y.1 z.1)) := id rfl
@[simp] theorem evV_and (a b : E) (σ : EV) : evV Q cl (.and a b) σ = (evV Q cl a σ).bnd fun x => andVV x.1 (evV Q cl b σ) := id rfl
@[simp] theorem evV_or (a b : E) (σ : EV) : evV Q cl (.or a b) σ = (evV Q cl a σ).bnd fun x => orVV x.1 (evV Q cl b σ) := id rfl
@[simp] theorem evV_not (a : E) (σ : EV) : evV Q cl (.not a) σ = (evV Q cl a σ).bnd fun x => notVV x.1 := id rfl
@[simp] theorem chnVV_bl (c : Bool) (r : RV VD) : chnVV (some c) r = if c = true then r else .ok (.p (.bl false), 0) := by cases c <;> rfl
@[simp] theorem andVV_bl (c : Bool) (r : RV VD) : andVV (.p (.bl c)) r = if c = true then r else .ok (.p (.bl false), 0) := by cases c <;> rfl
@[simp] theorem orVV_bl (c : Bool) (r : RV VD) : orVV (.p (.bl c)) r = if c = true then .ok (.p (.bl true), 0) else r := by cases c <;> rfl
@[simp] theorem notVV_bl (c : Bool) : notVV (.p (.bl c)) = .ok (.p (.bl (!c)), 0) := id rfl
@[simp] theorem evV_idx (a b : E) (σ : EV) : evV Q cl (.idx a b) σ = (evV Q cl a σ).bnd fun x => (evV Q cl b σ).bnd fun y => idxVV x y.1 := id rfl
@[simp] theorem evV_slc (a : E) (lo hi : List E) (σ : EV) : evV Q cl (.slc a lo hi) σ = (evV Q cl a σ).bnd fun x => (evsV Q cl lo σ).bnd fun l => match partOfV l with
    | some l' => (evsV Q cl hi σ).bnd fun h => match partOfV h with
      | some h' => slcVV x l' h'
      | none => .bad
    | none => .bad := id rfl
@[simp] theorem evV_rvs (a : E) (σ : EV) : evV Q cl (.rvs a) σ = (evV Q cl a σ).bnd fun x => rvsVV x.1 := id rfl
def srsVV (x : V) : RV VD := match (pureV x).bind sortSetV with
  | some ys => rL ys
  | none => .bad
@[simp] theorem evV_srs (a : E) (σ : EV) : evV Q cl (.srs a) σ = (evV Q cl a σ).bnd fun x => srsVV x.1 := id rfl
def lnsVV (x : V) : RV VD := rO (((pureV x).bind lenSetV).map fun n : Nat => .int (n : Int))
@[simp] theorem evV_lns (a : E) (σ : EV) : evV Q cl (.lns a) σ = (evV Q cl a σ).bnd fun x => lnsVV x.1 := id rfl
@[simp] theorem evV_call (f : Nat) (es : List E) (σ : EV) : evV Q cl (.call f es) σ = (evsV Q cl es σ).bnd fun ws => cl f (ws.map (·.1)) := id rfl
@[simp] theorem evV_blt (b : B) (es : List E) (σ : EV) : evV Q cl (.blt b es) σ = (evsV Q cl es σ).bnd fun ws => bltVV b ws := id rfl
@[simp] theorem evV_isi (a : E) (ts : List Ty) (σ : EV) : evV Q cl (.isi a ts) σ = (evV Q cl a σ).bnd fun w => rB (isTysV Q w.1 ts) := id rfl
@[simp] theorem evV_mth (m : Mt) (o : E) (es : List E) (σ : EV) : evV Q cl (.mth m o es) σ = (evV Q cl o σ).bnd fun w => match rcvV w.1 with
    | some T => if mthOk m T then (evsV Q cl es σ).bnd fun ws => mthVV m w ws else .bad
    | none => .bad := id rfl
@[simp] theorem evV_dct0 (σ : EV) : evV Q cl (.dct []) σ = .ok (.dic [] [], 1) := id rfl
@[simp] theorem evsV_nil (σ : EV) : evsV Q cl [] σ = .ok [] := id rfl
@[simp] theorem evsV_cons (e : E) (es : List E) (σ : EV) : evsV Q cl (e :: es) σ = (evV Q cl e σ).bnd fun w => (evsV Q cl es σ).bnd fun ws => .ok (w :: ws) := id rfl
def lcT (own : List Nat) (pt : Pt) (cs : List E) (e : E) (σ : EV) (w : V) : RV (Option VD) := match bindV pt (w, 0) (own.foldr (fun i s => s.set i none) σ) with
  | some σ' => match cs with
    | [] => (evV Q cl e σ').bnd fun v => .ok (some v)
    | [c] => (evV Q cl c σ').bnd fun b => match b.1 with
      | .p (.bl true) => (evV Q cl e σ').bnd fun v => .ok (some v)
      | .p (.bl false) => .ok none
      | _ => .bad
    | _ => .bad
  | none => .bad
def bndP (o : Option EV) (k : EV → RV (Option VD)) : RV (Option VD) := match o with
  | some σ => k σ
  | none => .bad
omit Q cl in
@[simp] theorem bndP_some (σ : EV) (k : EV → RV (Option VD)) : bndP (some σ) k = k σ := id rfl
def tstL (v : V) (r : RV (Option VD)) : RV (Option VD) := match v with
  | .p (.bl true) => r
  | .p (.bl false) => .ok none
  | _ => .bad
omit Q cl in
@[simp] theorem tstL_bl (b : Bool) (r : RV (Option VD)) : tstL (.p (.bl b)) r = if b = true then r else .ok none := by cases b <;> rfl
@[simp] theorem lcT0 (own : List Nat) (pt : Pt) (e : E) (σ : EV) (w : V) : lcT Q cl own pt [] e σ w = bndP (bindV pt (w, 0) (own.foldr (fun i s => s.set i none) σ)) fun σ' => (evV Q cl e σ').bnd fun v => .ok (some v) := by
  unfold lcT bndP
  cases bindV pt (w, 0) (own.foldr (fun i s => s.set i none) σ) <;> rfl
@[simp] theorem lcT1 (own : List Nat) (pt : Pt) (c e : E) (σ : EV) (w : V) : lcT Q cl own pt [c] e σ w = bndP (bindV pt (w, 0) (own.foldr (fun i s => s.set i none) σ)) fun σ' => (evV Q cl c σ').bnd fun b => tstL b.1 ((evV Q cl e σ').bnd fun v => .ok (some v)) := by
  unfold lcT bndP
  cases bindV pt (w, 0) (own.foldr (fun i s => s.set i none) σ) <;> rfl
theorem evV_lc (own : List Nat) (pt : Pt) (k : Ik) (src cs : List E) (e : E) (σ : EV) : evV Q cl (.lc own pt k src cs e) σ = (evsV Q cl src σ).bnd fun ws => match itemsV k (ws.map (·.1)) with
    | some its => lcV_ (lcT Q cl own pt cs e σ) its []
    | none => .bad := by
  rw [evV]
  rfl
omit Q cl in
@[simp] theorem add_int (i j : Int) : opVV .add (vn i) (vn j) = .ok (vn (i + j), 0) := id rfl
omit Q cl in
@[simp] theorem sub_int (i j : Int) : opVV .sub (vn i) (vn j) = .ok (vn (i - j), 0) := id rfl
omit Q cl in
@[simp] theorem mul_int (i j : Int) (h : -18446744073709551616 < j ∧ j < 18446744073709551616) : opVV .mul (vn i) (vn j) = .ok (vn (i * j), 0) := by
  show (if mulOk i j then _ else _) = _
  rw [if_pos (by unfold mulOk; simp only [Bool.or_eq_true, Bool.and_eq_true, decide_eq_true_eq]; omega)]
  rfl
omit Q cl in
@[simp low] theorem mul_intL (i j : Int) (h : -18446744073709551616 < i ∧ i < 18446744073709551616) : opVV .mul (vn i) (vn j) = .ok (vn (i * j), 0) := by
  show (if mulOk i j then _ else _) = _
  rw [if_pos (by unfold mulOk; simp only [Bool.or_eq_true, Bool.and_eq_true, decide_eq_true_eq]; omega)]
  rfl
omit Q cl in
@[simp] theorem mod_int (i j : Int) (h : 0 < j) : opVV .mod (vn i) (vn j) = .ok (vn (i % j), 0) := by
  show (if 0 < j then _ else _) = _
  rw [if_pos h]
  rfl
omit Q cl in
@[simp] theorem fdiv_int (i j : Int) (h : 0 < j ∧ j < 1073741824) : opVV .fdiv (vn i) (vn j) = .ok (vn (i / j), 0) := by
  show (if 0 < j ∧ j < 1073741824 then _ else _) = _
  rw [if_pos h]
  rfl
omit Q cl in
@[simp] theorem pow_int (i j : Int) (h : 0 ≤ j ∧ j ≤ 1000000 ∧ i.natAbs < 2 ^ 64) : opVV .pow (vn i) (vn j) = .ok (vn (i ^ j.toNat), 0) := by
  show (if _ then _ else _) = _
  rw [if_pos h]
  rfl
omit Q cl in
@[simp high] theorem pow_109 : opVV .pow (vn (10 : Int)) (vn (9 : Int)) = .ok (vn (1000000000 : Int), 0) := by
  rw [pow_int _ _ (by decide)]
  rfl
omit Q cl in
@[simp] theorem add_str (x y : Str) (h : x.length + y.length ≤ big) : opVV .add (vn x) (vn y) = .ok (vn (x ++ y), 0) := if_pos h
omit Q cl in
@[simp] theorem add_vl [Pd α] (x y : List α) (h : x.length + y.length ≤ big) : opVV .add (vl x) (vl y) = .ok (vl (x ++ y), 1) := by
  show (if (x.map vn).length + (y.map vn).length ≤ big then RV.ok (V.lst (x.map vn ++ y.map vn), 1) else _) = _
  rw [List.length_map, List.length_map, if_pos h, ← List.map_append]
  rfl
end
section
variable {α β γ : Type} [DecidableEq α] [DecidableEq β] [DecidableEq γ]
@[simp] theorem mkTup2 [Pd α] [Pd β] (a : α) (b : β) : mkTupV [vn a, vn b] = vn (a, b) := id rfl
theorem pr_eta [Pd α] [Pd β] (p : α × β) : vn p = .p (.tup [Pd.enc p.1, Pd.enc p.2]) := id rfl
theorem data_vn [Pd α] [Sm α] (a : α) : dataV (vn a) = some (Datum.toD a) := by
  have h := enc_dep a Sm.dep
  unfold dataV
  have : toDV deepest (vn a) = some (Pd.enc a).toD := id rfl
  rw [this]
  simp only
  rw [if_pos (by omega), Pd.encD]
theorem mapO_vn [Pd α] (n : Nat) : ∀ xs : List α, mapO (toDV n) (xs.map vn) = some (xs.map Datum.toD)
  | [] => rfl
  | x :: xs => by
    have e : toDV n (vn x) = some (Datum.toD x) := by rw [← Pd.encD]; cases n <;> rfl
    simp [mapO, e, mapO_vn n xs]
theorem data_vl [Pd α] [Sm α] (xs : List α) : dataV (vl xs) = some (Datum.toD xs) := by
  unfold dataV
  have : toDV deepest (vl xs) = some (.list (xs.map Datum.toD)) := by
    show (mapO (toDV 7) (xs.map vn)).map PyData.list = _
    rw [mapO_vn]
    rfl
  rw [this]
  simp only
  have h := Sm.dep (α := α)
  have h2 : (Datum.toD xs).depth ≤ Datum.depth (List α) := Datum.depth_le xs
  have h3 : Datum.depth (List α) = Datum.depth α + 1 := id rfl
  rw [if_pos]
  · rfl
  · show (Datum.toD xs).depth ≤ 100
    omega
@[simp] theorem eq_vn [Pd α] [Sm α] (a b : α) : cmpVV .Eq (vn a) (vn b) = some (decide (a = b)) := by
  show eqVV _ _ = _
  unfold eqVV
  rw [data_vn, data_vn]
  simp only
  rw [Datum.eqv]
@[simp] theorem ne_vn [Pd α] [Sm α] (a b : α) : cmpVV .NotEq (vn a) (vn b) = some (!decide (a = b)) := by
  show (cmpVV .Eq _ _).map _ = _
  rw [eq_vn]
  rfl
@[simp] theorem eq_vl [Pd α] [Sm α] (a b : List α) : cmpVV .Eq (vl a) (vl b) = some (decide (a = b)) := by
  show eqVV _ _ = _
  unfold eqVV
  rw [data_vl, data_vl]
  simp only
  rw [Datum.eqv]
@[simp] theorem ne_vl [Pd α] [Sm α] (a b : List α) : cmpVV .NotEq (vl a) (vl b) = some (!decide (a = b)) := by
  show (cmpVV .Eq _ _).map _ = _
  rw [eq_vl]
  rfl
theorem ltv_vn [Pd α] [Sm α] (a b : α) : ltVV (vn a) (vn b) = some (DatumOrd.lt a b) := by
  unfold ltVV
  rw [data_vn, data_vn]
  simp only
  split
  · rename_i h
    exact absurd h (DatumOrd.notNone a)
  · rw [if_pos (DatumOrd.alike a b), DatumOrd.lt_eq]
@[simp] theorem lt_vn [Pd α] [Sm α] (a b : α) : cmpVV .Lt (vn a) (vn b) = some (DatumOrd.lt a b) := ltv_vn a b
@[simp] theorem gt_vn [Pd α] [Sm α] (a b : α) : cmpVV .Gt (vn a) (vn b) = some (DatumOrd.lt b a) := ltv_vn b a
@[simp] theorem le_vn [Pd α] [Sm α] (a b : α) : cmpVV .LtE (vn a) (vn b) = some (!DatumOrd.lt b a) := by
  show (ltVV _ _).map _ = _
  rw [ltv_vn]
  rfl
@[simp] theorem ge_vn [Pd α] [Sm α] (a b : α) : cmpVV .GtE (vn a) (vn b) = some (!DatumOrd.lt a b) := by
  show (ltVV _ _).map _ = _
  rw [ltv_vn]
  rfl
@[simp] theorem lt_int (a b : Int) : DatumOrd.lt a b = decide (a < b) := id rfl
@[simp] theorem lt_hole' (a b c d : Int) : DatumOrd.lt ((a, b) : Int × Int) (c, d) = decide (a < c ∨ (a = c ∧ b < d)) := by
  show (if a = c then decide (b < d) else decide (a < c)) = _
  by_cases h : a = c
  · rw [if_pos h]
    subst h
    simp
  · rw [if_neg h]
    simp [h]
theorem any_vn [Pd α] (k : α) : ∀ xs : List α, (xs.map Datum.toD).any (fun e => PyData.eqv e (Datum.toD k)) = decide (k ∈ xs)
  | [] => by simp
  | x :: xs => by
    rw [List.map_cons, List.any_cons, any_vn k xs, Datum.eqv]
    by_cases h : x = k
    · simp [h]
    · have h2 : ¬ k = x := fun e => h e.symm
      simp [h, h2]
@[simp] theorem in_vl [Pd α] [Sm α] (k : α) (xs : List α) : cmpVV .In (vn k) (vl xs) = some (decide (k ∈ xs)) := by
  show inVV (vn k) (vl xs) = _
  unfold inVV
  have e : dataV (V.nd .lst (xs.map vn)) = some (PyData.list (xs.map Datum.toD)) := data_vl xs
  simp only [vl, e, data_vn, any_vn]
@[simp] theorem notIn_vl [Pd α] [Sm α] (k : α) (xs : List α) : cmpVV .NotIn (vn k) (vl xs) = some (!decide (k ∈ xs)) := by
  show (inVV (vn k) (vl xs)).map _ = _
  rw [show inVV (vn k) (vl xs) = some (decide (k ∈ xs)) from in_vl k xs]
  rfl
@[simp] theorem idx_vl [Pd α] (xs : List α) (d : Nat) (i : Int) : idxVV (vl xs, d) (vn i) = match atW xs i with
    | some x => .ok (vn x, d - 1)
    | none => .bad := by
  show (match atW (xs.map vn) i with
    | some x => RV.ok (x, d - 1)
    | none => .bad) = _
  rw [atW_map]
  cases atW xs i <;> rfl
@[simp] theorem idx_fl [Pd α] (xs : List α) (d : Nat) (i : Int) : idxVV (.nd .fl (xs.map vn), d) (vn i) = match atW xs i with
    | some x => .ok (vn x, 0)
    | none => .bad := by
  show (match atW (xs.map vn) i with
    | some x => RV.ok (x, 0)
    | none => .bad) = _
  rw [atW_map]
  cases atW xs i <;> rfl
@[simp] theorem idx_lst (xs : List V) (d : Nat) (i : Int) : idxVV (.lst xs, d) (vn i) = match atW xs i with
    | some x => .ok (x, d - 1)
    | none => .bad := id rfl
@[simp] theorem idx_tup (xs : List V) (d : Nat) (i : Int) : idxVV (.tup xs, d) (vn i) = match atW xs i with
    | some x => .ok (x, d)
    | none => .bad := id rfl
@[simp] theorem idx_pr0 [Pd α] [Pd β] (p : α × β) (d : Nat) : idxVV (vn p, d) (vn (0 : Int)) = .ok (vn p.1, 0) := id rfl
@[simp] theorem idx_pr1 [Pd α] [Pd β] (p : α × β) (d : Nat) : idxVV (vn p, d) (vn (1 : Int)) = .ok (vn p.2, 0) := id rfl
@[simp] theorem idx_str (x : Str) (d : Nat) (i : Int) (h : x.length ≤ big) : idxVV (vn x, d) (vn i) = match atW x.cps.toList i with
    | some c => .ok (vn (⟨#[c]⟩ : Str), 0)
    | none => .bad := if_pos h
@[simp] theorem slc_vl [Pd α] (xs : List α) (d : Nat) (lo hi : Option Int) : slcVV (vl xs, d) lo hi = .ok (vl (cutL xs lo hi), 1) := by
  show RV.ok (V.lst (cutL (xs.map vn) lo hi), 1) = _
  rw [cutL_map]
  rfl
@[simp] theorem slc_fl [Pd α] (xs : List α) (d : Nat) (lo hi : Option Int) : slcVV (.nd .fl (xs.map vn), d) lo hi = .ok (vl (cutL xs lo hi), 1) := by
  show RV.ok (V.lst (cutL (xs.map vn) lo hi), 1) = _
  rw [cutL_map]
  rfl
@[simp] theorem slc_str (x : Str) (d : Nat) (lo hi : Option Int) (h : x.length ≤ big) : slcVV (vn x, d) lo hi = .ok (vn (⟨(cutL x.cps.toList lo hi).toArray⟩ : Str), 0) := if_pos h
@[simp] theorem rvs_vl [Pd α] (xs : List α) : rvsVV (vl xs) = .ok (vl xs.reverse, 1) := by
  show RV.ok (V.lst (xs.map vn).reverse, 1) = _
  rw [← List.map_reverse]
  rfl
@[simp] theorem partV_nil : partOfV [] = some none := id rfl
@[simp] theorem partV_int (i : Int) (d : Nat) : partOfV [(vn i, d)] = some (some i) := id rfl
@[simp] theorem len_vl [Pd α] (xs : List α) (d : Nat) : bltVV .len [(vl xs, d)] = .ok (vn (xs.length : Int), 0) := by
  show rO ((some (xs.map vn).length).map fun n : Nat => P.int (n : Int)) = _
  rw [List.length_map]
  rfl
@[simp] theorem len_lst (xs : List V) (d : Nat) : bltVV .len [(.lst xs, d)] = .ok (vn (xs.length : Int), 0) := id rfl
@[simp] theorem len_fl (xs : List V) (d : Nat) : bltVV .len [(.nd .fl xs, d)] = .ok (vn (xs.length : Int), 0) := id rfl
@[simp] theorem len_tup (xs : List V) (d : Nat) : bltVV .len [(.tup xs, d)] = .ok (vn (xs.length : Int), 0) := id rfl
@[simp] theorem len_pr [Pd α] [Pd β] (p : α × β) (d : Nat) : bltVV .len [(vn p, d)] = .ok (vn (2 : Int), 0) := id rfl
@[simp] theorem len_str (x : Str) (d : Nat) (h : x.length ≤ big) : bltVV .len [(vn x, d)] = .ok (vn (x.length : Int), 0) := by
  show rO ((lenVV (vn x)).map fun n : Nat => P.int (n : Int)) = _
  unfold vn
  show rO ((if x.length ≤ big then some x.length else none).map fun n : Nat => P.int (n : Int)) = _
  rw [if_pos h]
  rfl
@[simp] theorem abs_int (i : Int) (d : Nat) : bltVV .abs [(vn i, d)] = .ok (vn (if i < 0 then -i else i), 0) := id rfl
@[simp] theorem int_int (i : Int) (d : Nat) : bltVV .int [(vn i, d)] = .ok (vn i, 0) := id rfl
@[simp] theorem int_bl (b : Bool) (d : Nat) : bltVV .int [(.p (.bl b), d)] = .ok (vn (if b = true then (1 : Int) else 0), 0) := by cases b <;> rfl
@[simp] theorem list_vl [Pd α] (xs : List α) (d : Nat) : bltVV .list [(vl xs, d)] = .ok (vl xs, 1) := id rfl
@[simp] theorem list_pr [Pd α] (p : α × α) (d : Nat) : bltVV .list [(vn p, d)] = .ok (vl [p.1, p.2], 1) := id rfl
@[simp] theorem sorted_vl [Pd α] [Sm α] (xs : List α) (d : Nat) : bltVV .sorted [(vl xs, d)] = .ok (vl (sortB xs), 1) := by
  show (match vpures (xs.map vn) with
    | some xs => if allAlike xs && depthOk xs && sortable xs then rL (sortP xs) else .bad
    | none => .bad) = _
  rw [vpures_vn]
  simp only [allAlike_enc, depthOk_enc xs Sm.dep, sortable_enc, Bool.and_self, if_true, sortP_enc]
  show RV.ok (V.lst (((sortB xs).map Pd.enc).map V.p), 1) = _
  rw [← map_vn]
  rfl
@[simp] theorem sortedDic [Pd α] [Sm α] (ks : List α) (vs : List V) (d : Nat) (hn : ks.Nodup) (hl : ks.length ≤ 100000) : bltVV .sorted [(.dic (ks.map Pd.enc) vs, d)] = .ok (vl (sortB ks), 1) := by
  show (match sortKeysV (ks.map Pd.enc) with
    | some ys => rL ys
    | none => .bad) = _
  rw [sortKeysV_enc ks Sm.dep hn hl]
  simp only
  show RV.ok (V.lst (((sortB ks).map Pd.enc).map V.p), 1) = _
  rw [← map_vn]
  rfl
@[simp] theorem srs_vl [Pd α] [Sm α] (xs : List α) (hl : xs.length ≤ 300) : srsVV (vl xs) = .ok (vl (setB xs), 1) := by
  show (match (vpures (xs.map vn)).bind sortSetV with
    | some ys => rL ys
    | none => .bad) = _
  rw [vpures_vn]
  simp only [Option.bind_some, sortSetV_enc xs Sm.dep Sm.kdl hl]
  show RV.ok (V.lst (((setB xs).map Pd.enc).map V.p), 1) = _
  rw [← map_vn]
  rfl
@[simp] theorem lns_vl [Pd α] [Sm α] (xs : List α) (hl : xs.length ≤ 300) : lnsVV (vl xs) = .ok (vn ((onceB xs).length : Int), 0) := by
  show rO (((vpures (xs.map vn)).bind lenSetV).map fun n : Nat => P.int (n : Int)) = _
  rw [vpures_vn]
  simp only [Option.bind_some, lenSetV_enc xs Sm.kdl hl]
  rfl
@[simp] theorem min_two [Pd α] [Sm α] (a b : α) (d e : Nat) : bltVV .min [(vn a, d), (vn b, e)] = .ok (vn (minB a b), 0) := by
  have h := min_enc a b [] Sm.dep
  show minVV _ = _
  unfold minVV vn
  split
  · rename_i i _ j _ e1
    injection e1 with e1 e2
    injection e1 with e1 _
    injection e1 with e1
    injection e2 with e2 _
    injection e2 with e2 _
    injection e2 with e2
    rw [e1, e2] at h
    injection h with h1 _
    injection h1 with h1
    rw [← h1]
  · rename_i x _ y _ e1
    injection e1 with e1 e2
    injection e1 with e1 _
    injection e1 with e1
    injection e2 with e2 _
    injection e2 with e2 _
    injection e2 with e2
    subst e1 e2
    have hc : (allAlike [Pd.enc a, Pd.enc b] && depthOk [Pd.enc a, Pd.enc b]) = true := by
      have e1 := allAlike_enc [a, b]
      have e2 := depthOk_enc [a, b] Sm.dep
      simp only [List.map_cons, List.map_nil] at e1 e2
      rw [e1, e2]
      rfl
    rw [if_pos hc]
    simp only [minP, ltP_enc, minB]
    split <;> rfl
  · rename_i e1; injection e1 with _ e2; cases e2
  · rename_i h1 h2 h3; exact absurd rfl (h2 _ _ _ _)
@[simp] theorem max_two [Pd α] [Sm α] (a b : α) (d e : Nat) : bltVV .max [(vn a, d), (vn b, e)] = .ok (vn (maxB a b), 0) := by
  have h := max_enc a b [] Sm.dep
  show maxVV _ = _
  unfold maxVV vn
  split
  · rename_i i _ j _ e1
    injection e1 with e1 e2
    injection e1 with e1 _
    injection e1 with e1
    injection e2 with e2 _
    injection e2 with e2 _
    injection e2 with e2
    rw [e1, e2] at h
    injection h with h1 _
    injection h1 with h1
    rw [← h1]
  · rename_i x _ y _ e1
    injection e1 with e1 e2
    injection e1 with e1 _
    injection e1 with e1
    injection e2 with e2 _
    injection e2 with e2 _
    injection e2 with e2
    subst e1 e2
    have hc : (allAlike [Pd.enc a, Pd.enc b] && depthOk [Pd.enc a, Pd.enc b]) = true := by
      have e1 := allAlike_enc [a, b]
      have e2 := depthOk_enc [a, b] Sm.dep
      simp only [List.map_cons, List.map_nil] at e1 e2
      rw [e1, e2]
      rfl
    rw [if_pos hc]
    simp only [maxP, ltP_enc, maxB]
    split <;> rfl
  · rename_i e1; injection e1 with _ e2; cases e2
  · rename_i h1 h2 h3; exact absurd rfl (h2 _ _ _ _)
@[simp] theorem isTys_nilV (Q : Pg) (w : V) : isTysV Q w [] = some false := id rfl
@[simp] theorem isTys_consV (Q : Pg) (w : V) (t : Ty) (ts : List Ty) : isTysV Q w (t :: ts) = match isTyV Q t w with
    | some true => some true
    | some false => isTysV Q w ts
    | none => none := id rfl
@[simp] theorem isTy_int (Q : Pg) (t : Ty) (i : Int) : isTyV Q t (vn i) = some (decide (t = .int)) := id rfl
@[simp] theorem isTy_str (Q : Pg) (t : Ty) (i : Str) : isTyV Q t (vn i) = some (decide (t = .str)) := id rfl
@[simp] theorem isTy_pr [Pd α] [Pd β] (Q : Pg) (t : Ty) (i : α × β) : isTyV Q t (vn i) = some (decide (t = .tuple)) := id rfl
@[simp] theorem isTy_vl [Pd α] (Q : Pg) (t : Ty) (i : List α) : isTyV Q t (vl i) = some (decide (t = .list)) := by cases t <;> rfl
@[simp] theorem isTy_bl (Q : Pg) (t : Ty) (b : Bool) : isTyV Q t (.p (.bl b)) = some (decide (t = .int ∨ t = .bool)) := id rfl
@[simp] theorem isTy_non (Q : Pg) (t : Ty) : isTyV Q t (.p .non) = some false := id rfl
@[simp] theorem isTy_tup (Q : Pg) (t : Ty) (i : List V) : isTyV Q t (.tup i) = some (decide (t = .tuple)) := by cases t <;> rfl
@[simp] theorem seq_vl [Pd α] (xs : List α) : seqV (vl xs) = some (xs.map vn) := id rfl
@[simp] theorem items_vl [Pd α] (xs : List α) : itemsV .val [vl xs] = some (xs.map vn) := id rfl
@[simp] theorem items_lst (xs : List V) : itemsV .val [.lst xs] = some xs := id rfl
@[simp] theorem items_fl (xs : List V) : itemsV .val [.nd .fl xs] = some xs := id rfl
@[simp] theorem items_tup (xs : List V) : itemsV .val [.tup xs] = some xs := id rfl
@[simp] theorem items_pr [Pd α] [Pd β] (p : α × β) : itemsV .val [vn p] = some [vn p.1, vn p.2] := id rfl
@[simp] theorem items_str (x : Str) (h : x.length ≤ big) : itemsV .val [vn x] = some (x.cps.toList.map fun c => vn (⟨#[c]⟩ : Str)) := if_pos h
theorem range_fin (n : Nat) : List.range n = (List.finRange n).map fun k : _root_.Fin n => (k.val : Nat) := by
  apply List.ext_getElem
  · simp
  · simp
@[simp] theorem items_rng (j : Int) (h : -4611686018427387904 ≤ j ∧ j < 4611686018427387904) : itemsV .rng [vn j] = some ((List.finRange j.toNat).map fun k : _root_.Fin _ => vn ((k.val : Nat) : Int)) := by
  show (if rngOk j then some (rangeV 0 j.toNat) else none) = _
  rw [if_pos (by simp [rngOk]; omega)]
  simp only [rangeV, Int.zero_add]
  rw [range_fin, List.map_map]
  rfl
@[simp] theorem items_rngN (n : Nat) (h : n < 4611686018427387904) : itemsV .rng [vn (n : Int)] = some ((List.finRange n).map fun k : _root_.Fin _ => vn ((k.val : Nat) : Int)) := items_rng (n : Int) (by omega)
@[simp] theorem items_rngL (n : Nat) (h : n < 4611686018427387904) : itemsV .rng [vn (no_index (@OfNat.ofNat Int n instOfNat))] = some ((List.finRange n).map fun k : _root_.Fin _ => vn ((k.val : Nat) : Int)) := items_rng (n : Int) (by omega)
@[simp] theorem items_rng2 (i j : Int) (h : -4611686018427387904 ≤ i ∧ i < 4611686018427387904) (h2 : -4611686018427387904 ≤ j ∧ j < 4611686018427387904) : itemsV .rng [vn i, vn j] = some ((List.finRange (j - i).toNat).map fun k : _root_.Fin _ => vn (i + ((k.val : Nat) : Int))) := by
  show (if (rngOk i && rngOk j) = true then some (rangeV i (j - i).toNat) else none) = _
  rw [if_pos (by simp [rngOk]; omega)]
  simp only [rangeV]
  rw [range_fin, List.map_map]
  rfl
@[simp] theorem bind_name (i : Nat) (v : VD) (σ : EV) : bindV (.name i) v σ = some (σ.set i (some v)) := id rfl
@[simp] theorem bind_pr [Pd α] [Pd β] (a b : Pt) (p : α × β) (d : Nat) (σ : EV) : bindV (.tup [a, b]) (vn p, d) σ = bindVs [a, b] [(vn p.1, d), (vn p.2, d)] σ := id rfl
@[simp] theorem bind_tup (ps : List Pt) (ws : List V) (d : Nat) (σ : EV) : bindV (.tup ps) (.tup ws, d) σ = bindVs ps (ws.map fun w => (w, d)) σ := id rfl
@[simp] theorem bind_lst (ps : List Pt) (ws : List V) (d : Nat) (σ : EV) : bindV (.tup ps) (.lst ws, d) σ = bindVs ps (ws.map fun w => (w, d - 1)) σ := id rfl
@[simp] theorem binds_nil (σ : EV) : bindVs [] [] σ = some σ := id rfl
@[simp] theorem binds_cons (p : Pt) (ps : List Pt) (w : VD) (ws : List VD) (σ : EV) : bindVs (p :: ps) (w :: ws) σ = match bindV p w σ with
    | some σ' => bindVs ps ws σ'
    | none => none := id rfl
end
section
variable (Q : Pg) (cl : Nat → List V → RV VD)
def iteSV (x : V) (a b : RSV) : RSV := match x with
  | .p (.bl true) => a
  | .p (.bl false) => b
  | _ => .bad
@[simp] theorem iteSV_bl (c : Bool) (a b : RSV) : iteSV (.p (.bl c)) a b = if c = true then a else b := by cases c <;> rfl
@[simp] theorem runV_ite (c : E) (a b : List S) (σ : EV) : runV Q cl (.ite c a b) σ = (evV Q cl c σ).toS σ fun x => iteSV x.1 (runsV Q cl a σ) (runsV Q cl b σ) := id rfl
@[simp] theorem runV_ret (e : E) (σ : EV) : runV Q cl (.ret e) σ = (evR Q cl e σ).toS σ fun v => .rt v := id rfl
@[simp] theorem runV_retN (σ : EV) : runV Q cl .retN σ = .rt (.p .non, 0) := id rfl
@[simp] theorem runV_brk (σ : EV) : runV Q cl .brk σ = .bk σ := id rfl
@[simp] theorem runV_pass (σ : EV) : runV Q cl .pass σ = .nx σ := id rfl
@[simp] theorem runV_for (pt : Pt) (k : Ik) (src : List E) (b : List S) (σ : EV) : runV Q cl (.for_ pt k src b) σ = (evsV Q cl src σ).toS σ fun ws => match itemsV k (ws.map (·.1)) with
    | some its => forV pt (runsV Q cl b) its (if (vpures (ws.map (·.1))).isSome then σ else frz (occs src) σ)
    | none => .bad := id rfl
@[simp] theorem runV_whl (c : E) (b : List S) (σ : EV) : runV Q cl (.whl c b) σ = whlV (evV Q cl c) (runsV Q cl b) turns σ := id rfl
@[simp] theorem runV_par (i j : Nat) (a b : E) (σ : EV) : runV Q cl (.par i j a b) σ = (evV Q cl a σ).toS σ fun x => (evV Q cl b (aft x (occ a) σ)).toS (aft x (occ a) σ) fun y => .nx (((aft y (occ b) (aft x (occ a) σ)).set i (some x)).set j (some y)) := id rfl
def asgI (r : RV (Nat × List P)) (s : RV VD) (k : Nat × List P → P → RSV) : RSV := match r, s with
  | .ok q, .ok (.p y, _) => k q y
  | _, _ => .bad
omit Q cl in
@[simp] theorem asgI_ok {α : Type} [DecidableEq α] [Pd α] (q : Nat × List P) (a : α) (d : Nat) (k : Nat × List P → P → RSV) : asgI (.ok q) (.ok (vn a, d)) k = k q (Pd.enc a) := id rfl
def nxO {α : Type} (o : Option (EV × α)) : RSV := match o with
  | some r => .nx r.1
  | none => .bad
omit Q cl in
@[simp] theorem nxO_some {α : Type} (r : EV × α) : nxO (some r) = .nx r.1 := id rfl
@[simp] theorem runV_idx (o i e : E) (σ : EV) : runV Q cl (.asg (.idx o i) e) σ = (evV Q cl e σ).toS σ fun v => asgI (plV Q cl o (aft v (occ e) σ)) (evV Q cl i (aft v (occ e) σ)) fun q y => nxO (chgV (setVV y v.1) (v.1, 0) q (aft v (occ e) σ)) := by
  show ((evV Q cl e σ).toS σ fun v => match plV Q cl o (aft v (occ e) σ), evV Q cl i (aft v (occ e) σ) with
    | .ok q, .ok (.p y, _) => match chgV (setVV y v.1) (v.1, 0) q (aft v (occ e) σ) with
      | some r => .nx r.1
      | none => .bad
    | _, _ => .bad) = _
  congr 1
  funext v
  unfold asgI
  split
  · rename_i q y _ _ _
    show _ = nxO (chgV (setVV y v.1) (v.1, 0) q (aft v (occ e) σ))
    unfold nxO
    cases chgV (setVV y v.1) (v.1, 0) q (aft v (occ e) σ) <;> rfl
  · rfl
def frz1 (i : Nat) (σ : EV) : EV := match σ[i]? with
  | some (some (v, _)) => σ.set i (some (v, 0))
  | _ => σ
omit Q cl in
@[simp] theorem frz1_def (i : Nat) (σ : EV) : frz1 i σ = match σ[i]? with
  | some (some (v, _)) => σ.set i (some (v, 0))
  | _ => σ := id rfl
@[simp high] theorem runV_for1 (pt : Pt) (k : Ik) (i : Nat) (b : List S) (σ : EV) : runV Q cl (.for_ pt k [.var i] b) σ = (evsV Q cl [.var i] σ).toS σ fun ws => match itemsV k (ws.map (·.1)) with
    | some its => forV pt (runsV Q cl b) its (if (vpures (ws.map (·.1))).isSome then σ else frz1 i σ)
    | none => .bad := id rfl
@[simp] theorem runsV_nil (σ : EV) : runsV Q cl [] σ = .nx σ := id rfl
@[simp] theorem runsV_cons (s : S) (ss : List S) (σ : EV) : runsV Q cl (s :: ss) σ = (runV Q cl s σ).seq fun σ' => runsV Q cl ss σ' := id rfl
def asgV (p : Pt) (e : E) (σ : EV) : RSV := (evV Q cl e σ).toS σ fun v => match bindV p v (aft v (occ e) σ) with
    | some σ' => .nx σ'
    | none => .bad
@[simp] theorem asgV_def (p : Pt) (e : E) (σ : EV) : asgV Q cl p e σ = (evV Q cl e σ).toS σ fun v => match bindV p v (aft v (occ e) σ) with
    | some σ' => .nx σ'
    | none => .bad := id rfl
@[simp] theorem runV_asg_var (p : Pt) (i : Nat) (σ : EV) : runV Q cl (.asg (.pt p) (.var i)) σ = asgV Q cl p (.var i) σ := id rfl
@[simp] theorem runV_asg_cst (p : Pt) (c : P) (σ : EV) : runV Q cl (.asg (.pt p) (.cst c)) σ = asgV Q cl p (.cst c) σ := id rfl
@[simp] theorem runV_asg_glb (p : Pt) (x : Str) (c : P) (σ : EV) : runV Q cl (.asg (.pt p) (.glb x c)) σ = asgV Q cl p (.glb x c) σ := id rfl
@[simp] theorem runV_asg_tup (p : Pt) (es : List E) (σ : EV) : runV Q cl (.asg (.pt p) (.tup es)) σ = asgV Q cl p (.tup es) σ := id rfl
@[simp] theorem runV_asg_lst (p : Pt) (es : List E) (σ : EV) : runV Q cl (.asg (.pt p) (.lst es)) σ = asgV Q cl p (.lst es) σ := id rfl
@[simp] theorem runV_asg_dct (p : Pt) (es : List E) (σ : EV) : runV Q cl (.asg (.pt p) (.dct es)) σ = asgV Q cl p (.dct es) σ := id rfl
@[simp] theorem runV_asg_bin (p : Pt) (o : Op) (a b : E) (σ : EV) : runV Q cl (.asg (.pt p) (.bin o a b)) σ = asgV Q cl p (.bin o a b) σ := id rfl
@[simp] theorem runV_asg_neg (p : Pt) (a : E) (σ : EV) : runV Q cl (.asg (.pt p) (.neg a)) σ = asgV Q cl p (.neg a) σ := id rfl
@[simp] theorem runV_asg_cmp (p : Pt) (o : CmpOp) (a b : E) (σ : EV) : runV Q cl (.asg (.pt p) (.cmp o a b)) σ = asgV Q cl p (.cmp o a b) σ := id rfl
@[simp] theorem runV_asg_chn (p : Pt) (o o' : CmpOp) (a b c : E) (σ : EV) : runV Q cl (.asg (.pt p) (.chn o o' a b c)) σ = asgV Q cl p (.chn o o' a b c) σ := id rfl
@[simp] theorem runV_asg_and (p : Pt) (a b : E) (σ : EV) : runV Q cl (.asg (.pt p) (.and a b)) σ = asgV Q cl p (.and a b) σ := id rfl
@[simp] theorem runV_asg_or (p : Pt) (a b : E) (σ : EV) : runV Q cl (.asg (.pt p) (.or a b)) σ = asgV Q cl p (.or a b) σ := id rfl
@[simp] theorem runV_asg_not (p : Pt) (a : E) (σ : EV) : runV Q cl (.asg (.pt p) (.not a)) σ = asgV Q cl p (.not a) σ := id rfl
@[simp] theorem runV_asg_idx (p : Pt) (a b : E) (σ : EV) : runV Q cl (.asg (.pt p) (.idx a b)) σ = asgV Q cl p (.idx a b) σ := id rfl
@[simp] theorem runV_asg_slc (p : Pt) (a : E) (lo hi : List E) (σ : EV) : runV Q cl (.asg (.pt p) (.slc a lo hi)) σ = asgV Q cl p (.slc a lo hi) σ := id rfl
@[simp] theorem runV_asg_rvs (p : Pt) (a : E) (σ : EV) : runV Q cl (.asg (.pt p) (.rvs a)) σ = asgV Q cl p (.rvs a) σ := id rfl
@[simp] theorem runV_asg_srs (p : Pt) (a : E) (σ : EV) : runV Q cl (.asg (.pt p) (.srs a)) σ = asgV Q cl p (.srs a) σ := id rfl
@[simp] theorem runV_asg_lns (p : Pt) (a : E) (σ : EV) : runV Q cl (.asg (.pt p) (.lns a)) σ = asgV Q cl p (.lns a) σ := id rfl
@[simp] theorem runV_asg_call (p : Pt) (f : Nat) (es : List E) (σ : EV) : runV Q cl (.asg (.pt p) (.call f es)) σ = asgV Q cl p (.call f es) σ := id rfl
@[simp] theorem runV_asg_blt (p : Pt) (f : B) (es : List E) (σ : EV) : runV Q cl (.asg (.pt p) (.blt f es)) σ = asgV Q cl p (.blt f es) σ := id rfl
@[simp] theorem runV_asg_isi (p : Pt) (a : E) (ts : List Ty) (σ : EV) : runV Q cl (.asg (.pt p) (.isi a ts)) σ = asgV Q cl p (.isi a ts) σ := id rfl
@[simp] theorem runV_asg_lc (p : Pt) (own : List Nat) (pt : Pt) (k : Ik) (src cs : List E) (e : E) (σ : EV) : runV Q cl (.asg (.pt p) (.lc own pt k src cs e)) σ = asgV Q cl p (.lc own pt k src cs e) σ := id rfl
@[simp] theorem runV_asg_join (p : Pt) (o : E) (es : List E) (σ : EV) : runV Q cl (.asg (.pt p) (.mth .join o es)) σ = asgV Q cl p (.mth .join o es) σ := id rfl
@[simp] theorem runV_asg_upper (p : Pt) (o : E) (es : List E) (σ : EV) : runV Q cl (.asg (.pt p) (.mth .upper o es)) σ = asgV Q cl p (.mth .upper o es) σ := id rfl
@[simp] theorem runV_asg_get (p : Pt) (o : E) (es : List E) (σ : EV) : runV Q cl (.asg (.pt p) (.mth .get o es)) σ = asgV Q cl p (.mth .get o es) σ := id rfl
@[simp] theorem runV_exp_call (f : Nat) (es : List E) (σ : EV) : runV Q cl (.exp (.call f es)) σ = (evV Q cl (.call f es) σ).toS σ fun _ => .nx σ := id rfl
@[simp] theorem runV_exp_blt (f : B) (es : List E) (σ : EV) : runV Q cl (.exp (.blt f es)) σ = (evV Q cl (.blt f es) σ).toS σ fun _ => .nx σ := id rfl
def expV (m : Mt) (o : E) (es : List E) (σ : EV) : RSV := (plV Q cl o σ).toS σ fun q => match mayV m q σ with
        | true => (evsV Q cl es σ).toS σ fun ws => match chgV (mutV m ws) (mutD m ws) q (afts ws (occs es) σ) with
          | some r => .nx r.1
          | none => .bad
        | false => .bad
@[simp] theorem expV_def (m : Mt) (o : E) (es : List E) (σ : EV) : expV Q cl m o es σ = (plV Q cl o σ).toS σ fun q => match mayV m q σ with
        | true => (evsV Q cl es σ).toS σ fun ws => match chgV (mutV m ws) (mutD m ws) q (afts ws (occs es) σ) with
          | some r => .nx r.1
          | none => .bad
        | false => .bad := id rfl
@[simp] theorem runV_exp_append (o : E) (es : List E) (σ : EV) : runV Q cl (.exp (.mth .append o es)) σ = expV Q cl .append o es σ := id rfl
@[simp] theorem runV_exp_clear (o : E) (es : List E) (σ : EV) : runV Q cl (.exp (.mth .clear o es)) σ = expV Q cl .clear o es σ := id rfl
@[simp] theorem runV_exp_extend (o : E) (es : List E) (σ : EV) : runV Q cl (.exp (.mth .extend o es)) σ = expV Q cl .extend o es σ := id rfl
@[simp] theorem runV_exp_setdefault (o : E) (es : List E) (σ : EV) : runV Q cl (.exp (.mth .setdefault o es)) σ = expV Q cl .setdefault o es σ := id rfl
@[simp] theorem runV_exp_pop (o : E) (es : List E) (σ : EV) : runV Q cl (.exp (.mth .pop o es)) σ = expV Q cl .pop o es σ := id rfl
@[simp] theorem plV_var (i : Nat) (σ : EV) : plV Q cl (.var i) σ = .ok (i, []) := id rfl
def plI (r : RV (Nat × List P)) (s : RV VD) : RV (Nat × List P) := match r, s with
  | .ok q, .ok (.p y, _) => .ok (q.1, q.2 ++ [y])
  | _, _ => .bad
omit Q cl in
@[simp] theorem plI_ok {α : Type} [DecidableEq α] [Pd α] (q : Nat × List P) (a : α) (d : Nat) : plI (.ok q) (.ok (vn a, d)) = .ok (q.1, q.2 ++ [Pd.enc a]) := id rfl
@[simp] theorem plV_idx (o k : E) (σ : EV) : plV Q cl (.idx o k) σ = plI (plV Q cl o σ) (evV Q cl k σ) := id rfl
@[simp] theorem chg_append : Mt.chg .append = true := id rfl
@[simp] theorem chg_clear : Mt.chg .clear = true := id rfl
@[simp] theorem chg_extend : Mt.chg .extend = true := id rfl
@[simp] theorem chg_setdefault : Mt.chg .setdefault = true := id rfl
theorem evR_def (e : E) (σ : EV) : evR Q cl e σ = match e with
  | .var i => match σ[i]? with
    | some (some v) => .ok v
    | _ => .bad
  | .tup [.var i, .var j] => if i = j then evV Q cl e σ else twoV σ i j
  | e => evV Q cl e σ := id rfl
theorem evR_var (i : Nat) (σ : EV) : evR Q cl (.var i) σ = match σ[i]? with
    | some (some v) => .ok v
    | _ => .bad := id rfl
@[simp] theorem fin_nx (σ : EV) : RSV.fin (.nx σ) = .ok (.p .non, 0) := id rfl
@[simp] theorem fin_rt (v : VD) : RSV.fin (.rt v) = .ok v := id rfl
@[simp] theorem fin_er (c : Nat) (fs : List P) (σ : EV) : RSV.fin (.er c fs σ) = .err c fs := id rfl
@[simp] theorem fin_bad : RSV.fin .bad = .bad := id rfl
theorem call_stepV {Q : Pg} {i : Nat} {d : Df} (h : Q.defs[i]? = some d) (n : Nat) (ws : List V) : callV Q (n + 1) i ws = if ws.length = d.ar then (runsV Q (callV Q n) d.body (startV d ws)).fin else .bad := by
  simp only [callV, h]
@[simp] theorem forV_nil (p : Pt) (f : EV → RSV) (σ : EV) : forV p f [] σ = .nx σ := id rfl
@[simp] theorem forV_cons (p : Pt) (f : EV → RSV) (w : V) (ws : List V) (σ : EV) : forV p f (w :: ws) σ = match bindV p (w, 0) σ with
    | some σ' => match f σ' with
      | .nx σ2 => forV p f ws σ2
      | .bk σ2 => .nx σ2
      | r => r
    | none => .bad := id rfl
end
section
variable {p : Prop} [Decidable p]
@[simp] theorem ite_nx (σ σ' : EV) : (if p then RSV.nx σ else RSV.nx σ') = RSV.nx (if p then σ else σ') := by split <;> rfl
@[simp] theorem ite_rt (w w' : VD) : (if p then RSV.rt w else RSV.rt w') = RSV.rt (if p then w else w') := by split <;> rfl
@[simp] theorem ite_ok (w w' : VD) : (if p then (RV.ok w : RV VD) else RV.ok w') = RV.ok (if p then w else w') := by split <;> rfl
@[simp] theorem ite_en (a b : Option VD) (s t : List (Option VD)) : (if p then a :: s else b :: t) = (if p then a else b) :: (if p then s else t) := by split <;> rfl
@[simp] theorem ite_sm (a b : VD) : (if p then some a else some b) = some (if p then a else b) := by split <;> rfl
@[simp] theorem ite_vd (a b : V) (d e : Nat) : (if p then ((a, d) : VD) else (b, e)) = (if p then a else b, if p then d else e) := by split <;> rfl
@[simp] theorem ite_vn {α : Type} [DecidableEq α] [Pd α] (a b : α) : (if p then vn a else vn b) = vn (if p then a else b) := by split <;> rfl
@[simp] theorem ite_vbl (a b : Bool) : (if p then V.p (.bl a) else V.p (.bl b)) = V.p (.bl (if p then a else b)) := by split <;> rfl
@[simp] theorem ite_pr {α β : Type} (a b : α) (c d : β) : (if p then (a, c) else (b, d)) = (if p then a else b, if p then c else d) := by split <;> rfl
@[simp] theorem ite_seqV (a b : RSV) (k : EV → RSV) : RSV.seq (if p then a else b) k = if p then RSV.seq a k else RSV.seq b k := by split <;> rfl
@[simp] theorem ite_finV (a b : RSV) : RSV.fin (if p then a else b) = if p then RSV.fin a else RSV.fin b := by split <;> rfl
@[simp] theorem ite_bndV {α β : Type} (a b : RV α) (k : α → RV β) : RV.bnd (if p then a else b) k = if p then RV.bnd a k else RV.bnd b k := by split <;> rfl
@[simp] theorem ite_toSV {α : Type} (σ : EV) (a b : RV α) (k : α → RSV) : RV.toS σ (if p then a else b) k = if p then RV.toS σ a k else RV.toS σ b k := by split <;> rfl
end
section
variable {α : Type} [DecidableEq α]
@[simp] theorem aft_full {v : VD} (h : fullV v.2 v.1 = true) (is : List Nat) (σ : EV) : aft v is σ = σ := if_pos h
@[simp] theorem aft_vn [Pd α] (a : α) (d : Nat) (is : List Nat) (σ : EV) : aft (vn a, d) is σ = σ := if_pos (fullV_vn d a)
@[simp] theorem aft_p (a : P) (d : Nat) (is : List Nat) (σ : EV) : aft (.p a, d) is σ = σ := if_pos (fullV_p d a)
@[simp] theorem aft_nil (d : Nat) (is : List Nat) (σ : EV) : aft (.lst [], d + 1) is σ = σ := if_pos (fullV_vl d ([] : List Int))
@[simp] theorem aft_nil9 (is : List Nat) (σ : EV) : aft (.lst [], 9) is σ = σ := aft_nil 8 is σ
@[simp] theorem aft_nil1 (is : List Nat) (σ : EV) : aft (.lst [], 1) is σ = σ := aft_nil 0 is σ
@[simp] theorem aft_vl9 [Pd α] (xs : List α) (is : List Nat) (σ : EV) : aft (vl xs, 9) is σ = σ := if_pos (fullV_vl 8 xs)
@[simp] theorem aft_vl1 [Pd α] (xs : List α) (is : List Nat) (σ : EV) : aft (vl xs, 1) is σ = σ := if_pos (fullV_vl 0 xs)
@[simp] theorem aft_dic0 (is : List Nat) (σ : EV) : aft (.dic [] [], 1) is σ = σ := if_pos rfl
@[simp] theorem afts_nil (is : List Nat) (σ : EV) : afts [] is σ = σ := id rfl
@[simp] theorem afts_one (v : VD) (is : List Nat) (σ : EV) : afts [v] is σ = aft v is σ := by
  unfold afts aft
  simp
theorem afts_vn2 [Pd α] (a : α) (d : Nat) (v : VD) (is : List Nat) (σ : EV) : afts [(vn a, d), v] is σ = aft v is σ := by
  unfold afts aft
  simp
@[simp] theorem rcv_vl [Pd α] (xs : List α) : rcvV (vl xs) = some .list := id rfl
@[simp] theorem rcv_lst (xs : List V) : rcvV (.lst xs) = some .list := id rfl
@[simp] theorem rcv_dic (ks : List P) (xs : List V) : rcvV (.dic ks xs) = some .dict := id rfl
@[simp] theorem rcv_str (x : Str) : rcvV (vn x) = some .str := id rfl
@[simp] theorem getV_nil (v : V) : getV [] v = some v := id rfl
@[simp] theorem mayV_def (m : Mt) (q : Nat × List P) (σ : EV) : mayV m q σ = match σ[q.1]? with
  | some (some v) => match (getV q.2 v.1).bind rcvV with
    | some T => mthOk m T
    | none => false
  | _ => false := id rfl
@[simp] theorem chgV_def {α : Type} (f : V → Option (V × α)) (put : VD) (q : Nat × List P) (σ : EV) : chgV f put q σ = match σ[q.1]? with
  | some (some v) => (updV f put q.2 v).map fun r => (σ.set q.1 (some r.1), r.2)
  | _ => none := id rfl
@[simp] theorem updV_nil {α : Type} (f : V → Option (V × α)) (put : VD) (v : V) (d : Nat) : updV f put [] (v, d) = if 0 < d then (f v).map fun q => ((q.1, ownBy put d), q.2) else none := id rfl
@[simp] theorem ownBy_vn [Pd α] (a : α) (e d : Nat) : ownBy (vn a, e) d = d := id rfl
@[simp] theorem ownBy_p (a : P) (e d : Nat) : ownBy (.p a, e) d = d := id rfl
@[simp] theorem ownBy_vl [Pd α] (a : List α) (e d : Nat) : ownBy (vl a, e) d = min d (1 + e) := id rfl
@[simp] theorem mutD_append (v : VD) : mutD .append [v] = v := id rfl
@[simp] theorem mutD_clear (v : List VD) : mutD .clear v = (.p .non, 0) := id rfl
@[simp] theorem mutD_pop (v : List VD) : mutD .pop v = (.p .non, 0) := id rfl
@[simp] theorem mutD_setdefault (a v : VD) : mutD .setdefault [a, v] = v := id rfl
@[simp] theorem mutD_extend (v : V) (d : Nat) : mutD .extend [(v, d)] = (v, d - 1) := id rfl
@[simp] theorem mut_append [Pd α] (a : α) (d : Nat) (xs : List α) (h : xs.length < big) : mutV .append [(vn a, d)] (vl xs) = some (vl (xs ++ [a]), (.p .non, 0)) := by
  show (if (xs.map vn).length < big then some (V.lst (xs.map vn ++ [vn a]), _) else none) = _
  rw [List.length_map, if_pos h]
  simp [vl]
@[simp] theorem mut_append' (v : V) (d : Nat) (xs : List V) (h : xs.length < big) : mutV .append [(v, d)] (.lst xs) = some (.lst (xs ++ [v]), (.p .non, 0)) := if_pos h
theorem mut_append_non [Pd α] (v : V) (d : Nat) (xs : List α) (h : xs.length < big) : mutV .append [(v, d)] (vl xs) = some (.lst (xs.map vn ++ [v]), (.p .non, 0)) := by
  show (if (xs.map vn).length < big then some (V.lst (xs.map vn ++ [v]), _) else none) = _
  rw [List.length_map, if_pos h]
@[simp] theorem mut_clear [Pd α] (xs : List α) : mutV .clear [] (vl xs) = some (.lst [], (.p .non, 0)) := id rfl
@[simp] theorem mut_extend [Pd α] (ys xs : List α) (d : Nat) (h : xs.length + ys.length ≤ big) : mutV .extend [(vl ys, d)] (vl xs) = some (vl (xs ++ ys), (.p .non, 0)) := by
  show (if (xs.map vn).length + (ys.map vn).length ≤ big then some (V.lst (xs.map vn ++ ys.map vn), _) else none) = _
  rw [List.length_map, List.length_map, if_pos h]
  simp [vl]
theorem forV_inv {α : Type} {pt : Pt} {f : EV → RSV} (enc : α → V) (I : List α → EV → Prop) {xs : List α} : ∀ (rest done : List α) (σ : EV), xs = done ++ rest → I done σ →
    (∀ done a rest' σ, xs = done ++ a :: rest' → I done σ → ∃ σ1 σ2, bindV pt (enc a, 0) σ = some σ1 ∧ f σ1 = .nx σ2 ∧ I (done ++ [a]) σ2) →
    ∃ σ', forV pt f (rest.map enc) σ = .nx σ' ∧ I xs σ'
  | [], done, σ, e, h, _ => ⟨σ, rfl, by rw [e]; simpa using h⟩
  | a :: rest, done, σ, e, h, hs => by
    obtain ⟨σ1, σ2, h1, h2, h4⟩ := hs done a rest σ e h
    obtain ⟨σ', h5, h6⟩ := forV_inv enc I rest (done ++ [a]) σ2 (by rw [e]; simp) h4 hs
    refine ⟨σ', ?_, h6⟩
    rw [List.map_cons, forV_cons, h1]
    simp only [h2]
    exact h5
theorem forV_all {α : Type} {pt : Pt} {f : EV → RSV} (enc : α → V) (I : List α → EV → Prop) (xs : List α) {σ : EV} (h0 : I [] σ)
    (hs : ∀ done a rest σ, xs = done ++ a :: rest → I done σ → ∃ σ1 σ2, bindV pt (enc a, 0) σ = some σ1 ∧ f σ1 = .nx σ2 ∧ I (done ++ [a]) σ2) :
    ∃ σ', forV pt f (xs.map enc) σ = .nx σ' ∧ I xs σ' := forV_inv enc I xs [] σ rfl h0 hs
def stepV (pt : Pt) (f : EV → RSV) (w : V) (σ : EV) : RSV := match bindV pt (w, 0) σ with
  | some σ1 => f σ1
  | none => .bad
def runP (o : Option EV) (f : EV → RSV) : RSV := match o with
  | some σ1 => f σ1
  | none => .bad
@[simp] theorem runP_some (σ : EV) (f : EV → RSV) : runP (some σ) f = f σ := id rfl
@[simp] theorem stepV_def (pt : Pt) (f : EV → RSV) (w : V) (σ : EV) : stepV pt f w σ = runP (bindV pt (w, 0) σ) f := id rfl
theorem forV_st {α S T : Type} {pt : Pt} {f : EV → RSV} (enc : α → V) (env : S → T → EV) (step : S → α → S) (I : List α → S → Prop) (xs : List α) (s0 : S) (t0 : T) (h0 : I [] s0)
    (hs : ∀ done a rest s t, xs = done ++ a :: rest → I done s → I (done ++ [a]) (step s a) ∧ ∃ t', stepV pt f (enc a) (env s t) = .nx (env (step s a) t')) :
    ∃ t', forV pt f (xs.map enc) (env s0 t0) = .nx (env (xs.foldl step s0) t') ∧ I xs (xs.foldl step s0) := by
  have key : ∀ (rest done : List α) (s : S) (t : T), xs = done ++ rest → I done s → ∃ t', forV pt f (rest.map enc) (env s t) = .nx (env (rest.foldl step s) t') ∧ I xs (rest.foldl step s) := by
    intro rest
    induction rest with
    | nil =>
      intro done s t e h
      rw [List.append_nil] at e
      subst e
      exact ⟨t, rfl, h⟩
    | cons a rest ih =>
      intro done s t e h
      obtain ⟨h1, t1, h2⟩ := hs done a rest s t e h
      obtain ⟨t2, h3, h4⟩ := ih (done ++ [a]) (step s a) t1 (by rw [e, List.append_assoc]; rfl) h1
      refine ⟨t2, ?_, h4⟩
      rw [List.map_cons, forV_cons]
      unfold stepV at h2
      cases hb : bindV pt (enc a, 0) (env s t) with
      | none => rw [hb] at h2; cases h2
      | some σ1 =>
        rw [hb] at h2
        simp only at h2 ⊢
        rw [h2]
        exact h3
  exact key xs [] s0 t0 rfl h0
theorem forV_look {α : Type} {pt : Pt} {f : EV → RSV} (enc : α → V) (p : α → Bool) (w : VD) (I : EV → Prop) : ∀ (xs : List α) {σ : EV}, I σ →
    (∀ a ∈ xs, ∀ σ, I σ → ∃ σ1, bindV pt (enc a, 0) σ = some σ1 ∧ ((p a = true ∧ ∃ σ2, f σ1 = .nx σ2 ∧ I σ2) ∨ (p a = false ∧ f σ1 = .rt w))) →
    (xs.all p = true ∧ ∃ σ', forV pt f (xs.map enc) σ = .nx σ' ∧ I σ') ∨ (xs.all p = false ∧ forV pt f (xs.map enc) σ = .rt w)
  | [], σ, h, _ => .inl ⟨rfl, σ, rfl, h⟩
  | a :: xs, σ, h, hs => by
    obtain ⟨σ1, h1, h2⟩ := hs a List.mem_cons_self σ h
    rw [List.map_cons, forV_cons, h1, List.all_cons]
    rcases h2 with ⟨hp, σ2, h3, h4⟩ | ⟨hp, h3⟩
    · simp only [h3, hp, Bool.true_and]
      exact forV_look enc p w I xs h4 fun b hb => hs b (List.mem_cons_of_mem _ hb)
    · exact .inr ⟨by rw [hp]; rfl, by simp only [h3]⟩
theorem lcV_fm {α : Type} {f : V → RV (Option VD)} (enc : α → V) (g : α → Option VD) : ∀ (xs : List α) (acc : List VD), acc.length + xs.length ≤ big → (∀ a ∈ xs, f (enc a) = .ok (g a)) → lcV_ f (xs.map enc) acc = .ok (.lst ((acc ++ xs.filterMap g).map (·.1)), 1 + mind (acc ++ xs.filterMap g))
  | [], acc, _, _ => by simp [lcV_]
  | a :: xs, acc, hl, h => by
    rw [List.length_cons] at hl
    rw [List.map_cons]
    unfold lcV_
    rw [h a List.mem_cons_self]
    cases hg : g a with
    | none =>
      simp only
      rw [lcV_fm enc g xs acc (by omega) fun b hb => h b (List.mem_cons_of_mem _ hb), List.filterMap_cons_none hg]
    | some v =>
      have hlt : acc.length < big := by omega
      simp only [hlt, if_true]
      rw [lcV_fm enc g xs (acc ++ [v]) (by rw [List.length_append, List.length_singleton]; omega) fun b hb => h b (List.mem_cons_of_mem _ hb), List.filterMap_cons_some hg]
      simp
def lcM {δ : Type} (f : δ → RV (Option VD)) : List δ → List VD → RV VD
  | [], acc => .ok (.lst (acc.map (·.1)), 1 + mind acc)
  | w :: ws, acc => match f w with
    | .ok (some v) => if acc.length < big then lcM f ws (acc ++ [v]) else .bad
    | .ok none => lcM f ws acc
    | .err _ _ => .bad
    | .bad => .bad
theorem lcV_M {δ : Type} (f : V → RV (Option VD)) (enc : δ → V) : ∀ (xs : List δ) (acc : List VD), lcV_ f (xs.map enc) acc = lcM (fun x => f (enc x)) xs acc
  | [], acc => rfl
  | x :: xs, acc => by
    rw [List.map_cons]
    unfold lcV_ lcM
    cases f (enc x) with
    | ok o =>
      cases o with
      | none => exact lcV_M f enc xs acc
      | some v =>
        simp only
        rw [lcV_M f enc xs (acc ++ [v])]
    | err c fs => rfl
    | bad => rfl
theorem lcM_congr {δ : Type} {f g : δ → RV (Option VD)} : ∀ {xs : List δ}, (∀ x ∈ xs, f x = g x) → ∀ acc : List VD, lcM f xs acc = lcM g xs acc
  | [], _, _ => rfl
  | x :: xs, h, acc => by
    unfold lcM
    rw [h x List.mem_cons_self]
    cases g x with
    | ok o =>
      cases o with
      | none => exact lcM_congr (fun y hy => h y (List.mem_cons_of_mem _ hy)) acc
      | some v =>
        simp only
        rw [lcM_congr (fun y hy => h y (List.mem_cons_of_mem _ hy)) (acc ++ [v])]
    | err c fs => rfl
    | bad => rfl
theorem lcM_fm {δ : Type} (g : δ → Option VD) : ∀ (xs : List δ) (acc : List VD), acc.length + xs.length ≤ big → lcM (fun x => .ok (g x)) xs acc = .ok (.lst ((acc ++ xs.filterMap g).map (·.1)), 1 + mind (acc ++ xs.filterMap g))
  | [], acc, _ => by simp [lcM]
  | a :: xs, acc, hl => by
    rw [List.length_cons] at hl
    unfold lcM
    cases hg : g a with
    | none =>
      simp only
      rw [lcM_fm g xs acc (by omega), List.filterMap_cons_none hg]
    | some v =>
      have hlt : acc.length < big := by omega
      simp only [hlt, if_true]
      rw [lcM_fm g xs (acc ++ [v]) (by rw [List.length_append, List.length_singleton]; omega), List.filterMap_cons_some hg]
      simp
theorem lcM_all {δ : Type} (g : δ → VD) (xs : List δ) (hl : xs.length ≤ big) : lcM (fun x => .ok (some (g x))) xs [] = .ok (.lst (xs.map fun x => (g x).1), 1 + mind (xs.map g)) := by
  rw [lcM_fm (fun x => some (g x)) xs [] (by simpa using hl), List.nil_append]
  have key : ∀ xs : List δ, xs.filterMap (fun x => some (g x)) = xs.map g := by
    intro xs
    induction xs with
    | nil => rfl
    | cons x xs ih => rw [List.filterMap_cons, ih]; rfl
  rw [key, List.map_map]
  rfl
@[simp] theorem lcM_map {δ : Type} [Pd α] (h : δ → α) (d : δ → Nat) (xs : List δ) (hl : xs.length ≤ big) : lcM (fun x => .ok (some (vn (h x), d x))) xs [] = .ok (vl (xs.map h), 9) := by
  rw [lcM_all (fun x => (vn (h x), d x)) xs hl, mind_map]
  simp only [vl, List.map_map]
  rfl
@[simp] theorem lcM_if {δ : Type} [Pd α] (p : δ → Prop) [DecidablePred p] (h : δ → α) (d : δ → Nat) (xs : List δ) (hl : xs.length ≤ big) : lcM (fun x => if p x then .ok (some (vn (h x), d x)) else .ok none) xs [] = .ok (vl ((xs.filter fun x => decide (p x)).map h), 9) := by
  have e : (fun x => if p x then (RV.ok (some ((vn (h x), d x) : VD)) : RV (Option VD)) else .ok none) = fun x => .ok (if p x then some (vn (h x), d x) else none) := by
    funext x
    split <;> rfl
  rw [e, lcM_fm _ xs [] (by simpa using hl), List.nil_append]
  have key : ∀ xs : List δ, xs.filterMap (fun x => if p x then some ((vn (h x), d x) : VD) else none) = (xs.filter fun x => decide (p x)).map fun x => (vn (h x), d x) := by
    intro xs
    induction xs with
    | nil => rfl
    | cons x xs ih =>
      rw [List.filterMap_cons, List.filter_cons, ih]
      by_cases hp : p x <;> simp [hp]
  rw [key, mind_map]
  simp only [vl, List.map_map]
  rfl
@[simp] theorem lcM_ifn {δ : Type} [Pd α] (p : δ → Prop) [DecidablePred p] (h : δ → α) (d : δ → Nat) (xs : List δ) (hl : xs.length ≤ big) : lcM (fun x => if p x then .ok none else .ok (some (vn (h x), d x))) xs [] = .ok (vl ((xs.filter fun x => !decide (p x)).map h), 9) := by
  have e : (fun x => if p x then (RV.ok none : RV (Option VD)) else .ok (some ((vn (h x), d x) : VD))) = fun x => if ¬ p x then .ok (some (vn (h x), d x)) else .ok none := by
    funext x
    by_cases hp : p x <;> simp [hp]
  rw [e, lcM_if (fun x => ¬ p x) h d xs hl]
  simp
theorem lcM_mapm {δ : Type} [Pd α] {f : δ → RV (Option VD)} (h : δ → α) {xs : List δ} (hl : xs.length ≤ big) (hf : ∀ x ∈ xs, ∃ d, f x = .ok (some (vn (h x), d))) : lcM f xs [] = .ok (vl (xs.map h), 9) := by
  let dd : δ → Nat := fun x => match f x with
    | .ok (some (_, d)) => d
    | _ => 0
  rw [← lcM_map h dd xs hl]
  refine lcM_congr (fun x hx => ?_) []
  obtain ⟨d, e⟩ := hf x hx
  simp only [dd, e]
theorem lcM_testm {δ : Type} [Pd α] {f : δ → RV (Option VD)} (p : δ → Prop) [DecidablePred p] (h : δ → α) {xs : List δ} (hl : xs.length ≤ big) (hf : ∀ x ∈ xs, ∃ d, f x = if p x then .ok (some (vn (h x), d)) else .ok none) : lcM f xs [] = .ok (vl ((xs.filter fun x => decide (p x)).map h), 9) := by
  let dd : δ → Nat := fun x => match f x with
    | .ok (some (_, d)) => d
    | _ => 0
  rw [← lcM_if p h dd xs hl]
  refine lcM_congr (fun x hx => ?_) []
  obtain ⟨d, e⟩ := hf x hx
  simp only [dd, e]
  split <;> rfl
theorem lcM_ex {δ : Type} [Pd α] {f : δ → RV (Option VD)} (P : δ → α → Prop) : ∀ {xs : List δ}, xs.length ≤ big → (∀ x ∈ xs, ∃ a d, f x = .ok (some (vn a, d)) ∧ P x a) → ∃ ys : List α, ys.length = xs.length ∧ (∀ y ∈ ys, ∃ x ∈ xs, P x y) ∧ lcM f xs [] = .ok (vl ys, 9) := by
  intro xs hl hf
  have : ∀ x : {x // x ∈ xs}, ∃ a : α, ∃ d, f x.1 = .ok (some (vn a, d)) ∧ P x.1 a := fun x => hf x.1 x.2
  let g : {x // x ∈ xs} → α := fun x => (this x).choose
  have e1 : lcM f xs [] = lcM (fun x : {x // x ∈ xs} => f x.1) xs.attach [] := by
    have key : ∀ (ys : List {x // x ∈ xs}) (acc : List VD), lcM f (ys.map (·.1)) acc = lcM (fun x : {x // x ∈ xs} => f x.1) ys acc := by
      intro ys
      induction ys with
      | nil => intro acc; rfl
      | cons y ys ih =>
        intro acc
        rw [List.map_cons]
        unfold lcM
        cases f y.1 with
        | ok o =>
          cases o with
          | none => exact ih acc
          | some v => simp only; rw [ih]
        | err c fs => rfl
        | bad => rfl
    rw [← key xs.attach [], List.attach_map_subtype_val]
  refine ⟨xs.attach.map g, by simp, fun y hy => ?_, ?_⟩
  · obtain ⟨x, _, rfl⟩ := List.mem_map.mp hy
    exact ⟨x.1, x.2, (this x).choose_spec.choose_spec.2⟩
  · rw [e1]
    exact lcM_mapm g (by simpa using hl) fun x _ => ⟨_, (this x).choose_spec.choose_spec.1⟩
variable {Q : Pg} {cl : Nat → List V → RV VD}
theorem lc_map {δ : Type} [Pd α] {own : List Nat} {pt : Pt} {k : Ik} {src : List E} {e : E} {σ : EV} (enc : δ → V) (h : δ → α) {ws : List VD} {xs : List δ} (hs : evsV Q cl src σ = .ok ws) (hi : itemsV k (ws.map (·.1)) = some (xs.map enc)) (hl : xs.length ≤ 1000000)
    (hf : ∀ x ∈ xs, ∃ d, lcT Q cl own pt [] e σ (enc x) = .ok (some (vn (h x), d))) : evV Q cl (.lc own pt k src [] e) σ = .ok (vl (xs.map h), 9) := by
  rw [evV_lc, hs]
  simp only [RV.bnd_ok, hi]
  let dd : δ → Nat := fun x => match lcT Q cl own pt [] e σ (enc x) with
    | .ok (some (_, d)) => d
    | _ => 0
  have : ∀ x ∈ xs, lcT Q cl own pt [] e σ (enc x) = .ok (some (vn (h x), dd x)) := fun x hx => by
    obtain ⟨d, e⟩ := hf x hx
    simp only [dd, e]
  rw [lcV_fm enc (fun x => some (vn (h x), dd x)) xs [] (by simp [big]; omega) this]
  have key : ∀ xs : List δ, xs.filterMap (fun x => some (vn (h x), dd x)) = xs.map fun x => (vn (h x), dd x) := by
    intro xs
    induction xs with
    | nil => rfl
    | cons x xs ih => rw [List.filterMap_cons, ih]; rfl
  rw [List.nil_append, key, mind_map]
  simp only [List.map_map, vl]
  rfl
theorem lc_test {δ : Type} [Pd α] {own : List Nat} {pt : Pt} {k : Ik} {src : List E} {c e : E} {σ : EV} (enc : δ → V) (p : δ → Bool) (h : δ → α) {ws : List VD} {xs : List δ} (hs : evsV Q cl src σ = .ok ws) (hi : itemsV k (ws.map (·.1)) = some (xs.map enc)) (hl : xs.length ≤ 1000000)
    (hf : ∀ x ∈ xs, ∃ d, lcT Q cl own pt [c] e σ (enc x) = .ok (if p x = true then some (vn (h x), d) else none)) : evV Q cl (.lc own pt k src [c] e) σ = .ok (vl ((xs.filter p).map h), 9) := by
  rw [evV_lc, hs]
  simp only [RV.bnd_ok, hi]
  let dd : δ → Nat := fun x => match lcT Q cl own pt [c] e σ (enc x) with
    | .ok (some (_, d)) => d
    | _ => 0
  have : ∀ x ∈ xs, lcT Q cl own pt [c] e σ (enc x) = .ok (if p x = true then some (vn (h x), dd x) else none) := fun x hx => by
    obtain ⟨d, e⟩ := hf x hx
    simp only [dd, e]
    split <;> simp_all
  rw [lcV_fm enc (fun x => if p x = true then some (vn (h x), dd x) else none) xs [] (by simp [big]; omega) this]
  rw [List.nil_append]
  have key : ∀ xs : List δ, xs.filterMap (fun x => if p x = true then some (vn (h x), dd x) else none) = (xs.filter p).map fun x => (vn (h x), dd x) := by
    intro xs
    induction xs with
    | nil => rfl
    | cons x xs ih =>
      rw [List.filterMap_cons, List.filter_cons, ih]
      cases p x <;> simp
  rw [key, mind_map]
  simp only [List.map_map, vl]
  rfl
end
@[simp] theorem strsV_vn : ∀ xs : List Str, strsV (xs.map vn) = some xs
  | [] => rfl
  | x :: xs => by
    show (strsV (xs.map vn)).map _ = _
    rw [strsV_vn xs]
    rfl
@[simp] theorem mthOk_join : mthOk .join .str = true := id rfl
@[simp] theorem mthOk_upper : mthOk .upper .str = true := id rfl
@[simp] theorem mthOk_get : mthOk .get .dict = true := id rfl
@[simp] theorem mthOk_append : mthOk .append .list = true := id rfl
@[simp] theorem mthOk_clear : mthOk .clear .list = true := id rfl
@[simp] theorem mthOk_extend : mthOk .extend .list = true := id rfl
@[simp] theorem mthOk_pop : mthOk .pop .list = true := id rfl
@[simp] theorem mthOk_setdefault : mthOk .setdefault .dict = true := id rfl
theorem mth_join (a : Str) (d : Nat) (xs : List Str) (e : Nat) : mthVV .join (vn a, d) [(vl xs, e)] = if (xs.map fun x : Str => x.length).sum + xs.length * a.length ≤ 16777216 then .ok (vn (Txt.join a xs), 0) else .bad := by
  show (match (some (xs.map vn)).bind strsV with
    | some ys => if (ys.map fun x : Str => x.length).sum + ys.length * a.length ≤ 16777216 then rP (.str (Txt.join a ys)) else .bad
    | none => .bad) = _
  rw [Option.bind_some, strsV_vn]
  rfl
def oneS (c : Nat) : Str := ⟨#[c]⟩
def strOf (xs : List Nat) : Str := ⟨xs.toArray⟩
@[simp] theorem strOf_len (xs : List Nat) : (strOf xs).length = xs.length := by simp [strOf, Str.length]
@[simp] theorem strOf_cps (xs : List Nat) : (strOf xs).cps.toList = xs := by simp [strOf]
theorem sum_one {α : Type} : ∀ l : List α, (l.map fun _ => 1).sum = l.length
  | [] => rfl
  | x :: l => by rw [List.map_cons, List.sum_cons, sum_one l, List.length_cons]; omega
theorem join_one (xs : List Nat) : Txt.join Str.empty (xs.map oneS) = strOf xs := by
  have := join_ones id xs
  rw [List.map_id] at this
  exact this
theorem mth_join1 (d e : Nat) (xs : List Nat) (hl : xs.length ≤ 16777216) : mthVV .join (vn ("" : Str), d) [(vl (xs.map oneS), e)] = .ok (vn (strOf xs), 0) := by
  rw [mth_join, show ("" : Str) = Str.empty from rfl, join_one]
  rw [if_pos]
  rw [List.map_map, show ((fun x : Str => x.length) ∘ oneS) = fun _ => 1 from rfl, sum_one, List.length_map]
  show _ + _ * 0 ≤ _
  omega
end Vl

namespace Vl
open PySem Mi PySem.W
local macro_rules | `(tactic| array_get_dec) => `(tactic| first | assumption | omega | (simp only [big, List.length_map, List.length_append, List.length_cons, List.length_nil, List.length_reverse, List.length_finRange, List.length_range, List.length_set] <;> omega) | (simp; done))
section
variable {α β γ δ : Type} [DecidableEq α] [DecidableEq β] [DecidableEq γ]
def vb (b : Bool) : V := .p (.bl b)
def getM (kvs : List (α × δ)) (k : α) : Option δ := (kvs.find? fun q => decide (q.1 = k)).map (·.2)
def keysM (kvs : List (α × δ)) : List α := kvs.map (·.1)
def putM (kvs : List (α × δ)) (k : α) (v : δ) : List (α × δ) := if k ∈ keysM kvs then kvs.map (fun q => if q.1 = k then (k, v) else q) else kvs ++ [(k, v)]
def ve [Pd α] (e : δ → V) (kvs : List (α × δ)) : V := .dic (kvs.map fun q => Pd.enc q.1) (kvs.map fun q => e q.2)
class Ky (α : Type) [DecidableEq α] [Pd α] : Prop where
  ok : Pd.kd α ≤ 8
instance : Ky Int := ⟨by decide⟩
instance : Ky Str := ⟨by decide⟩
instance : Ky (Int × Int) := ⟨by decide⟩
instance : Ky ((Int × Int) × (Int × Int)) := ⟨by decide⟩
instance : Ky (Str × ((Int × Int) × (Int × Int))) := ⟨by decide⟩
instance : Ky (Str × (((Int × Int) × (Int × Int)) × (Int × Int))) := ⟨by decide⟩
theorem scalOrT [Pd α] [Ky α] (a b : α) : (((Pd.enc a).scal && (Pd.enc b).scal) || ((keyT (Pd.enc a)).isSome && (keyT (Pd.enc b)).isSome)) = true := by
  cases h : Pd.isT α with
  | true => rw [keyT_enc a h Ky.ok, keyT_enc b h Ky.ok]; simp
  | false => rw [Pd.scal, Pd.scal, h]; rfl
theorem keysOk_enc [Pd α] [Ky α] (kvs : List (α × δ)) (k : α) : keysOk (kvs.map fun q => Pd.enc q.1) (Pd.enc k) = true := by
  cases kvs with
  | nil =>
    have := scalOrT k k
    show ((Pd.enc k).scal || (keyT (Pd.enc k)).isSome) = true
    cases h1 : (Pd.enc k).scal <;> cases h2 : (keyT (Pd.enc k)).isSome <;> simp_all
  | cons q kvs => exact scalOrT q.1 k
theorem kidx_enc [Pd α] (k : α) : ∀ kvs : List (α × δ), (kidx (kvs.map fun q => Pd.enc q.1) (Pd.enc k)).isSome = decide (k ∈ keysM kvs)
  | [] => by simp [kidx, keysM]
  | q :: kvs => by
    rw [List.map_cons, kidx]
    have ih := kidx_enc k kvs
    by_cases h : q.1 = k
    · simp [h, keysM]
    · have h2 : ¬ k = q.1 := fun e => h e.symm
      have h3 : ¬ Pd.enc q.1 = Pd.enc k := fun e => h (enc_inj e)
      rw [if_neg h3, Option.isSome_map, ih]
      unfold keysM
      rw [List.map_cons, decide_eq_decide, List.mem_cons]
      simp [h2]
theorem kget_enc [Pd α] (e : δ → V) (k : α) : ∀ kvs : List (α × δ), kget (kvs.map fun q => Pd.enc q.1) (kvs.map fun q => e q.2) (Pd.enc k) = (getM kvs k).map e
  | [] => rfl
  | q :: kvs => by
    have ih := kget_enc e k kvs
    unfold kget getM at ih ⊢
    rw [List.map_cons, List.map_cons, kidx, List.find?_cons]
    by_cases h : q.1 = k
    · simp [h]
    · have h3 : ¬ Pd.enc q.1 = Pd.enc k := fun e => h (enc_inj e)
      simp only [h3, if_false, h, decide_false]
      rw [← ih]
      cases kidx (kvs.map fun q => Pd.enc q.1) (Pd.enc k) <;> simp
theorem kset_enc [Pd α] (e : δ → V) (k : α) (v : δ) : ∀ kvs : List (α × δ), kset (Pd.enc k) (e v) (kvs.map fun q => Pd.enc q.1) (kvs.map fun q => e q.2) = (kvs.map fun q => if q.1 = k then (k, v) else q).map fun q => e q.2
  | [] => rfl
  | q :: kvs => by
    rw [List.map_cons, List.map_cons, kset, kset_enc e k v kvs, List.map_cons, List.map_cons]
    by_cases h : q.1 = k
    · simp [h]
    · have h3 : ¬ Pd.enc q.1 = Pd.enc k := fun e => h (enc_inj e)
      simp [h, h3]
theorem keys_mapped (kvs : List (α × δ)) (k : α) (v : δ) : keysM (kvs.map fun q => if q.1 = k then (k, v) else q) = keysM kvs := by
  unfold keysM
  rw [List.map_map]
  apply List.map_congr_left
  intro q _
  by_cases h : q.1 = k <;> simp [h]
theorem keys_put (kvs : List (α × δ)) (k : α) (v : δ) : keysM (putM kvs k v) = if k ∈ keysM kvs then keysM kvs else keysM kvs ++ [k] := by
  unfold putM
  split
  · exact keys_mapped kvs k v
  · simp [keysM]
theorem keys_put_nodup {kvs : List (α × δ)} (h : (keysM kvs).Nodup) (k : α) (v : δ) : (keysM (putM kvs k v)).Nodup := by
  rw [keys_put]
  split
  · exact h
  · rename_i hk
    rw [List.nodup_append]
    exact ⟨h, by simp, fun a ha b hb => by
      rw [List.mem_singleton.mp hb]
      exact fun e => hk (e ▸ ha)⟩
theorem put_len (kvs : List (α × δ)) (k : α) (v : δ) : (putM kvs k v).length ≤ kvs.length + 1 := by
  unfold putM
  split <;> simp
theorem mem_put (kvs : List (α × δ)) (k l : α) (v : δ) : l ∈ keysM (putM kvs k v) ↔ l = k ∨ l ∈ keysM kvs := by
  rw [keys_put]
  split
  · rename_i h
    constructor
    · exact .inr
    · rintro (rfl | h2)
      · exact h
      · exact h2
  · rw [List.mem_append, List.mem_singleton, or_comm]
theorem get_isSome (kvs : List (α × δ)) (k : α) : (getM kvs k).isSome = decide (k ∈ keysM kvs) := by
  unfold getM keysM
  rw [Option.isSome_map, Bool.eq_iff_iff, List.find?_isSome, decide_eq_true_eq, List.mem_map]
  simp
theorem get_none {kvs : List (α × δ)} {k : α} (h : k ∉ keysM kvs) : getM kvs k = none := by
  have := get_isSome kvs k
  cases e : getM kvs k with
  | none => rfl
  | some v => rw [e] at this; simp [h] at this
theorem get_some {kvs : List (α × δ)} {k : α} (h : k ∈ keysM kvs) : ∃ v, getM kvs k = some v ∧ (k, v) ∈ kvs := by
  have := get_isSome kvs k
  cases e : getM kvs k with
  | none => rw [e] at this; simp [h] at this
  | some v =>
    refine ⟨v, rfl, ?_⟩
    unfold getM at e
    rw [Option.map_eq_some_iff] at e
    obtain ⟨q, h1, h2⟩ := e
    have h3 := List.find?_some h1
    have h4 := List.mem_of_find?_eq_some h1
    have h5 : q.1 = k := by simpa using h3
    rw [← h5, ← h2]
    exact h4
theorem get_put (kvs : List (α × δ)) (k l : α) (v : δ) : getM (putM kvs k v) l = if l = k then some v else getM kvs l := by
  unfold putM
  split
  · rename_i h
    have key : ∀ kvs : List (α × δ), k ∈ keysM kvs ∨ l ≠ k → getM (kvs.map fun q => if q.1 = k then (k, v) else q) l = if l = k then some v else getM kvs l := by
      intro kvs
      induction kvs with
      | nil => intro h; rcases h with h | h <;> simp_all [getM, keysM]
      | cons q kvs ih =>
        intro h
        unfold getM at ih ⊢
        rw [List.map_cons, List.find?_cons, List.find?_cons]
        by_cases hq : q.1 = k
        · by_cases hl : l = k
          · simp [hq, hl]
          · have hl2 : ¬ k = l := fun e => hl e.symm
            have := ih (.inr hl)
            simp [hq, hl, hl2] at this ⊢
            exact this
        · by_cases hl : l = k
          · have hq2 : ¬ k = q.1 := fun e => hq e.symm
            have : k ∈ keysM kvs := by
              rcases h with h | h
              · simpa [keysM, hq2] using h
              · exact absurd hl h
            have := ih (.inl this)
            simp [hq, hl] at this ⊢
            exact this
          · have := ih (.inr hl)
            by_cases hql : q.1 = l
            · simp [hq, hl, hql]
            · simp [hq, hl, hql] at this ⊢
              exact this
    exact key kvs (.inl h)
  · rename_i h
    unfold getM
    rw [List.find?_append]
    by_cases hl : l = k
    · subst hl
      have : kvs.find? (fun q => decide (q.1 = l)) = none := List.find?_eq_none.mpr fun q hq e => h (List.mem_map.mpr ⟨q, hq, by simpa using e⟩)
      simp [this]
    · have hl2 : ¬ k = l := fun e => hl e.symm
      simp [hl, hl2]
theorem set_ve [Pd α] [Ky α] (e : δ → V) (kvs : List (α × δ)) (k : α) (v : δ) : setVV (Pd.enc k) (e v) (ve e kvs) = if kvs.length < big then some (ve e (putM kvs k v), ()) else none := by
  show (if keysOk (kvs.map fun q => Pd.enc q.1) (Pd.enc k) = true ∧ (kvs.map fun q => Pd.enc q.1).length < big then some (V.dic (kputK _ _) (kputV _ _ _ (e v)), ()) else none) = _
  rw [keysOk_enc, List.length_map]
  simp only [true_and]
  split
  · congr 2
    have hi := kidx_enc k kvs
    unfold kputK kputV putM
    by_cases hk : k ∈ keysM kvs
    · rw [if_pos hk]
      cases hx : kidx (kvs.map fun q => Pd.enc q.1) (Pd.enc k) with
      | none => rw [hx] at hi; simp [hk] at hi
      | some n =>
        simp only [kset_enc]
        unfold ve
        have : (kvs.map fun q => if q.1 = k then (k, v) else q).map (fun q => Pd.enc q.1) = kvs.map fun q => Pd.enc q.1 := by
          have := congrArg (List.map (Pd.enc : α → P)) (keys_mapped kvs k v)
          unfold keysM at this
          rw [List.map_map, List.map_map, List.map_map] at this
          rw [List.map_map]
          exact this
        rw [this]
    · rw [if_neg hk]
      cases hx : kidx (kvs.map fun q => Pd.enc q.1) (Pd.enc k) with
      | some n => rw [hx] at hi; simp [hk] at hi
      | none =>
        simp only [ve, List.map_append, List.map_cons, List.map_nil]
  · rfl
@[simp] theorem set_vb [Pd α] [Ky α] (kvs : List (α × Bool)) (k : α) (b : Bool) (h : kvs.length < big) : setVV (Pd.enc k) (.p (.bl b)) (ve vb kvs) = some (ve vb (putM kvs k b), ()) := (set_ve vb kvs k b).trans (if_pos h)
@[simp] theorem set_vn [Pd α] [Ky α] [Pd β] (kvs : List (α × β)) (k : α) (b : β) (h : kvs.length < big) : setVV (Pd.enc k) (vn b) (ve vn kvs) = some (ve vn (putM kvs k b), ()) := (set_ve vn kvs k b).trans (if_pos h)
@[simp] theorem set_vl [Pd α] [Ky α] [Pd β] (kvs : List (α × List β)) (k : α) (b : List β) (h : kvs.length < big) : setVV (Pd.enc k) (vl b) (ve vl kvs) = some (ve vl (putM kvs k b), ()) := (set_ve vl kvs k b).trans (if_pos h)
theorem ve_nil [Pd α] (e : δ → V) : V.dic [] [] = ve e ([] : List (α × δ)) := id rfl
@[simp] theorem in_ve [Pd α] [Ky α] (e : δ → V) (kvs : List (α × δ)) (k : α) : cmpVV .In (vn k) (ve e kvs) = some (decide (k ∈ keysM kvs)) := by
  show (if keysOk (kvs.map fun q => Pd.enc q.1) (Pd.enc k) = true then some (kidx (kvs.map fun q => Pd.enc q.1) (Pd.enc k)).isSome else none) = _
  rw [keysOk_enc, if_pos rfl, kidx_enc]
@[simp] theorem notIn_ve [Pd α] [Ky α] (e : δ → V) (kvs : List (α × δ)) (k : α) : cmpVV .NotIn (vn k) (ve e kvs) = some (!decide (k ∈ keysM kvs)) := by
  show (cmpVV .In (vn k) (ve e kvs)).map _ = _
  rw [in_ve]
  rfl
@[simp] theorem idx_ve [Pd α] [Ky α] (e : δ → V) (kvs : List (α × δ)) (d : Nat) (k : α) : idxVV (ve e kvs, d) (vn k) = match getM kvs k with
    | some v => .ok (e v, d - 1)
    | none => .bad := by
  show (if keysOk (kvs.map fun q => Pd.enc q.1) (Pd.enc k) = true then _ else _) = _
  rw [keysOk_enc, if_pos rfl, kget_enc]
  cases getM kvs k <;> rfl
@[simp] theorem get_ve [Pd α] [Ky α] (e : δ → V) (kvs : List (α × δ)) (d d1 d2 : Nat) (k : α) (w : V) : mthVV .get (ve e kvs, d) [(vn k, d1), (w, d2)] = .ok (((getM kvs k).map e).getD w, 0) := by
  show (if keysOk (kvs.map fun q => Pd.enc q.1) (Pd.enc k) = true then _ else _) = _
  rw [keysOk_enc, if_pos rfl, kget_enc]
@[simp] theorem get_ve1 [Pd α] [Ky α] (e : δ → V) (kvs : List (α × δ)) (d d1 : Nat) (k : α) : mthVV .get (ve e kvs, d) [(vn k, d1)] = .ok (((getM kvs k).map e).getD (.p .non), 0) := by
  show (if keysOk (kvs.map fun q => Pd.enc q.1) (Pd.enc k) = true then _ else _) = _
  rw [keysOk_enc, if_pos rfl, kget_enc]
@[simp] theorem len_ve [Pd α] (e : δ → V) (kvs : List (α × δ)) (d : Nat) : bltVV .len [(ve e kvs, d)] = .ok (vn (kvs.length : Int), 0) := by
  show rO ((some (kvs.map fun q => Pd.enc q.1).length).map fun n : Nat => P.int (n : Int)) = _
  rw [List.length_map]
  rfl
@[simp] theorem sorted_ve [Pd α] [Sm α] (e : δ → V) (kvs : List (α × δ)) (d : Nat) (hn : (keysM kvs).Nodup) (hl : kvs.length ≤ 100000) : bltVV .sorted [(ve e kvs, d)] = .ok (vl (sortB (keysM kvs)), 1) := by
  have := sortedDic (keysM kvs) (kvs.map fun q => e q.2) d hn (by unfold keysM; simpa using hl)
  unfold keysM at this
  rw [List.map_map] at this
  exact this
@[simp] theorem rcv_ve [Pd α] (e : δ → V) (kvs : List (α × δ)) : rcvV (ve e kvs) = some .dict := id rfl
theorem fullVs_map (d : Nat) (e : δ → V) (h : ∀ a, fullV d (e a) = true) : ∀ xs : List δ, fullVs d (xs.map e) = true
  | [] => by unfold fullVs; rfl
  | x :: xs => by rw [List.map_cons, fullVs, h, fullVs_map d e h xs]; rfl
theorem fullV_ve [Pd α] (e : δ → V) (d : Nat) (h : ∀ a, fullV d (e a) = true) (kvs : List (α × δ)) : fullV (d + 1) (ve e kvs) = true := by
  unfold ve fullV
  have := fullVs_map d (fun q : α × δ => e q.2) (fun q => h q.2) kvs
  rw [Nat.add_sub_cancel, this]
  simp
@[simp] theorem aft_vevb [Pd α] (d : Nat) (kvs : List (α × Bool)) (is : List Nat) (σ : EV) : aft (ve vb kvs, d + 1) is σ = σ := if_pos (fullV_ve vb d (fun a => fullV_p d _) kvs)
@[simp] theorem aft_vevn [Pd α] [Pd β] (d : Nat) (kvs : List (α × β)) (is : List Nat) (σ : EV) : aft (ve vn kvs, d + 1) is σ = σ := if_pos (fullV_ve vn d (fun a => fullV_vn d a) kvs)
@[simp] theorem fullVs_nil (d : Nat) : fullVs d [] = true := by unfold fullVs; rfl
@[simp] theorem fullVs_cons (d : Nat) (v : V) (vs : List V) : fullVs d (v :: vs) = (fullV d v && fullVs d vs) := by rw [fullVs]
@[simp] theorem fullV_lst (d : Nat) (vs : List V) : fullV d (.lst vs) = (decide (0 < d) && fullVs (d - 1) vs) := by rw [fullV]
@[simp] theorem fullV_tup (d : Nat) (vs : List V) : fullV d (.tup vs) = fullVs d vs := by rw [fullV]
theorem data_two [Pd α] [Sm α] [Pd β] [Sm β] (a : List α) (b : List β) : dataV (.lst [vl a, vl b]) = some (.list [Datum.toD a, Datum.toD b]) := by
  have e1 : toDV 7 (vl a) = some (Datum.toD a) := by
    show (mapO (toDV 6) (a.map vn)).map PyData.list = _
    rw [mapO_vn]; rfl
  have e2 : toDV 7 (vl b) = some (Datum.toD b) := by
    show (mapO (toDV 6) (b.map vn)).map PyData.list = _
    rw [mapO_vn]; rfl
  unfold dataV
  have : toDV deepest (.lst [vl a, vl b]) = some (.list [Datum.toD a, Datum.toD b]) := by
    show (mapO (toDV 7) [vl a, vl b]).map PyData.list = _
    simp [mapO, e1, e2]
  rw [this]
  simp only
  have h1 : (Datum.toD a).depth ≤ Datum.depth (List α) := Datum.depth_le a
  have h2 : (Datum.toD b).depth ≤ Datum.depth (List β) := Datum.depth_le b
  have h3 : Datum.depth (List α) = Datum.depth α + 1 := id rfl
  have h4 : Datum.depth (List β) = Datum.depth β + 1 := id rfl
  have h5 := Sm.dep (α := α)
  have h6 := Sm.dep (α := β)
  rw [if_pos]
  simp only [PyData.depth, PyData.depthAll]
  omega
theorem eq_two' [Pd α] [Sm α] [Pd β] [Sm β] (a c : List α) (b d : List β) : eqVV (.lst [vl a, vl b]) (.lst [vl c, vl d]) = some (decide (a = c ∧ b = d)) := by
  unfold eqVV
  rw [data_two, data_two]
  simp only [PyData.eqv, PyData.eqvAll, Bool.and_true]
  rw [Datum.eqv, Datum.eqv]
  simp
@[simp] theorem eq_two [Pd α] [Sm α] [Pd β] [Sm β] (a c : List α) (b d : List β) : cmpVV .Eq (.lst [vl a, vl b]) (.lst [vl c, vl d]) = some (decide (a = c ∧ b = d)) := eq_two' a c b d
@[simp] theorem ne_two [Pd α] [Sm α] [Pd β] [Sm β] (a c : List α) (b d : List β) : cmpVV .NotEq (.lst [vl a, vl b]) (.lst [vl c, vl d]) = some (!decide (a = c ∧ b = d)) := by
  show (eqVV _ _).map _ = _
  rw [eq_two']
  rfl
@[simp] theorem eq_vl_nil [Pd α] [Sm α] (a : List α) : cmpVV .Eq (vl a) (.lst []) = some (decide (a = [])) := eq_vl a []
@[simp] theorem ne_vl_nil [Pd α] [Sm α] (a : List α) : cmpVV .NotEq (vl a) (.lst []) = some (!decide (a = [])) := ne_vl a []
@[simp] theorem vl_nil [Pd α] : vl ([] : List α) = .lst [] := id rfl
@[simp] theorem ve_nil' [Pd α] (e : δ → V) : ve e ([] : List (α × δ)) = .dic [] [] := id rfl
@[simp] theorem foldl_snoc {ε ζ : Type} (f : ε → ζ) : ∀ (xs : List ε) (s : List ζ), xs.foldl (fun s a => s ++ [f a]) s = s ++ xs.map f
  | [], s => by simp
  | x :: xs, s => by rw [List.foldl_cons, foldl_snoc f xs, List.map_cons, List.append_assoc]; rfl
theorem map_fin {ε : Type} (g : Nat → ε) (n : Nat) : (List.finRange n).map (fun k => g k.val) = (List.range n).map g := by
  rw [range_fin, List.map_map]
  rfl
@[simp] theorem atW_get {ε : Type} (xs : List ε) (i : Nat) (h : i < xs.length) : atW xs (i : Int) = some (xs[i]'h) := by
  rw [atW_nat, List.getElem?_eq_getElem h]
theorem atW_int {ε : Type} (xs : List ε) (i : Int) (h0 : 0 ≤ i) (h : i < xs.length) : atW xs i = some (xs[i.toNat]'(by omega)) := by
  have e := atW_nat xs i.toNat
  rw [Int.toNat_of_nonneg h0] at e
  rw [e, List.getElem?_eq_getElem]
@[simp] theorem idx_pick {p : Prop} [Decidable p] (v : VD) (i j : Int) : idxVV v (vn (if p then i else j)) = if p then idxVV v (vn i) else idxVV v (vn j) := by split <;> rfl
@[simp] theorem eq_nil_nil : cmpVV .Eq (.lst []) (.lst []) = some true := by
  have := eq_vl ([] : List Int) []
  rw [vl_nil] at this
  rw [this]
  rfl
@[simp] theorem ne_nil_nil : cmpVV .NotEq (.lst []) (.lst []) = some false := by
  show (cmpVV .Eq (.lst []) (.lst [])).map _ = _
  rw [eq_nil_nil]
  rfl
@[simp] theorem eq_nil_vl [Pd α] [Sm α] (a : List α) : cmpVV .Eq (.lst []) (vl a) = some (decide ([] = a)) := eq_vl [] a
@[simp] theorem ne_nil_vl [Pd α] [Sm α] (a : List α) : cmpVV .NotEq (.lst []) (vl a) = some (!decide ([] = a)) := ne_vl [] a
theorem cutL_last {ε : Type} (xs : List ε) (y : ε) : cutL (xs ++ [y]) none (some (-1)) = xs := by
  have : ((-1 : Int) + ((xs.length : Int) + 1)).toNat = xs.length := by omega
  simp [cutL, sliceIx, this]
@[simp] theorem slc_last [Pd α] (xs : List α) (y : V) (d : Nat) : slcVV (.lst (xs.map vn ++ [y]), d) none (some (-1)) = .ok (vl xs, 1) := by
  show RV.ok (V.lst (cutL (xs.map vn ++ [y]) none (some (-1))), 1) = _
  rw [cutL_last]
  rfl
theorem cutL_len {ε : Type} (xs : List ε) (lo hi : Option Int) : (cutL xs lo hi).length ≤ xs.length := by
  simp only [cutL, List.length_take, List.length_drop]
  omega
@[simp] theorem append_non [Pd α] (xs : List α) (d : Nat) (h : xs.length < big) : mutV .append [(.p .non, d)] (vl xs) = some (.lst (xs.map vn ++ [.p .non]), (.p .non, 0)) := mut_append_non _ _ _ h
end
end Vl

namespace Vl
open PySem Mi PySem.W
local macro_rules | `(tactic| array_get_dec) => `(tactic| first | assumption | omega | (simp only [big, List.length_map, List.length_append, List.length_cons, List.length_nil, List.length_reverse, List.length_finRange, List.length_range, List.length_set] <;> omega) | (simp; done))
abbrev Hole := Int × Int
abbrev Line := Hole × Hole
abbrev Pr := Line × Str
def Lim (i : Int) : Prop := -1000000000 ≤ i ∧ i ≤ 1000000000
def LimH (h : Hole) : Prop := Lim h.1 ∧ Lim h.2
def LineOk (l : Line) : Prop := LimH l.1 ∧ LimH l.2 ∧ (DatumOrd.lt l.1 l.2 : Bool) = true
section
variable (Q : Pg)
def b_law_cell_at' : List S := [
  .ite (.cmp .Lt (.var 1) (.blt .len [.var 0])) [.ret (.idx (.var 0) (.var 1))] [],
  .ret (.cst (.int 0))]
theorem cell_at {i : Nat} (h : Q.defs[i]? = some ⟨2, 2, b_law_cell_at'⟩) (n : Nat) (ns : List Int) (k : Nat) : callV Q (n + 1) i [.nd .fl (ns.map vn), vn (k : Int)] = .ok (vn (ns.getD k 0), 0) := by
  rw [call_stepV h]
  by_cases hk : k < ns.length
  · have h2 : (k : Int) < (ns.length : Int) := by omega
    simp [b_law_cell_at', startV, h2, hk, evR]
  · have h2 : ¬ (k : Int) < (ns.length : Int) := by omega
    simp [b_law_cell_at', startV, h2, hk, evR]
def b_law_whole' : List S := [.ret (.and (.isi (.var 0) [.int]) (.not (.isi (.var 0) [.bool])))]
theorem whole {i : Nat} (h : Q.defs[i]? = some ⟨1, 1, b_law_whole'⟩) (n : Nat) (x : Int) : callV Q (n + 1) i [vn x] = .ok (.p (.bl true), 0) := by
  rw [call_stepV h]
  simp [b_law_whole', startV, evR]
def b_law_hole' : List S := [
  .asg (.pt (.name 2)) (.bin .sub (.bin .mod (.var 0) (.cst (.int 11))) (.cst (.int 5))),
  .asg (.pt (.name 3)) (.bin .sub (.bin .mod (.bin .fdiv (.var 0) (.cst (.int 11))) (.cst (.int 11))) (.cst (.int 5))),
  .ite (.cmp .Eq (.var 1) (.cst (.int 1))) [.asg (.pt (.name 2)) (.bin .sub (.bin .pow (.cst (.int 10)) (.cst (.int 9))) (.bin .mod (.var 0) (.cst (.int 11))))] [],
  .ite (.cmp .Eq (.var 1) (.cst (.int 2))) [.asg (.pt (.name 3)) (.bin .sub (.bin .mod (.bin .fdiv (.var 0) (.cst (.int 11))) (.cst (.int 11))) (.bin .pow (.cst (.int 10)) (.cst (.int 9))))] [],
  .ite (.cmp .Eq (.var 1) (.cst (.int 3))) [.asg (.pt (.name 2)) (.bin .sub (.bin .mod (.bin .mul (.var 0) (.cst (.int 69621))) (.bin .add (.bin .mul (.cst (.int 2)) (.bin .pow (.cst (.int 10)) (.cst (.int 9)))) (.cst (.int 1)))) (.bin .pow (.cst (.int 10)) (.cst (.int 9)))), .asg (.pt (.name 3)) (.bin .sub (.bin .mod (.bin .mul (.var 0) (.cst (.int 40692))) (.bin .add (.bin .mul (.cst (.int 2)) (.bin .pow (.cst (.int 10)) (.cst (.int 9)))) (.cst (.int 1)))) (.bin .pow (.cst (.int 10)) (.cst (.int 9))))] [],
  .ret (.tup [.var 2, .var 3])]
theorem hole {i : Nat} (h : Q.defs[i]? = some ⟨4, 2, b_law_hole'⟩) (n : Nat) (number far : Int) : ∃ x y : Int, Lim x ∧ Lim y ∧ callV Q (n + 1) i [vn number, vn far] = .ok (vn (x, y), 8) := by
  rw [call_stepV h]
  by_cases h1 : far = 1
  · subst h1
    refine ⟨_, _, ?_, ?_, by simp [b_law_hole', startV, evR]; exact ⟨rfl, rfl⟩⟩ <;> (simp only [Lim]; omega)
  · by_cases h2 : far = 2
    · subst h2
      refine ⟨_, _, ?_, ?_, by simp [b_law_hole', startV, evR]; exact ⟨rfl, rfl⟩⟩ <;> (simp only [Lim]; omega)
    · by_cases h3 : far = 3
      · subst h3
        refine ⟨_, _, ?_, ?_, by simp [b_law_hole', startV, evR]; exact ⟨rfl, rfl⟩⟩ <;> (simp only [Lim]; omega)
      · refine ⟨_, _, ?_, ?_, by simp [b_law_hole', startV, evR, h1, h2, h3]; exact ⟨rfl, rfl⟩⟩ <;> (simp only [Lim]; omega)
def b_law_ends' (f : Nat) : List S := [
  .asg (.pt (.name 3)) (.call f [.var 0, .var 1]),
  .asg (.pt (.name 4)) (.bin .sub (.bin .mod (.bin .fdiv (.var 0) (.cst (.int 121))) (.idx (.lst [.cst (.int 19), .cst (.int 3)]) (.var 2))) (.idx (.lst [.cst (.int 9), .cst (.int 1)]) (.var 2))),
  .asg (.pt (.name 5)) (.bin .sub (.bin .mod (.bin .fdiv (.var 0) (.cst (.int 2299))) (.idx (.lst [.cst (.int 19), .cst (.int 3)]) (.var 2))) (.idx (.lst [.cst (.int 9), .cst (.int 1)]) (.var 2))),
  .ite (.and (.cmp .Eq (.var 4) (.cst (.int 0))) (.cmp .Eq (.var 5) (.cst (.int 0)))) [.asg (.pt (.name 4)) (.cst (.int 1))] [],
  .ite (.cmp .Gt (.blt .abs [.bin .add (.idx (.var 3) (.cst (.int 0))) (.var 4)]) (.bin .pow (.cst (.int 10)) (.cst (.int 9)))) [.asg (.pt (.name 4)) (.bin .sub (.cst (.int 0)) (.var 4))] [],
  .ite (.cmp .Gt (.blt .abs [.bin .add (.idx (.var 3) (.cst (.int 1))) (.var 5)]) (.bin .pow (.cst (.int 10)) (.cst (.int 9)))) [.asg (.pt (.name 5)) (.bin .sub (.cst (.int 0)) (.var 5))] [],
  .asg (.pt (.name 6)) (.tup [.bin .add (.idx (.var 3) (.cst (.int 0))) (.var 4), .bin .add (.idx (.var 3) (.cst (.int 1))) (.var 5)]),
  .ite (.cmp .Lt (.var 6) (.var 3)) [.ret (.tup [.var 6, .var 3])] [],
  .ret (.tup [.var 3, .var 6])]
def stepE (a e : Int) : Int := if 1000000000 < (if a + e < 0 then -(a + e) else a + e) then -e else e
theorem stepE_lim {a e : Int} (ha : Lim a) (he : -9 ≤ e ∧ e ≤ 9) : Lim (a + stepE a e) ∧ (stepE a e = 0 ↔ e = 0) := by
  simp only [Lim] at ha ⊢
  unfold stepE
  split
  · split at * <;> omega
  · split at * <;> omega
theorem ends_ok {i f : Nat} (h : Q.defs[i]? = some ⟨7, 3, b_law_ends' f⟩) (hf : Q.defs[f]? = some ⟨4, 2, b_law_hole'⟩) (n : Nat) (number far near : Int) (hn : near = 0 ∨ near = 1) : ∃ l : Line, LineOk l ∧ callV Q (n + 2) i [vn number, vn far, vn near] = .ok (vn l, 8) := by
  obtain ⟨x, y, hx, hy, hh⟩ := hole Q hf n number far
  have key : ∃ x' y' : Int, Lim x' ∧ Lim y' ∧ (x' ≠ x ∨ y' ≠ y) ∧ callV Q (n + 2) i [vn number, vn far, vn near] = .ok (vn ((if x' < x ∨ (x' = x ∧ y' < y) then x' else x, if x' < x ∨ (x' = x ∧ y' < y) then y' else y), (if x' < x ∨ (x' = x ∧ y' < y) then x else x', if x' < x ∨ (x' = x ∧ y' < y) then y else y')), 8) := by
    rw [show n + 2 = (n + 1) + 1 from rfl, call_stepV h (n + 1)]
    rcases hn with rfl | rfl
    · have he : -9 ≤ (if number / 121 % 19 - 9 = 0 ∧ number / 2299 % 19 - 9 = 0 then 1 else number / 121 % 19 - 9) ∧ (if number / 121 % 19 - 9 = 0 ∧ number / 2299 % 19 - 9 = 0 then 1 else number / 121 % 19 - 9) ≤ 9 := by split <;> omega
      have hm : -9 ≤ number / 2299 % 19 - 9 ∧ number / 2299 % 19 - 9 ≤ 9 := by omega
      have h0 : ¬ ((if number / 121 % 19 - 9 = 0 ∧ number / 2299 % 19 - 9 = 0 then 1 else number / 121 % 19 - 9) = 0 ∧ number / 2299 % 19 - 9 = 0) := by split <;> omega
      have s1 := stepE_lim hx he
      have s2 := stepE_lim hy hm
      refine ⟨_, _, s1.1, s2.1, ?_, by simp [b_law_ends', startV, evR, hh, big, stepE]; exact ⟨⟨by congr, by congr⟩, by congr, by congr⟩⟩
      omega
    · have he : -9 ≤ (if number / 121 % 3 - 1 = 0 ∧ number / 2299 % 3 - 1 = 0 then 1 else number / 121 % 3 - 1) ∧ (if number / 121 % 3 - 1 = 0 ∧ number / 2299 % 3 - 1 = 0 then 1 else number / 121 % 3 - 1) ≤ 9 := by split <;> omega
      have hm : -9 ≤ number / 2299 % 3 - 1 ∧ number / 2299 % 3 - 1 ≤ 9 := by omega
      have h0 : ¬ ((if number / 121 % 3 - 1 = 0 ∧ number / 2299 % 3 - 1 = 0 then 1 else number / 121 % 3 - 1) = 0 ∧ number / 2299 % 3 - 1 = 0) := by split <;> omega
      have s1 := stepE_lim hx he
      have s2 := stepE_lim hy hm
      refine ⟨_, _, s1.1, s2.1, ?_, by simp [b_law_ends', startV, evR, hh, big, stepE]; exact ⟨⟨by congr, by congr⟩, by congr, by congr⟩⟩
      omega
  obtain ⟨x', y', h1, h2, h3, h4⟩ := key
  by_cases hc : x' < x ∨ (x' = x ∧ y' < y)
  · refine ⟨((x', y'), (x, y)), ⟨⟨h1, h2⟩, ⟨hx, hy⟩, ?_⟩, ?_⟩
    · rw [lt_hole']; simpa using hc
    · simpa only [hc, if_true] using h4
  · refine ⟨((x, y), (x', y')), ⟨⟨hx, hy⟩, ⟨h1, h2⟩, ?_⟩, ?_⟩
    · rw [lt_hole']; simp only [decide_eq_true_eq]; omega
    · simpa only [hc, if_false] using h4
def l1_law_names' : List S := [.asg (.pt (.name 7)) (.bin .mul (.bin .mul (.cst (.int 7)) (.var 4)) (.blt .int [.cmp .Eq (.var 6) (.bin .mod (.bin .fdiv (.var 0) (.cst (.int 8))) (.var 2))])), .exp (.mth .append (.var 5) [.idx (.var 1) (.bin .mod (.bin .add (.bin .add (.bin .fdiv (.var 0) (.cst (.int 512))) (.bin .mul (.bin .mul (.cst (.int 3)) (.var 6)) (.var 6))) (.var 7)) (.cst (.int 26)))])]
def l2_law_names' : List S := [.asg (.pt (.name 5)) (.lst []), .for_ (.name 6) .rng [.var 2] l1_law_names', .exp (.mth .append (.var 3) [.mth .join (.cst (.str "")) [.var 5]])]
def b_law_names' : List S := [
  .asg (.pt (.name 1)) (.cst (.str "abcdefghijklmnopqrstuvwxyz")),
  .asg (.pt (.name 2)) (.bin .add (.cst (.int 1)) (.bin .mod (.var 0) (.cst (.int 8)))),
  .asg (.pt (.name 3)) (.lst []),
  .for_ (.name 4) .rng [.cst (.int 4)] l2_law_names',
  .ret (.var 3)]
def lets : List Nat := ("abcdefghijklmnopqrstuvwxyz" : Str).cps.toList
theorem lets_at (i : Int) : ∃ c, atW lets (i % 26) = some c ∧ c ∈ lets := by
  have hi : (i % 26).toNat < 26 := by omega
  have : lets = List.range' 97 26 := by decide
  have ha := atW_nat lets (i % 26).toNat
  rw [Int.toNat_of_nonneg (by omega)] at ha
  refine ⟨lets[(i % 26).toNat]'(by rw [this]; simpa using hi), ?_, List.getElem_mem _⟩
  rw [ha, List.getElem?_eq_getElem]
noncomputable def sg (cell j many : Int) (k : Nat) : Nat := (lets_at (cell / 512 + 3 * (k : Int) * (k : Int) + 7 * j * (if (k : Int) = cell / 8 % many then 1 else 0))).choose
theorem sg_at (cell j many : Int) (k : Nat) : atW lets ((cell / 512 + 3 * (k : Int) * (k : Int) + 7 * j * (if (k : Int) = cell / 8 % many then 1 else 0)) % 26) = some (sg cell j many k) ∧ sg cell j many k ∈ lets :=
  (lets_at (cell / 512 + 3 * (k : Int) * (k : Int) + 7 * j * (if (k : Int) = cell / 8 % many then 1 else 0))).choose_spec
theorem len_abc : ("abcdefghijklmnopqrstuvwxyz" : Str).length ≤ big := by
  have h : ("abcdefghijklmnopqrstuvwxyz" : Str).length = 26 := by decide
  simp only [big]
  omega
theorem names_sign (n : Nat) (X : Str) (hX : X.length ≤ big) (cell j many kk : Int) (c : Nat) (hgk : atW X.cps.toList ((cell / 512 + 3 * kk * kk + 7 * j * (if kk = cell / 8 % many then 1 else 0)) % 26) = some c) (hm : 1 ≤ many ∧ many ≤ 8) (hj : 0 ≤ j ∧ j < 4) (w o : Option VD) (hk : kk < many ∧ 0 ≤ kk) (ss : List Str) (hl : ss.length < big) :
    ∃ o', runsV Q (callV Q n) l1_law_names' [some (vn cell, 0), some (vn X, 0), some (vn many, 0), w, some (vn j, 0), some (vl ss, 9), some (vn kk, 0), o] =
      .nx [some (vn cell, 0), some (vn X, 0), some (vn many, 0), w, some (vn j, 0), some (vl (ss ++ [oneS c]), 9), some (vn kk, 0), o'] := by
  have e4 : ∀ (p : Prop) [Decidable p], opVV .mul (vn (7 * j)) (vn (if p then (1 : Int) else 0)) = .ok (vn (7 * j * (if p then 1 else 0)), 0) := fun p _ => mul_int _ _ (by split <;> omega)
  refine ⟨some (vn (7 * j * (if kk = cell / 8 % many then 1 else 0)), 0), ?_⟩
  simp (disch := array_get_dec) [l1_law_names', hgk, oneS, e4]
theorem names_turn (n : Nat) (X : Str) (hX : X.length ≤ big) (g : Nat → Nat) (cell j many : Int) (hg : ∀ k : Nat, atW X.cps.toList ((cell / 512 + 3 * (k : Int) * (k : Int) + 7 * j * (if (k : Int) = cell / 8 % many then 1 else 0)) % 26) = some (g k)) (hm : 1 ≤ many ∧ many ≤ 8) (hj : 0 ≤ j ∧ j < 4) (names : List Str) (hn : names.length < big) (o5 o6 o7 : Option VD) :
    ∃ o5' o6' o7' : Option VD, runsV Q (callV Q n) l2_law_names' [some (vn cell, 0), some (vn X, 0), some (vn many, 0), some (vl names, 9), some (vn j, 0), o5, o6, o7] =
      .nx [some (vn cell, 0), some (vn X, 0), some (vn many, 0), some (vl (names ++ [strOf ((List.range many.toNat).map g)]), 9), some (vn j, 0), o5', o6', o7'] := by
  obtain ⟨⟨o6', o7'⟩, h1, -⟩ := forV_st (pt := .name 6) (f := runsV Q (callV Q n) l1_law_names') (fun k : Fin many.toNat => vn ((k.val : Nat) : Int))
    (fun (ss : List Str) (t : Option VD × Option VD) => [some (vn cell, 0), some (vn X, 0), some (vn many, 0), some (vl names, 9), some (vn j, 0), some (vl ss, 9), t.1, t.2]) (fun ss k => ss ++ [oneS (g k.val)]) (fun done ss => ss.length = done.length)
    (List.finRange many.toNat) [] (o6, o7) rfl (fun done k rest ss t ha hl => by
      have hl2 := congrArg List.length ha
      simp at hl2
      refine ⟨by simp [hl], ?_⟩
      obtain ⟨o', h⟩ := names_sign Q n X hX cell j many k.val (g k.val) (hg k.val) hm hj (some (vl names, 9)) t.2 (by omega) ss (by simp only [big]; omega)
      exact ⟨(_, o'), h⟩)
  have e : (List.finRange many.toNat).map (fun k => oneS (g k.val)) = ((List.range many.toNat).map g).map oneS := by
    rw [map_fin (fun k => oneS (g k)), List.map_map]; rfl
  rw [foldl_snoc, e] at h1
  simp only [vl_nil, List.nil_append] at h1
  have ej := mth_join1 0 0 ((List.range many.toNat).map g) (by simp; omega)
  refine ⟨some (vl (((List.range many.toNat).map g).map oneS), 9), o6', o7', ?_⟩
  simp (disch := array_get_dec) [l2_law_names', h1, ej, -List.map_map]
def NameOk (t : Str) : Prop := (1 ≤ t.length ∧ t.length ≤ 8) ∧ ∀ c ∈ t.cps.toList, c ∈ lets
noncomputable def nameOf (cell : Int) (j : Nat) : Str := strOf ((List.range (1 + cell % 8).toNat).map (sg cell j (1 + cell % 8)))
theorem nameOf_ok (cell : Int) (j : Nat) : NameOk (nameOf cell j) := by
  unfold nameOf
  refine ⟨by simp; omega, fun c hc => ?_⟩
  simp at hc
  obtain ⟨k, _, rfl⟩ := hc
  exact (sg_at cell j (1 + cell % 8) k).2
theorem names_ok {i : Nat} (h : Q.defs[i]? = some ⟨8, 1, b_law_names'⟩) (n : Nat) (cell : Int) : callV Q (n + 1) i [vn cell] = .ok (vl ((List.range 4).map (nameOf cell)), 9) := by
  have hmd : 1 ≤ 1 + cell % 8 ∧ 1 + cell % 8 ≤ 8 := by omega
  obtain ⟨⟨o4, o5, o6, o7⟩, h1, -⟩ := forV_st (pt := .name 4) (f := runsV Q (callV Q n) l2_law_names') (fun k : Fin 4 => vn ((k.val : Nat) : Int))
    (fun (ss : List Str) (t : Option VD × Option VD × Option VD × Option VD) => [some (vn cell, 0), some (vn ("abcdefghijklmnopqrstuvwxyz" : Str), 0), some (vn (1 + cell % 8), 0), some (vl ss, 9), t.1, t.2.1, t.2.2.1, t.2.2.2]) (fun ss k => ss ++ [nameOf cell k.val]) (fun done ss => ss.length = done.length)
    (List.finRange 4) [] (none, none, none, none) rfl (fun done k rest ss t ha hl => by
      have hl2 := congrArg List.length ha
      simp only [List.length_finRange, List.length_append, List.length_cons] at hl2
      refine ⟨by simp [hl], ?_⟩
      obtain ⟨o5', o6', o7', h5⟩ := names_turn Q n _ len_abc (sg cell k.val (1 + cell % 8)) cell k.val (1 + cell % 8) (fun i => (sg_at cell k.val (1 + cell % 8) i).1) hmd (by omega) ss (by simp only [big]; omega) t.2.1 t.2.2.1 t.2.2.2
      exact ⟨(_, o5', o6', o7'), h5⟩)
  have e : (List.finRange 4).map (fun k => nameOf cell k.val) = (List.range 4).map (nameOf cell) := map_fin (nameOf cell) 4
  rw [foldl_snoc, e] at h1
  simp only [vl_nil, List.nil_append] at h1
  rw [call_stepV h]
  simp (disch := array_get_dec) [b_law_names', startV, evR, h1]
def l1_law_pairs' (f : Nat) : List S := [.asg (.pt (.name 5)) (.bin .mod (.bin .mul (.var 4) (.cst (.int 48271))) (.cst (.int 2147483647))), .asg (.pt (.name 6)) (.call f [.var 5, .idx (.lst [.cst (.int 0), .cst (.int 0), .cst (.int 0), .cst (.int 0), .cst (.int 1), .cst (.int 2), .cst (.int 3), .cst (.int 0)]) (.bin .mod (.var 1) (.cst (.int 8))), .bin .mod (.bin .fdiv (.var 1) (.cst (.int 8))) (.cst (.int 2))]), .asg (.pt (.name 7)) (.bin .add (.bin .add (.bin .add (.bin .mul (.cst (.int 5)) (.idx (.idx (.var 6) (.cst (.int 0))) (.cst (.int 0)))) (.bin .mul (.cst (.int 3)) (.idx (.idx (.var 6) (.cst (.int 0))) (.cst (.int 1))))) (.idx (.idx (.var 6) (.cst (.int 1))) (.cst (.int 0)))) (.bin .mul (.cst (.int 7)) (.idx (.idx (.var 6) (.cst (.int 1))) (.cst (.int 1))))), .exp (.mth .append (.var 3) [.tup [.var 6, .idx (.var 2) (.bin .mod (.var 7) (.cst (.int 4)))]])]
def b_law_pairs' (f : Nat) : List S := [
  .asg (.pt (.name 3)) (.lst []),
  .for_ (.name 4) .val [.var 0] (l1_law_pairs' f),
  .ret (.var 3)]
def PrOk (p : Pr) : Prop := LineOk p.1 ∧ NameOk p.2
theorem mod_at {α : Type} (xs : List α) (m : Nat) (mi : Int) (hmi : mi = m) (hm : 0 < m) (hl : xs.length = m) (i : Int) : ∃ x, atW xs (i % mi) = some x ∧ x ∈ xs := by
  subst hmi
  have h0 : 0 ≤ i % (m : Int) := Int.emod_nonneg _ (by omega)
  have h1 : i % (m : Int) < m := Int.emod_lt_of_pos _ (by omega)
  have ha := atW_nat xs (i % (m : Int)).toNat
  rw [Int.toNat_of_nonneg h0] at ha
  have h2 : (i % (m : Int)).toNat < xs.length := by omega
  exact ⟨xs[(i % (m : Int)).toNat], by rw [ha, List.getElem?_eq_getElem h2], List.getElem_mem _⟩
theorem pair_one {e h : Nat} (he : Q.defs[e]? = some ⟨7, 3, b_law_ends' h⟩) (hh : Q.defs[h]? = some ⟨4, 2, b_law_hole'⟩) (n : Nat) (ns : List Str) (hl : ns.length = 4) (hns : ∀ t ∈ ns, NameOk t) (shape cell : Int) :
    ∃ x : Pr, PrOk x ∧ x.2 ∈ ns ∧ ∀ (w o5 o6 o7 : Option VD) (acc : List Pr), acc.length < big → ∃ o5' o6' o7', runsV Q (callV Q (n + 2)) (l1_law_pairs' e) [w, some (vn shape, 0), some (vl ns, 0), some (vl acc, 9), some (vn cell, 0), o5, o6, o7] =
      .nx [w, some (vn shape, 0), some (vl ns, 0), some (vl (acc ++ [x]), 9), some (vn cell, 0), o5', o6', o7'] := by
  obtain ⟨far, hfar, _⟩ := mod_at [vn (0 : Int), vn (0 : Int), vn (0 : Int), vn (0 : Int), vn (1 : Int), vn (2 : Int), vn (3 : Int), vn (0 : Int)] 8 8 rfl (by omega) rfl shape
  obtain ⟨f, rfl⟩ : ∃ f : Int, far = vn f := by
    rename_i hm
    simp at hm
    rcases hm with h | h | h | h | h <;> exact ⟨_, h⟩
  obtain ⟨⟨⟨a, b⟩, c, d⟩, hok, hcall⟩ := ends_ok Q he hh n (cell * 48271 % 2147483647) f (shape / 8 % 2) (by omega)
  obtain ⟨⟨ha, hb⟩, ⟨hc, hd⟩, _⟩ := hok
  simp only [Lim] at ha hb hc hd
  obtain ⟨t, ht, htm⟩ := mod_at ns 4 4 rfl (by omega) hl (5 * a + 3 * b + c + 7 * d)
  refine ⟨(((a, b), (c, d)), t), ⟨⟨⟨ha, hb⟩, ⟨hc, hd⟩, by assumption⟩, hns t htm⟩, htm, fun w o5 o6 o7 acc hacc => ?_⟩
  simp (disch := array_get_dec) [l1_law_pairs', hfar, hcall, ht]
theorem pairs_ok {i e h : Nat} (hi : Q.defs[i]? = some ⟨8, 3, b_law_pairs' e⟩) (he : Q.defs[e]? = some ⟨7, 3, b_law_ends' h⟩) (hh : Q.defs[h]? = some ⟨4, 2, b_law_hole'⟩) (n : Nat) (cells : List Int) (hc : cells.length ≤ 100000) (ns : List Str) (hl : ns.length = 4) (hns : ∀ t ∈ ns, NameOk t) (shape : Int) :
    ∃ ps : List Pr, ps.length = cells.length ∧ (∀ x ∈ ps, PrOk x) ∧ (∀ x ∈ ps, x.2 ∈ ns) ∧ callV Q (n + 3) i [vl cells, vn shape, vl ns] = .ok (vl ps, 9) := by
  have one := fun cell => pair_one Q he hh n ns hl hns shape cell
  obtain ⟨⟨o4, o5, o6, o7⟩, h1, -⟩ := forV_st (pt := .name 4) (f := runsV Q (callV Q (n + 2)) (l1_law_pairs' e)) (vn : Int → V)
    (fun (ps : List Pr) (t : Option VD × Option VD × Option VD × Option VD) => [some (vl cells, 0), some (vn shape, 0), some (vl ns, 0), some (vl ps, 9), t.1, t.2.1, t.2.2.1, t.2.2.2]) (fun ps c => ps ++ [(one c).choose]) (fun done ps => ps.length = done.length)
    cells [] (none, none, none, none) rfl (fun done a rest ps t ha hl2 => by
      have hl3 := congrArg List.length ha
      simp only [List.length_append, List.length_cons] at hl3
      refine ⟨by simp [hl2], ?_⟩
      obtain ⟨o5', o6', o7', h4⟩ := (one a).choose_spec.2.2 (some (vl cells, 0)) t.2.1 t.2.2.1 t.2.2.2 ps (by simp only [big]; omega)
      exact ⟨(_, o5', o6', o7'), h4⟩)
  rw [foldl_snoc] at h1
  simp only [vl_nil, List.nil_append] at h1
  refine ⟨cells.map fun c => (one c).choose, by simp, fun x hx => ?_, fun x hx => ?_, ?_⟩
  · obtain ⟨c, _, rfl⟩ := List.mem_map.mp hx
    exact (one c).choose_spec.1
  · obtain ⟨c, _, rfl⟩ := List.mem_map.mp hx
    exact (one c).choose_spec.2.1
  rw [show n + 3 = (n + 2) + 1 from rfl, call_stepV hi]
  simp (disch := array_get_dec) [b_law_pairs', startV, evR, frz, occs, occ, h1]
def b_law_own' (i0 i1 i2 : Nat) : List S := [
  .asg (.pt (.name 2)) (.call i1 [.call i0 [.var 0, .cst (.int 1)]]),
  .ret (.srs (.call i2 [.var 1, .call i0 [.var 0, .cst (.int 0)], .var 2]))]
theorem own_ok {i i0 i1 i2 e h : Nat} (ho : Q.defs[i]? = some ⟨3, 2, b_law_own' i0 i1 i2⟩) (h0 : Q.defs[i0]? = some ⟨2, 2, b_law_cell_at'⟩) (h1 : Q.defs[i1]? = some ⟨8, 1, b_law_names'⟩) (hi : Q.defs[i2]? = some ⟨8, 3, b_law_pairs' e⟩) (he : Q.defs[e]? = some ⟨7, 3, b_law_ends' h⟩) (hh : Q.defs[h]? = some ⟨4, 2, b_law_hole'⟩) (n : Nat) (script cells : List Int) (hc : cells.length ≤ 300) :
    ∃ ps : List Pr, ps.length ≤ cells.length ∧ (∀ x ∈ ps, PrOk x) ∧ ps.Nodup ∧ (ps.Pairwise fun a b => DatumOrd.lt b a = false) ∧ callV Q (n + 4) i [.nd .fl (script.map vn), vl cells] = .ok (vl ps, 1) := by
  have a3 := names_ok Q h1 (n + 2) (script.getD 1 0)
  obtain ⟨ps, b1, b2, b3, b4⟩ := pairs_ok Q hi he hh n cells (by omega) ((List.range 4).map (nameOf (script.getD 1 0))) (by simp) (fun t ht => by
    obtain ⟨j, _, rfl⟩ := List.mem_map.mp ht
    exact nameOf_ok _ _) (script.getD 0 0)
  refine ⟨setB ps, ?_, ?_, setB_nodup ps, setB_pw ps, ?_⟩
  · have := setB_len ps
    omega
  · intro x hx
    exact b2 x (setB_mem.mp hx)
  · have c0 := cell_at Q h0 (n + 2) script 0
    have c1 := cell_at Q h0 (n + 2) script 1
    have hl : ps.length ≤ 300 := by omega
    rw [show n + 4 = (n + 3) + 1 from rfl, call_stepV ho]
    simp at c0 c1 a3 b4
    simp [b_law_own', startV, evR, c0, c1, a3, b4, hl]
def b_law_is_hole' (w : Nat) : List S := [
  .ret (.and (.isi (.var 0) [.tuple]) (.and (.cmp .Eq (.blt .len [.var 0]) (.cst (.int 2))) (.and (.call w [.idx (.var 0) (.cst (.int 0))]) (.call w [.idx (.var 0) (.cst (.int 1))]))))]
theorem is_hole {i w : Nat} (hi : Q.defs[i]? = some ⟨1, 1, b_law_is_hole' w⟩) (hw : Q.defs[w]? = some ⟨1, 1, b_law_whole'⟩) (n : Nat) (a : Hole) : callV Q (n + 2) i [vn a] = .ok (.p (.bl true), 0) := by
  have hh := whole Q hw n
  rw [show n + 2 = (n + 1) + 1 from rfl, call_stepV hi]
  simp [b_law_is_hole', startV, evR, hh]
def l1_law_same' (h : Nat) : List S := [.ite (.or (.not (.isi (.var 2) [.tuple])) (.or (.cmp .NotEq (.blt .len [.var 2]) (.cst (.int 2))) (.not (.isi (.idx (.var 2) (.cst (.int 1))) [.str])))) [.ret (.cst (.bl false))] [], .ite (.or (.not (.isi (.idx (.var 2) (.cst (.int 0))) [.tuple])) (.cmp .NotEq (.blt .len [.idx (.var 2) (.cst (.int 0))]) (.cst (.int 2)))) [.ret (.cst (.bl false))] [], .ite (.or (.not (.call h [.idx (.idx (.var 2) (.cst (.int 0))) (.cst (.int 0))])) (.not (.call h [.idx (.idx (.var 2) (.cst (.int 0))) (.cst (.int 1))]))) [.ret (.cst (.bl false))] []]
def b_law_same' (h : Nat) : List S := [
  .ite (.or (.not (.isi (.var 0) [.list])) (.cmp .NotEq (.blt .len [.var 0]) (.blt .len [.var 1]))) [.ret (.cst (.bl false))] [],
  .for_ (.name 2) .val [.var 0] (l1_law_same' h),
  .ret (.cmp .Eq (.var 0) (.var 1))]
theorem same_turn {h w : Nat} (hi : Q.defs[h]? = some ⟨1, 1, b_law_is_hole' w⟩) (hw : Q.defs[w]? = some ⟨1, 1, b_law_whole'⟩) (n : Nat) (x : Pr) (a b : Option VD) : runsV Q (callV Q (n + 2)) (l1_law_same' h) [a, b, some (vn x, 0)] = .nx [a, b, some (vn x, 0)] := by
  have hh := is_hole Q hi hw n
  simp [l1_law_same', hh]
theorem same_ok {i h w : Nat} (hs : Q.defs[i]? = some ⟨3, 2, b_law_same' h⟩) (hi : Q.defs[h]? = some ⟨1, 1, b_law_is_hole' w⟩) (hw : Q.defs[w]? = some ⟨1, 1, b_law_whole'⟩) (n : Nat) (xs : List Pr) : callV Q (n + 3) i [vl xs, vl xs] = .ok (.p (.bl true), 0) := by
  obtain ⟨σ', h1, o, rfl⟩ := forV_all (pt := .name 2) (f := runsV Q (callV Q (n + 2)) (l1_law_same' h)) (vn : Pr → V)
    (fun done σ => ∃ o, σ = [some (vl xs, 0), some (vl xs, 0), o])
    xs (σ := [some (vl xs, 0), some (vl xs, 0), none]) ⟨_, rfl⟩
    (fun done x rest σ ha => by
      rintro ⟨o, rfl⟩
      exact ⟨_, _, rfl, same_turn Q hi hw n x _ _, _, rfl⟩)
  rw [show n + 3 = (n + 2) + 1 from rfl, call_stepV hs]
  simp [b_law_same', startV, evR, frz, occs, occ]
  rw [h1]
  simp
end
end Vl

namespace K16
open PySem Mi Vl PySem.W
local macro_rules | `(tactic| array_get_dec) => `(tactic| first | assumption | omega | (simp only [big, List.length_map, List.length_append, List.length_cons, List.length_nil, List.length_reverse, List.length_finRange, List.length_range, List.length_set] <;> omega) | (simp; done))
def l1_less : List S := [.asg (.idx (.var 2) (.var 3)) (.cst (.bl true))]
def y1_less : E := (.var 5)
abbrev q1_less : E := .lc [5] (.name 5) .val [.var 0] [.cmp .NotIn (.idx (.var 5) (.cst (.int 0))) (.var 2)] y1_less
def b_less : List S := [
  .asg (.pt (.name 2)) (.dct []),
  .for_ (.tup [.name 3, .name 4]) .val [.var 1] l1_less,
  .ret (q1_less)]
def y1_law : E := (.idx (.var 1) (.var 10))
abbrev q1_law : E := .lc [10] (.name 10) .rng [.blt .len [.var 1]] [.cmp .Lt (.bin .mod (.bin .add (.bin .mul (.var 10) (.var 10)) (.var 2)) (.cst (.int 5))) (.cst (.int 3))] y1_law
def y2_law : E := (.idx (.var 1) (.var 10))
abbrev q2_law : E := .lc [10] (.name 10) .rng [.blt .len [.var 1]] [.cmp .Gt (.bin .mod (.bin .add (.bin .mul (.var 10) (.var 10)) (.var 2)) (.cst (.int 5))) (.cst (.int 1))] y2_law
def y3_law : E := (.tup [.var 11, .idx (.lst [.cst (.str "ink"), .bin .add (.slc (.var 12) [] [.cst (.int 7)]) (.cst (.str "q"))]) (.blt .int [.cmp .Eq (.var 12) (.cst (.str "ink"))])])
abbrev q3_law : E := .lc [11, 12] (.tup [.name 11, .name 12]) .val [.var 4] [] y3_law
def y4_law : E := (.var 11)
abbrev q4_law : E := .lc [11, 12] (.tup [.name 11, .name 12]) .val [.var 4] [] y4_law
def y5_law : E := (.var 13)
abbrev q5_law : E := .lc [13] (.name 13) .val [.var 3] [.cmp .NotIn (.idx (.var 13) (.cst (.int 0))) (.var 6)] y5_law
def b_law : List S := [
  .asg (.pt (.name 1)) (.call 7 [.var 0, .slc (.var 0) [.cst (.int 2)] [.cst (.int 62)]]),
  .asg (.pt (.name 2)) (.bin .mod (.bin .mul (.call 1 [.var 0, .cst (.int 1)]) (.cst (.int 69621))) (.cst (.int 2147483629))),
  .asg (.pt (.name 3)) (q1_law),
  .asg (.pt (.name 4)) (q2_law),
  .ite (.cmp .Eq (.bin .mod (.var 2) (.cst (.int 2))) (.cst (.int 1))) [.asg (.pt (.name 4)) (q3_law)] [],
  .asg (.pt (.name 5)) (.lst [.blt .list [.var 3], .blt .list [.var 4]]),
  .asg (.pt (.name 6)) (q4_law),
  .asg (.pt (.name 7)) (q5_law),
  .asg (.pt (.name 8)) (.call 0 [.idx (.var 5) (.cst (.int 0)), .idx (.var 5) (.cst (.int 1))]),
  .ite (.or (.not (.call 9 [.var 8, .var 7])) (.cmp .NotEq (.var 5) (.lst [.var 3, .var 4]))) [.ret (.cst (.bl false))] [],
  .exp (.mth .append (.var 8) [.cst (.non)]),
  .asg (.pt (.name 9)) (.call 0 [.idx (.var 5) (.cst (.int 0)), .lst []]),
  .exp (.mth .append (.var 9) [.cst (.non)]),
  .ite (.or (.cmp .NotEq (.var 5) (.lst [.var 3, .var 4])) (.cmp .NotEq (.slc (.var 9) [] [.neg (.cst (.int 1))]) (.var 3))) [.ret (.cst (.bl false))] [],
  .ret (.and (.cmp .Eq (.call 0 [.var 3, .var 3]) (.lst [])) (.and (.cmp .Eq (.call 0 [.var 3, .lst []]) (.var 3)) (.and (.cmp .Eq (.call 0 [.lst [], .var 3]) (.lst [])) (.call 9 [.call 0 [.var 3, .var 4], .var 7]))))]
def prog : Pg := ⟨[⟨6, 2, b_less⟩, ⟨2, 2, b_law_cell_at'⟩, ⟨1, 1, b_law_whole'⟩, ⟨4, 2, b_law_hole'⟩, ⟨7, 3, b_law_ends' 3⟩, ⟨8, 1, b_law_names'⟩, ⟨8, 3, b_law_pairs' 4⟩, ⟨3, 2, b_law_own' 1 5 6⟩, ⟨1, 1, b_law_is_hole' 2⟩, ⟨3, 2, b_law_same' 8⟩, ⟨14, 1, b_law⟩], []⟩
def lessB (xs ys : List Pr) : List Pr := xs.filter fun p => !decide (p.1 ∈ ys.map (·.1))
theorem less_ok (n : Nat) (xs ys : List Pr) (hx : xs.length ≤ 100000) (hy : ys.length ≤ 100000) : callV prog (n + 1) 0 [vl xs, vl ys] = .ok (vl (lessB xs ys), 9) := by
  obtain ⟨⟨o3, o4⟩, h1, hl, hk⟩ := forV_st (pt := .tup [.name 3, .name 4]) (f := runsV prog (callV prog n) l1_less) (vn : Pr → V)
    (fun (kvs : List (Line × Bool)) (t : Option VD × Option VD) => [some (vl xs, 0), some (vl ys, 0), some (ve vb kvs, 1), t.1, t.2, none]) (fun kvs x => putM kvs x.1 true)
    (fun done kvs => kvs.length ≤ done.length ∧ ∀ l, l ∈ keysM kvs ↔ l ∈ done.map (·.1)) ys [] (none, none) (by simp [keysM])
    (fun done x rest kvs t ha => by
      rintro ⟨hl, hk⟩
      have hl2 := congrArg List.length ha
      simp at hl2
      refine ⟨⟨?_, fun l => ?_⟩, ?_⟩
      · have := put_len kvs x.1 true
        simp; omega
      · rw [mem_put, hk]
        simp [or_comm]
      · have := set_vb kvs x.1 true (by simp only [big]; omega)
        simp (disch := array_get_dec) [l1_less, this])
  rw [call_stepV (show prog.defs[0]? = some ⟨6, 2, b_less⟩ from rfl)]
  generalize List.foldl (fun kvs (x : Pr) => putM kvs x.1 true) [] ys = kvs at h1 hk
  simp only [ve_nil'] at h1
  simp (disch := array_get_dec) [b_less, startV, evR, h1, y1_less, evV_lc, lcV_M]
  have : (fun x : Pr => !decide (x.1 ∈ keysM kvs)) = fun p : Pr => !decide (p.1 ∈ ys.map (·.1)) := by
    funext x
    rw [decide_eq_decide.mpr (hk x.1)]
  simp [this, lessB]
theorem one_ok (n : Nat) (ps : List Pr) (c : Int) (hl : ps.length ≤ 300) (u o3 o4 o5 o6 o7 o8 o9 o10 o11 o12 o13 : Option VD) (d : Nat) : ∃ one : List Pr, one.length ≤ 300 ∧ evV prog (callV prog n) q1_law [u, some (vl ps, d), some (vn c, 0), o3, o4, o5, o6, o7, o8, o9, o10, o11, o12, o13] = .ok (vl one, 9) := by
  refine ⟨_, ?_, by simp (disch := array_get_dec) [y1_law, evV_lc, lcV_M]; rfl⟩
  simp
  exact Nat.le_trans (List.length_filter_le _ _) (by simpa using hl)
theorem two_ok (n : Nat) (ps : List Pr) (c : Int) (hl : ps.length ≤ 300) (u o3 o4 o5 o6 o7 o8 o9 o10 o11 o12 o13 : Option VD) (d : Nat) : ∃ one : List Pr, (one.length ≤ 300 ∧ ∀ x ∈ one, x ∈ ps) ∧ evV prog (callV prog n) q2_law [u, some (vl ps, d), some (vn c, 0), o3, o4, o5, o6, o7, o8, o9, o10, o11, o12, o13] = .ok (vl one, 9) := by
  refine ⟨_, ⟨?_, ?_⟩, by simp (disch := array_get_dec) [y2_law, evV_lc, lcV_M]; rfl⟩
  · simp only [List.length_map]
    exact Nat.le_trans (List.length_filter_le _ _) (by simpa using hl)
  · intro x hx
    obtain ⟨k, _, rfl⟩ := List.mem_map.mp hx
    exact List.getElem_mem _
theorem three_ok (n : Nat) (ps : List Pr) (hl : ps.length ≤ 300) (hs : ∀ x ∈ ps, x.2.length ≤ 8) (u o1 o2 o3 o5 o6 o7 o8 o9 o10 o11 o12 o13 : Option VD) (d : Nat) : ∃ one : List Pr, one.length ≤ 300 ∧ evV prog (callV prog n) q3_law [u, o1, o2, o3, some (vl ps, d), o5, o6, o7, o8, o9, o10, o11, o12, o13] = .ok (vl one, 9) := by
  obtain ⟨ys, h1, -, h2⟩ := lcM_ex (α := Pr) (f := fun x : Pr => lcT prog (callV prog n) [11, 12] (.tup [.name 11, .name 12]) [] y3_law [u, o1, o2, o3, some (vl ps, d), o5, o6, o7, o8, o9, o10, o11, o12, o13] (vn x)) (fun _ _ => True) (xs := ps) (by simp only [big]; omega) (fun x hx => by
    have := hs x hx
    have h1 : (⟨(cutL x.2.cps.toList none (some 7)).toArray⟩ : Str).length ≤ 8 := by
      have := cutL_len x.2.cps.toList none (some 7)
      simp [Str.length] at this ⊢
      simp [Str.length] at hs
      have := hs x.1.1.1 x.1.1.2 x.1.2.1 x.1.2.2 x.2 hx
      omega
    have h2 : ("q" : Str).length = 1 := rfl
    simp (disch := array_get_dec) [y3_law])
  exact ⟨ys, by omega, by simp (disch := array_get_dec) [evV_lc, lcV_M]; exact h2⟩
theorem same1 (n : Nat) (xs : List Pr) : callV prog (n + 3) 9 [vl xs, vl xs] = .ok (.p (.bl true), 0) := same_ok prog (h := 8) (w := 2) rfl rfl rfl n xs
theorem lines_ok (n : Nat) (ps : List Pr) (hl : ps.length ≤ 300) (u o1 o2 o3 o5 o6 o7 o8 o9 o10 o11 o12 o13 : Option VD) (d : Nat) : evV prog (callV prog n) q4_law [u, o1, o2, o3, some (vl ps, d), o5, o6, o7, o8, o9, o10, o11, o12, o13] = .ok (vl (ps.map (·.1)), 9) := by
  simp (disch := array_get_dec) [y4_law, evV_lc, lcV_M]
theorem due_ok (n : Nat) (one other : List Pr) (hl : one.length ≤ 300) (u o1 o2 o4 o5 o7 o8 o9 o10 o11 o12 o13 : Option VD) (d e : Nat) : evV prog (callV prog n) q5_law [u, o1, o2, some (vl one, d), o4, o5, some (vl (other.map (·.1)), e), o7, o8, o9, o10, o11, o12, o13] = .ok (vl (lessB one other), 9) := by
  simp (disch := array_get_dec) [y5_law, evV_lc, lcV_M]
  unfold lessB
  congr
  funext x
  congr
theorem less_self (xs : List Pr) : lessB xs xs = [] := by
  simp only [lessB, List.filter_eq_nil_iff]
  intro x hx
  simp
  exact ⟨x.2, hx⟩
theorem less_nil (xs : List Pr) : lessB xs [] = xs := by simp [lessB]
theorem nameOk_len {x : Pr} (h : PrOk x) : x.2.length ≤ 8 := h.2.1.2
theorem law_okV (ns : List Int) (hn : ns.length ≤ 63) : ∃ d, callV prog 6 10 [.nd .fl (ns.map vn)] = .ok (.p (.bl true), d) := by
  have hcl := cutL_len ns (some 2) (some 62)
  obtain ⟨ps, p1, p2, p3, p4, p5⟩ := own_ok prog (i := 7) (i0 := 1) (i1 := 5) (i2 := 6) (e := 4) (h := 3) rfl rfl rfl rfl rfl rfl 1 ns (cutL ns (some 2) (some 62)) (by omega)
  have c1 := cell_at prog (i := 1) rfl 4 ns 1
  simp at c1 p5
  obtain ⟨one, q1, q2⟩ := one_ok 5 ps (ns[1]?.getD 0 * 69621 % 2147483629) (by omega) (some (.nd .fl (ns.map vn), 0)) none none none none none none none none none none none 1
  obtain ⟨two, ⟨q3, q3'⟩, q4⟩ := two_ok 5 ps (ns[1]?.getD 0 * 69621 % 2147483629) (by omega) (some (.nd .fl (ns.map vn), 0)) (some (vl one, 9)) none none none none none none none none none none 1
  obtain ⟨three, q5, q6⟩ := three_ok 5 two (by omega) (fun x hx => nameOk_len (p2 x (q3' x hx))) (some (.nd .fl (ns.map vn), 0)) (some (vl ps, 1)) (some (vn (ns[1]?.getD 0 * 69621 % 2147483629), 0)) (some (vl one, 9)) none none none none none none none none none 9
  rw [call_stepV (show prog.defs[10]? = some ⟨14, 1, b_law⟩ from rfl)]
  have e2 := less_ok 4 one [] (by omega) (by simp)
  have e3 := less_ok 4 one one (by omega) (by omega)
  have e4 := less_ok 4 [] one (by simp) (by omega)
  have e5 : lessB [] one = [] := rfl
  simp [less_nil, less_self, e5] at e2 e3 e4
  by_cases hodd : ns[1]?.getD 0 * 69621 % 2147483629 % 2 = 1
  · have e1 := less_ok 4 one three (by omega) (by omega)
    have l1 : (lessB one three).length ≤ 300 := Nat.le_trans (List.length_filter_le _ _) q1
    refine ⟨0, ?_⟩
    simp (disch := array_get_dec) [b_law, startV, evR, c1, p5, q2, q4, q6, hodd, e1, e2, e3, e4, same1, lines_ok, due_ok]
  · have e1 := less_ok 4 one two (by omega) (by omega)
    have l1 : (lessB one two).length ≤ 300 := Nat.le_trans (List.length_filter_le _ _) q1
    refine ⟨0, ?_⟩
    simp (disch := array_get_dec) [b_law, startV, evR, c1, p5, q2, q4, hodd, e1, e2, e3, e4, same1, lines_ok, due_ok]
theorem law_ok (ns : List Int) (hn : ns.length ≤ 63) (_ : ∀ z ∈ ns, Builtin.Int.intBits z ≤ 1048576) : ∃ M, callN prog 6 10 [script ns] [] = .ok (.p (.bl true)) M := by
  obtain ⟨d, h⟩ := law_okV ns hn
  exact law_of h
end K16

namespace K16
open PySem Mi L2
def at_ (i : Nat) : Stmt := PySem.Challenge.pw_bothfaces_k16_one_less_another.main.body.getD i (.Pass ⟨0, 0, 0, 0⟩)
def d_less : Dd := ⟨"less", "less", at_ 1, ["one", "other", "there", "ends", "colour", "pair"], ["one", "other"]⟩
def d_law_cell_at : Dd := ⟨"_law_cell_at", "_law_cell_at", at_ 3, ["_law_script", "_law_k"], ["_law_script", "_law_k"]⟩
def d_law_whole : Dd := ⟨"_law_whole", "_law_whole", at_ 4, ["_law_found"], ["_law_found"]⟩
def d_law_hole : Dd := ⟨"_law_hole", "_law_hole", at_ 5, ["_law_number", "_law_far", "_law_x", "_law_y"], ["_law_number", "_law_far"]⟩
def d_law_ends : Dd := ⟨"_law_ends", "_law_ends", at_ 6, ["_law_number", "_law_far", "_law_near", "_law_one", "_law_east", "_law_north", "_law_other"], ["_law_number", "_law_far", "_law_near"]⟩
def d_law_names : Dd := ⟨"_law_names", "_law_names", at_ 7, ["_law_cell", "_law_letters", "_law_many", "_law_names_here", "_law_j", "_law_signs", "_law_k", "_law_step"], ["_law_cell"]⟩
def d_law_pairs : Dd := ⟨"_law_pairs", "_law_pairs", at_ 8, ["_law_cells", "_law_shape", "_law_names_here", "_law_pairs_here", "_law_cell", "_law_number", "_law_ends_here", "_law_at"], ["_law_cells", "_law_shape", "_law_names_here"]⟩
def d_law_own : Dd := ⟨"_law_own", "_law_own", at_ 9, ["_law_script", "_law_cells", "_law_names_here"], ["_law_script", "_law_cells"]⟩
def d_law_is_hole : Dd := ⟨"_law_is_hole", "_law_is_hole", at_ 10, ["_law_thing"], ["_law_thing"]⟩
def d_law_same : Dd := ⟨"_law_same", "_law_same", at_ 11, ["_law_found", "_law_due", "_law_pair"], ["_law_found", "_law_due"]⟩
def d_law : Dd := ⟨"law", "law", at_ 12, ["_law_script", "_law_pairs_here", "_law_number", "_law_one", "_law_other", "_law_handed", "_law_lines", "_law_due", "_law_found", "_law_there", "_law_k", "_law_ends_here", "_law_colour", "_law_pair"], ["_law_script"]⟩
def ds : List Dd := [d_less, d_law_cell_at, d_law_whole, d_law_hole, d_law_ends, d_law_names, d_law_pairs, d_law_own, d_law_is_hole, d_law_same, d_law]
def tb : Tb := ⟨["abs", "bool", "int", "isinstance", "len", "list", "range", "set", "sorted", "str", "tuple"], [], ["less", "_law_cell_at", "_law_whole", "_law_hole", "_law_ends", "_law_names", "_law_pairs", "_law_own", "_law_is_hole", "_law_same", "law"]⟩
theorem ck : ((prog.defs.zip ds).all fun p => ckDf tb p.1 p.2) = true := by decide +kernel
end K16
open PySem PySem.W PyProof.Rows in
set_option maxRecDepth 100000 in
set_option maxHeartbeats 0 in
theorem PySem.Challenge.cw_bothfaces_k16_one_less_another_holds : PySem.Challenge.rw_bothfaces_k16_one_less_another.Holds := by
  w_on; o_law; k_head
  (case hw => w_witness2)
  k_fill
  refine Mi.walk_mi (k := 6) (x := "_law_script") (l := PySem.Challenge.rw_bothfaces_k16_one_less_another) rfl rfl ⟨rfl, by decide, by decide⟩ (fun w h Y => PySem.W.kIn_of Y) ?F
  case F =>
    intro w mg fa h KX G hmg
    refine' Mi.has_then (dd := K16.d_less) KX G ?a ?l ?c ?k ?b fun h_less => ?_
    (case a => k_is); (case l => k_is); (case c => k_is); (case k => k_is)
    (case b => exact fun us hl => match us, hl with | [_, _], _ => rfl)
    refine' Mi.has_then (dd := K16.d_law_cell_at) KX G ?a ?l ?c ?k ?b fun h_law_cell_at => ?_
    (case a => k_is); (case l => k_is); (case c => k_is); (case k => k_is)
    (case b => exact fun us hl => match us, hl with | [_, _], _ => rfl)
    refine' Mi.has_then (dd := K16.d_law_whole) KX G ?a ?l ?c ?k ?b fun h_law_whole => ?_
    (case a => k_is); (case l => k_is); (case c => k_is); (case k => k_is)
    (case b => exact fun us hl => match us, hl with | [_], _ => rfl)
    refine' Mi.has_then (dd := K16.d_law_hole) KX G ?a ?l ?c ?k ?b fun h_law_hole => ?_
    (case a => k_is); (case l => k_is); (case c => k_is); (case k => k_is)
    (case b => exact fun us hl => match us, hl with | [_, _], _ => rfl)
    refine' Mi.has_then (dd := K16.d_law_ends) KX G ?a ?l ?c ?k ?b fun h_law_ends => ?_
    (case a => k_is); (case l => k_is); (case c => k_is); (case k => k_is)
    (case b => exact fun us hl => match us, hl with | [_, _, _], _ => rfl)
    refine' Mi.has_then (dd := K16.d_law_names) KX G ?a ?l ?c ?k ?b fun h_law_names => ?_
    (case a => k_is); (case l => k_is); (case c => k_is); (case k => k_is)
    (case b => exact fun us hl => match us, hl with | [_], _ => rfl)
    refine' Mi.has_then (dd := K16.d_law_pairs) KX G ?a ?l ?c ?k ?b fun h_law_pairs => ?_
    (case a => k_is); (case l => k_is); (case c => k_is); (case k => k_is)
    (case b => exact fun us hl => match us, hl with | [_, _, _], _ => rfl)
    refine' Mi.has_then (dd := K16.d_law_own) KX G ?a ?l ?c ?k ?b fun h_law_own => ?_
    (case a => k_is); (case l => k_is); (case c => k_is); (case k => k_is)
    (case b => exact fun us hl => match us, hl with | [_, _], _ => rfl)
    refine' Mi.has_then (dd := K16.d_law_is_hole) KX G ?a ?l ?c ?k ?b fun h_law_is_hole => ?_
    (case a => k_is); (case l => k_is); (case c => k_is); (case k => k_is)
    (case b => exact fun us hl => match us, hl with | [_], _ => rfl)
    refine' Mi.has_then (dd := K16.d_law_same) KX G ?a ?l ?c ?k ?b fun h_law_same => ?_
    (case a => k_is); (case l => k_is); (case c => k_is); (case k => k_is)
    (case b => exact fun us hl => match us, hl with | [_, _], _ => rfl)
    refine' Mi.has_then (dd := K16.d_law) KX G ?a ?l ?c ?k ?b fun h_law => ?_
    (case a => k_is); (case l => k_is); (case c => k_is); (case k => k_is)
    (case b => exact fun us hl => match us, hl with | [_], _ => rfl)
    refine' Mi.none_then (x := "abs") KX G ?z fun n_abs => ?_
    (case z => k_is)
    refine' Mi.none_then (x := "bool") KX G ?z fun n_bool => ?_
    (case z => k_is)
    refine' Mi.none_then (x := "int") KX G ?z fun n_int => ?_
    (case z => k_is)
    refine' Mi.none_then (x := "isinstance") KX G ?z fun n_isinstance => ?_
    (case z => k_is)
    refine' Mi.none_then (x := "len") KX G ?z fun n_len => ?_
    (case z => k_is)
    refine' Mi.none_then (x := "list") KX G ?z fun n_list => ?_
    (case z => k_is)
    refine' Mi.none_then (x := "range") KX G ?z fun n_range => ?_
    (case z => k_is)
    refine' Mi.none_then (x := "set") KX G ?z fun n_set => ?_
    (case z => k_is)
    refine' Mi.none_then (x := "sorted") KX G ?z fun n_sorted => ?_
    (case z => k_is)
    refine' Mi.none_then (x := "str") KX G ?z fun n_str => ?_
    (case z => k_is)
    refine' Mi.none_then (x := "tuple") KX G ?z fun n_tuple => ?_
    (case z => k_is)
    refine Mi.law_fn (Q := K16.prog) (t := K16.tb) (ds := K16.ds) (g := ⟨_, _, w, fun _ => none, fun _ => []⟩) (n := 6) (f := 10) ⟨rfl, rfl, ?_, Mi.ck_all K16.ck, ?_, ?_⟩ rfl rfl rfl (dd := K16.d_law) rfl rfl rfl rfl K16.law_ok hmg
    · intro dd hd
      simp only [K16.ds, List.mem_cons, List.not_mem_nil, or_false] at hd
      rcases hd with rfl | rfl | rfl | rfl | rfl | rfl | rfl | rfl | rfl | rfl | rfl
      · exact h_less
      · exact h_law_cell_at
      · exact h_law_whole
      · exact h_law_hole
      · exact h_law_ends
      · exact h_law_names
      · exact h_law_pairs
      · exact h_law_own
      · exact h_law_is_hole
      · exact h_law_same
      · exact h_law
    · intro x hx
      simp only [K16.tb, List.mem_cons, List.not_mem_nil, or_false] at hx
      rcases hx with rfl | rfl | rfl | rfl | rfl | rfl | rfl | rfl | rfl | rfl | rfl
      · exact n_abs
      · exact n_bool
      · exact n_int
      · exact n_isinstance
      · exact n_len
      · exact n_list
      · exact n_range
      · exact n_set
      · exact n_sorted
      · exact n_str
      · exact n_tuple
    · intro x k hx
      simp [K16.tb] at hx
