import PyProof.Rows.All
import Wide.All
import OpenK.AllK
import Wide.FinOn
import KE.SortData
import KE.DataMinMax
import KE.KeyNested
import HandS.ForMost
import HandS.Defaults
import HandS.Lambda
import HandS.WordsExc
import KE.KDictKeyed
import HandS.TupAny
import HandS.Wide
import HandS.Deep
import HandS.Style
import HandS.IsInst
import KE.KDictCopyH
import KE.KDictSum
import PyProof.Claim2Refuses
import HandS.Flow
import HandS.Exc
import HandS.ExcOwn
import HandS.CallSlots
import KE.KDictWalk
import HandS.Iter
import HandS.DictComp
import KE.SortKeyHeap
import HandS.HeadHook4
import HandS.HeadWalk
import KE.KNestM
import KE.KDictDisplayH
import KE.KStateDown
import HandS.Head0
import HandS.Head1
import HandS.Head2
import HandS.HeadEnd
import PySem.Challenge.RW_basinhouse_k29_forecasts
section
set_option Elab.async false
set_option linter.all false
set_option maxRecDepth 100000
/-! MP1: a small Python: values as trees (tuples) and places (lists, dicts, instances), its syntax, what it reckons. -/
namespace MP
open PySem

/-! ### values, memory, outcomes -/
inductive Wv where
  | non | bl (b : Bool) | int (i : Int) | str (s : Str) | tup (ws : List Wv) | ref (l : Nat) | scr
namespace Wv
mutual
def beq : Wv → Wv → Bool
  | .non, .non => true
  | .bl a, .bl b => decide (a = b)
  | .int a, .int b => decide (a = b)
  | .str a, .str b => decide (a = b)
  | .tup a, .tup b => beqs a b
  | .ref a, .ref b => decide (a = b)
  | .scr, .scr => true
  | _, _ => false
def beqs : List Wv → List Wv → Bool
  | [], [] => true
  | a :: as, b :: bs => beq a b && beqs as bs
  | _, _ => false
end
mutual
theorem beq_self : ∀ a : Wv, beq a a = true
  | .non => rfl
  | .bl a => by simp [beq]
  | .int a => by simp [beq]
  | .str a => by simp [beq]
  | .tup a => by rw [beq]; exact beqs_self a
  | .ref a => by simp [beq]
  | .scr => rfl
theorem beqs_self : ∀ a : List Wv, beqs a a = true
  | [] => rfl
  | a :: as => by rw [beqs, beq_self a, beqs_self as]; rfl
end
mutual
theorem eq_of_beq : ∀ a b : Wv, beq a b = true → a = b
  | .non, b, h => by cases b <;> simp [beq] at h ⊢
  | .bl a, b, h => by cases b <;> simp [beq] at h ⊢; exact h
  | .int a, b, h => by cases b <;> simp [beq] at h ⊢; exact h
  | .str a, b, h => by cases b <;> simp [beq] at h ⊢; exact h
  | .tup a, b, h => by
    cases b with
    | tup b => simp only [beq] at h; rw [eqs_of_beqs a b h]
    | _ => simp [beq] at h
  | .ref a, b, h => by cases b <;> simp [beq] at h ⊢; exact h
  | .scr, b, h => by cases b <;> simp [beq] at h ⊢
theorem eqs_of_beqs : ∀ a b : List Wv, beqs a b = true → a = b
  | [], b, h => by cases b with
    | nil => rfl
    | cons _ _ => simp [beqs] at h
  | a :: as, b, h => by
    cases b with
    | nil => simp [beqs] at h
    | cons b bs =>
      rw [beqs, Bool.and_eq_true] at h
      rw [eq_of_beq a b h.1, eqs_of_beqs as bs h.2]
end
instance : DecidableEq Wv := fun a b => if h : beq a b = true then .isTrue (eq_of_beq a b h) else .isFalse fun e => h (e ▸ beq_self a)
end Wv

inductive Ob where
  | lst (ws : List Wv) | dct (z : Bool) (kvs : List (Wv × Wv)) | ins (c : Nat) (fs : List (Str × Wv))
  deriving DecidableEq
abbrev Mem := List Ob

/-- an end: a value and the memory, a refusal by its class, or nothing is said -/
inductive Out (α : Type) where
  | ok (a : α) (M : Mem) | exc (c : Nat) (M : Mem) | bad
def Out.bind {α β : Type} (x : Out α) (f : α → Mem → Out β) : Out β := match x with
  | .ok a M => f a M
  | .exc c M => .exc c M
  | .bad => .bad
@[simp] theorem Out.bind_ok {α β : Type} (a : α) (M : Mem) (f : α → Mem → Out β) : (Out.ok a M).bind f = f a M := rfl
@[simp] theorem Out.bind_exc {α β : Type} (c : Nat) (M : Mem) (f : α → Mem → Out β) : (Out.exc c M).bind f = .exc c M := rfl
@[simp] theorem Out.bind_bad {α β : Type} (f : α → Mem → Out β) : (Out.bad).bind f = (.bad : Out β) := rfl
def Out.ofO {α : Type} (x : Option α) (M : Mem) : Out α := match x with
  | some a => .ok a M
  | none => .bad
def Out.chk {α : Type} (b : Bool) (x : Out α) : Out α := match b with
  | true => x
  | false => .bad

/-! ### syntax -/
inductive Op where | add | sub | mul | fdiv | mod | pow
  deriving DecidableEq
inductive Cm where | eq | ne | lt | le | gt | ge | is_ | isn | in_ | nin
  deriving DecidableEq
/-- built-ins called by name -/
inductive Bi where | len | all | any | sum | min | max | sorted | abs | list | dict | tuple | str | int | sset
  deriving DecidableEq
/-- methods of lists, dicts, texts -/
inductive Bm where | append | get
  deriving DecidableEq
/-- the kinds of isinstance -/
inductive Kd where | int | bool | str | tuple | list
  deriving DecidableEq
/-- targets -/
inductive Tg where | nm (i : Nat) | tup (is : List Nat)
  deriving DecidableEq
/-- the body of a key's lambda: of its one parameter -/
inductive Ke where
  | v | sub (k : Ke) (i : Nat) | tup (a b : Ke)
mutual
inductive Ex where
  | var (i : Nat)
  | con (w : Wv)
  | glb (x : Str)
  | tup (es : El) | lst (es : El) | dict0
  | bin (o : Op) (a b : Ex)
  | neg (a : Ex) | not (a : Ex)
  | and (a b : Ex) | or (a b : Ex)
  | ife (t a b : Ex)
  | cmp (c : Cm) (a b : Ex)
  | cmp2 (c d : Cm) (a b e : Ex)
  | attr (a : Ex) (f : Str)
  | sub (a i : Ex)
  | slc (a lo hi : Ex) | no
  | srev (z : Bool) (a : Ex)
  | call (f : Nat) (es : El) (ds : List Wv)
  | callk (f : Nat) (es : El) (k : Ex)
  | meth (m : Str) (a : Ex) (es : El) (ds : List Wv)
  | bm (m : Bm) (a : Ex) (es : El)
  | new (c : Nat) (es : El)
  | bi (b : Bi) (es : El)
  | isi (k : Kd) (a : Ex)
  | lc (e : Ex) (t : Tg) (it : It) (c : Ex)
  | lc2 (e : Ex) (t : Tg) (it : It) (t2 : Tg) (it2 : It)
  | dc (k v : Ex) (t : Tg) (it : It) (c : Ex)
  | sortk (a : Ex) (k : Ke)
  | sortv (a : Ex) (k : Ke)
  | dict2 (k1 : Str) (v1 : Int) (k2 : Str) (v2 : Int)
inductive El where
  | nil | cons (e : Ex) (es : El)
inductive It where
  | val (e : Ex) | rng (a b : Ex) | items (e : Ex) | vals (e : Ex) | enum (e : Ex) | zip (a b : Ex)
end
mutual
inductive St where
  | asg (t : Tg) (e : Ex)
  | asgA (o : Ex) (f : Str) (e : Ex)
  | asgS (o i e : Ex)
  | aug (i : Nat) (p : Op) (e : Ex)
  | augA (o : Ex) (f : Str) (p : Op) (e : Ex)
  | ex (e : Ex)
  | ret (e : Ex)
  | retN | pass | brk | cont
  | ifs (t : Ex) (a b : Sl)
  | for_ (t : Tg) (it : It) (b : Sl)
  | whl (t : Ex) (b : Sl)
  | raise (c : Nat)
inductive Sl where
  | nil | cons (s : St) (r : Sl)
end
inductive Fl where | nx | brk | ct | ret (w : Wv)

/-! ### data -/
mutual
/-- what a value reads as, to a depth -/
def toD (S : List Int) (M : Mem) : Nat → Wv → Option PyData
  | _, .non => some .none
  | _, .bl b => some (.bool b)
  | _, .int i => some (.int i)
  | _, .str s => some (.str s)
  | n + 1, .tup ws => (toDs S M n ws).map .tuple
  | 0, .tup _ => none
  | n + 1, .ref l => match M[l]? with
    | some (.lst ws) => (toDs S M n ws).map .list
    | _ => none
  | 0, .ref _ => none
  | _, .scr => some (.list (S.map .int))
def toDs (S : List Int) (M : Mem) : Nat → List Wv → Option (List PyData)
  | _, [] => some []
  | n, w :: ws => match toD S M n w, toDs S M n ws with
    | some d, some ds => some (d :: ds)
    | _, _ => none
end
/-- as deep as data is looked at -/
abbrev deepD : Nat := 12

/-! ### dicts -/
mutual
/-- a key: a number, a text, a tuple of such and None -/
def keyTup : Nat → List Wv → Bool
  | _, [] => true
  | n, w :: ws => keyIn n w && keyTup n ws
def keyIn : Nat → Wv → Bool
  | _, .int _ => true
  | _, .str _ => true
  | _, .non => true
  | n + 1, .tup ws => keyTup n ws
  | _, _ => false
end
def keyA : Wv → Bool
  | .int _ => true
  | .str _ => true
  | _ => false
def keyT : Wv → Bool
  | .tup ws => keyTup 7 ws
  | _ => false
/-- the key k may be asked of a dict with these keys -/
def keyOk (kvs : List (Wv × Wv)) (k : Wv) : Bool := (keyA k && kvs.all fun p => keyA p.1) || (keyT k && kvs.all fun p => keyT p.1)
def dget (kvs : List (Wv × Wv)) (k : Wv) : Option Wv := match kvs with
  | [] => none
  | p :: r => if p.1 = k then some p.2 else dget r k
def dput (kvs : List (Wv × Wv)) (k v : Wv) : List (Wv × Wv) := match kvs with
  | [] => [(k, v)]
  | p :: r => if p.1 = k then (p.1, v) :: r else p :: dput r k v
def putF (f : Str) (v : Wv) : List (Str × Wv) → List (Str × Wv)
  | [] => [(f, v)]
  | p :: r => if p.1 = f then (f, v) :: r else p :: putF f v r

/-! ### the program's own things -/
structure Cl where
  meths : List (Str × Nat)
  init : Nat
structure Df where
  slots : Nat
  npar : Nat
  dfl : List Wv
  body : Sl
/-- the program: its constants, classes, defs; the script -/
structure Pg where
  S : List Int
  con : Str → Option Wv
  cls : Nat → Option Cl
  df : Nat → Option Df

section
variable (G : Pg)
/-! ### operators -/
def lenOk (n : Nat) : Bool := decide (n ≤ sizeLine)
def mulOk (i j : Int) : Bool := decide (i.natAbs < 2 ^ 62) || decide (j.natAbs < 2 ^ 62)
def binW (o : Op) (x y : Wv) (M : Mem) : Out Wv := match o, x, y with
  | .add, .int i, .int j => .ok (.int (i + j)) M
  | .add, .str i, .str j => .chk (lenOk (i.length + j.length)) (.ok (.str (i ++ j)) M)
  | .add, .tup a, .tup b => .chk (lenOk (a.length + b.length)) (.ok (.tup (a ++ b)) M)
  | .add, .ref a, .ref b => match M[a]?, M[b]? with
    | some (.lst xs), some (.lst ys) => .chk (lenOk (xs.length + ys.length)) (.ok (.ref M.length) (M ++ [.lst (xs ++ ys)]))
    | _, _ => .bad
  | .sub, .int i, .int j => .ok (.int (i - j)) M
  | .mul, .int i, .int j => .chk (mulOk i j) (.ok (.int (i * j)) M)
  | .fdiv, .int i, .int j => .chk (decide (0 < j) && decide (j < 2 ^ 200)) (.ok (.int (i / j)) M)
  | .mod, .int i, .int j => .chk (decide (0 < j)) (.ok (.int (i % j)) M)
  | .pow, .int i, .int j => .chk (decide (0 ≤ j) && decide (j ≤ 1000) && decide (i.natAbs < 2 ^ 62)) (.ok (.int (i ^ j.toNat)) M)
  | _, _, _ => .bad
def truW (x : Wv) (M : Mem) : Option Bool := match x with
  | .non => some false
  | .bl b => some b
  | .int i => some (i != 0)
  | .str s => if s.length ≤ sizeLine then some (s.length != 0) else none
  | .tup ws => some (!ws.isEmpty)
  | .ref l => match M[l]? with
    | some (.lst ws) => some (!ws.isEmpty)
    | _ => none
  | .scr => some (!G.S.isEmpty)
def eqW (x y : Wv) (M : Mem) : Option Bool := match toD G.S M deepD x, toD G.S M deepD y with
  | some d, some e => if SeqAt.shaped d && SeqAt.shaped e then some (PyData.eqv d e) else none
  | _, _ => none
def ltW (x y : Wv) : Option Bool := match x, y with
  | .int i, .int j => some (decide (i < j))
  | _, _ => none
def leW (x y : Wv) : Option Bool := match x, y with
  | .int i, .int j => some (decide (i ≤ j))
  | _, _ => none
/-- flat things -/
def flatW : Wv → Bool
  | .non => true
  | .bl _ => true
  | .int _ => true
  | .str _ => true
  | _ => false
def mapO {α β : Type} (f : α → Option β) : List α → Option (List β)
  | [] => some []
  | a :: r => match f a, mapO f r with
    | some b, some bs => some (b :: bs)
    | _, _ => none
/-- flat data -/
def flatD : Wv → PyData
  | .bl b => .bool b
  | .int i => .int i
  | .str s => .str s
  | _ => .none
/-- x in a list of data -/
def inLst (x : Wv) (ws : List Wv) (M : Mem) : Option Bool := match toD G.S M deepD x, toDs G.S M deepD ws with
  | some d, some ds => if SeqAt.shaped d && SeqAt.shaped (.list ds) then some (ds.any fun e => PyData.eqv e d) else none
  | _, _ => none
def inW (x y : Wv) (M : Mem) : Option Bool := match y with
  | .tup ws => if flatW x && ws.all flatW then some (ws.any fun e => PyData.eqv (flatD e) (flatD x)) else none
  | .str s => match x with
    | .str t => some (!(Builtin.Str.occurrences s t 0 s.length 1).isEmpty)
    | _ => none
  | .ref l => match M[l]? with
    | some (.lst ws) => inLst G x ws M
    | some (.dct _ kvs) => if keyOk kvs x then some (dget kvs x).isSome else none
    | _ => none
  | _ => none
/-- is, with None, True, False at its right -/
def isW (x y : Wv) : Option Bool := match y with
  | .non => some (decide (x = .non))
  | .bl b => match x with
    | .bl c => some (decide (c = b))
    | _ => none
  | _ => none
def notO (x : Option Bool) : Option Bool := x.map (!·)
def cmpW (c : Cm) (x y : Wv) (M : Mem) : Out Wv := (Out.ofO (match c with
  | .eq => eqW G x y M
  | .ne => notO (eqW G x y M)
  | .lt => ltW x y
  | .gt => ltW y x
  | .le => leW x y
  | .ge => leW y x
  | .is_ => isW x y
  | .isn => notO (isW x y)
  | .in_ => inW G x y M
  | .nin => notO (inW G x y M)) M).bind fun b M => .ok (.bl b) M

/-! ### subscripts -/
def atI {α : Type} (xs : List α) (i : Int) : Option α := if 0 ≤ i then xs[i.toNat]? else if -(xs.length : Int) ≤ i then xs[(i + xs.length).toNat]? else none
def subW (x i : Wv) (M : Mem) : Out Wv := match x with
  | .tup ws => match i with
    | .int j => .ofO (atI ws j) M
    | _ => .bad
  | .str s => match i with
    | .int j => if s.length ≤ sizeLine then .ofO ((atI s.cps.toList j).map fun c => .str ⟨#[c]⟩) M else .bad
    | _ => .bad
  | .scr => match i with
    | .int j => .ofO ((atI G.S j).map .int) M
    | _ => .bad
  | .ref l => match M[l]? with
    | some (.lst ws) => (match i with
      | .int j => .ofO (atI ws j) M
      | _ => .bad)
    | some (.dct _ kvs) => .chk (keyOk kvs i) (.ofO (dget kvs i) M)
    | _ => .bad
  | _ => .bad
/-- a slice's bound, clipped -/
def sIx (n d : Nat) : Option Int → Nat
  | none => d
  | some i => if i < 0 then (i + n).toNat else min i.toNat n
def cut {α : Type} (xs : List α) (lo hi : Option Int) : List α := (xs.drop (sIx xs.length 0 lo)).take (sIx xs.length xs.length hi - sIx xs.length 0 lo)
def slcW (x : Wv) (lo hi : Option Int) (M : Mem) : Out Wv := match x with
  | .tup ws => .ok (.tup (cut ws lo hi)) M
  | .str s => .chk (lenOk s.length) (.ok (.str ⟨(cut s.cps.toList lo hi).toArray⟩) M)
  | .ref l => match M[l]? with
    | some (.lst ws) => .ok (.ref M.length) (M ++ [.lst (cut ws lo hi)])
    | _ => .bad
  | _ => .bad
def revW (z : Bool) (x : Wv) (M : Mem) : Out Wv := match x with
  | .ref l => match M[l]? with
    | some (.lst ws) => .ok (.ref M.length) (M ++ [.lst (if z then ws.tail.reverse else ws.reverse)])
    | _ => .bad
  | _ => .bad
def toI : Wv → Option Int
  | .int i => some i
  | _ => none

/-! ### built-ins -/
def bls : List Wv → Option (List Bool) := mapO fun | .bl b => some b | _ => none
def intsW : List Wv → Option (List Int) := mapO toI
def alikeAllB (ds : List PyData) : Bool := ds.all fun d => ds.all fun e => PySem.W.alike d e
def sortableB (ds : List PyData) : Bool := (ds.all fun d => match d with | .tuple (_ :: _) => true | _ => false) || (ds.all fun d => match d with | .none => false | .tuple _ => false | _ => true)
def dcap : PyData → Bool := fun d => decide (d.depth ≤ 32)
/-- items with their keys, sorted by these -/
def sortBy (ks : List PyData) (ws : List Wv) : Option (List Wv) := if alikeAllB ks && sortableB ks && ks.all dcap then some (((ks.zip ws).mergeSort fun a b => PySem.W.dataLe false (fun p : PyData × Wv => p.1) a b).map (·.2)) else none
mutual
/-- data that are no lists, as values -/
def ofD : PyData → Option Wv
  | .none => some .non
  | .bool b => some (.bl b)
  | .int i => some (.int i)
  | .str s => some (.str s)
  | .tuple xs => (ofDs xs).map .tup
  | .list _ => none
  | .dict _ => none
def ofDs : List PyData → Option (List Wv)
  | [] => some []
  | x :: xs => match ofD x, ofDs xs with
    | some w, some ws => some (w :: ws)
    | _, _ => none
end
def noneB : PyData → Bool
  | .none => true
  | _ => false
/-- the greatest (the least) of alike data -/
def bestOf (mx : Bool) (ds : List PyData) : Option Wv := match ds with
  | [] => none
  | d :: r => if alikeAllB ds && ds.all (fun d => !noneB d) && ds.all dcap then ofD (if mx then PySem.W.maxD d r else PySem.W.minD d r) else none
/-- the items of what is walked by list, sorted .. -/
def itemsOf (x : Wv) (M : Mem) : Option (List Wv) := match x with
  | .tup ws => some ws
  | .scr => some (G.S.map .int)
  | .ref l => match M[l]? with
    | some (.lst ws) => some ws
    | some (.dct _ kvs) => some (kvs.map (·.1))
    | _ => none
  | _ => none
/-- .. what sorted takes -/
def itemsS (x : Wv) (M : Mem) : Option (List Wv) := match x with
  | .tup _ => none
  | x => itemsOf G x M
def lstOf (x : Wv) (M : Mem) : Option (List Wv) := match x with
  | .ref l => match M[l]? with
    | some (.lst ws) => some ws
    | _ => none
  | _ => none
/-- a dict's values -/
def valsOf (x : Wv) (M : Mem) : Option (List Wv) := match x with
  | .ref l => match M[l]? with
    | some (.dct _ kvs) => some (kvs.map (·.2))
    | _ => none
  | _ => none
def pairs : List Wv → Option (List (Wv × Wv)) := mapO fun | .tup [a, b] => some (a, b) | _ => none
def dputs (kvs : List (Wv × Wv)) : List (Wv × Wv) → List (Wv × Wv)
  | [] => kvs
  | p :: r => dputs (dput kvs p.1 p.2) r
def newL (o : Option (List Wv)) (M : Mem) : Out Wv := match o with
  | some ws => .chk (lenOk ws.length) (.ok (.ref M.length) (M ++ [.lst ws]))
  | none => .bad
def biW (b : Bi) (xs : List Wv) (M : Mem) : Out Wv := match b, xs with
  | .len, [.str s] => .chk (lenOk s.length) (.ok (.int s.length) M)
  | .len, [.tup ws] => .ok (.int ws.length) M
  | .len, [.scr] => .ok (.int G.S.length) M
  | .len, [.ref l] => match M[l]? with
    | some (.lst ws) => .ok (.int ws.length) M
    | _ => .bad
  | .all, [x] => (Out.ofO ((lstOf x M).bind bls) M).bind fun bs M => .ok (.bl (bs.all id)) M
  | .any, [x] => (Out.ofO ((lstOf x M).bind bls) M).bind fun bs M => .ok (.bl (bs.any id)) M
  | .sum, [x] => (Out.ofO ((lstOf x M).bind intsW) M).bind fun ns M => .ok (.int ns.sum) M
  | .abs, [.int i] => .ok (.int (if i < 0 then -i else i)) M
  | .min, [.int i, .int j] => .ok (.int (if j < i then j else i)) M
  | .max, [.int i, .int j] => .ok (.int (if j > i then j else i)) M
  | .max, [.tup a, .tup b] => .ofO ((mapO (toD G.S M deepD) [.tup a, .tup b]).bind (bestOf true)) M
  | .min, [x] => .ofO ((lstOf x M).bind fun ws => (mapO (toD G.S M deepD) ws).bind (bestOf false)) M
  | .max, [x] => .ofO ((lstOf x M).bind fun ws => (mapO (toD G.S M deepD) ws).bind (bestOf true)) M
  | .sorted, [x] => newL ((itemsS G x M).bind fun ws => (mapO (toD G.S M deepD) ws).bind fun ds => sortBy ds ws) M
  | .list, [x] => newL (itemsOf G x M) M
  | .dict, [x] => match (lstOf x M).bind pairs with
    | some ps => .chk ((ps.all fun p => keyA p.1) && lenOk ps.length) (.ok (.ref M.length) (M ++ [.dct false (dputs [] ps)]))
    | none => .bad
  | _, _ => .bad
/-- isinstance -/
def isiW (k : Kd) (x : Wv) (M : Mem) : Option Bool := match k, x with
  | .int, .int _ => some true
  | .int, .bl _ => some true
  | .int, .ref l => match M[l]? with
    | some (.lst _) => some false
    | some (.dct _ _) => some false
    | _ => none
  | .int, _ => some false
  | .bool, .bl _ => some true
  | .bool, .ref l => match M[l]? with
    | some (.lst _) => some false
    | some (.dct _ _) => some false
    | _ => none
  | .bool, _ => some false
  | .str, .str _ => some true
  | .str, .ref l => match M[l]? with
    | some (.lst _) => some false
    | some (.dct _ _) => some false
    | _ => none
  | .str, _ => some false
  | .tuple, .tup _ => some true
  | .tuple, .ref l => match M[l]? with
    | some (.lst _) => some false
    | some (.dct _ _) => some false
    | _ => none
  | .tuple, _ => some false
  | .list, .scr => some true
  | .list, .ref l => match M[l]? with
    | some (.lst _) => some true
    | some (.dct _ _) => some false
    | _ => none
  | .list, _ => some false
/-- what a method's receiver has to be -/
def bmT (m : Bm) (x : Wv) (M : Mem) : Bool := match m, x with
  | .append, .ref l => (match M[l]? with
    | some (.lst _) => true
    | _ => false)
  | .get, .ref l => (match M[l]? with
    | some (.dct _ _) => true
    | _ => false)
  | _, _ => false
def bmW (m : Bm) (x : Wv) (xs : List Wv) (M : Mem) : Out Wv := match m, x with
  | .append, .ref l => (match M[l]? with
    | some (.lst ws) => (match xs with
      | [y] => .chk (lenOk (ws.length + 1)) (.ok .non (M.set l (.lst (ws ++ [y]))))
      | _ => .bad)
    | _ => .bad)
  | .get, .ref l => (match M[l]? with
    | some (.dct _ kvs) => (match xs with
      | [k] => .chk (keyOk kvs k) (.ok ((dget kvs k).getD .non) M)
      | [k, d] => .chk (keyOk kvs k) (.ok ((dget kvs k).getD d) M)
      | _ => .bad)
    | _ => .bad)
  | _, _ => .bad

/-! ### slots, targets -/
abbrev Sw := List (Option Wv)
def getV (i : Nat) (σ : Sw) : Option Wv := match σ[i]? with
  | some (some w) => some w
  | _ => none
def setAll : List Nat → List Wv → Sw → Option Sw
  | [], [], σ => some σ
  | i :: is, w :: ws, σ => setAll is ws (σ.set i (some w))
  | _, _, _ => none
def tgW (t : Tg) (w : Wv) (σ : Sw) : Option Sw := match t with
  | .nm i => some (σ.set i (some w))
  | .tup is => match w with
    | .tup ws => setAll is ws σ
    | _ => none
def Tg.slots : Tg → List Nat
  | .nm i => [i]
  | .tup is => is
def wipeW (σ : Sw) : List Nat → Sw
  | [] => σ
  | v :: vs => (wipeW σ vs).set v none
/-- the places that a walk leans on: they stay as they are -/
def stays (ps : List (Nat × Ob)) (M : Mem) : Bool := ps.all fun p => match p.2 with
  | .lst ws => decide (M[p.1]? = some (.lst ws))
  | _ => true
/-- what zip, enumerate walk -/
def seqV (x : Wv) (M : Mem) : Option (List Wv × List (Nat × Ob)) := match x with
  | .tup ws => some (ws, [])
  | .ref l => match M[l]? with
    | some (.lst ws) => some (ws, [(l, .lst ws)])
    | _ => none
  | _ => none
/-- what is walked: its items, what stays -/
def walkV (x : Wv) (M : Mem) : Option (List Wv × List (Nat × Ob)) := match x with
  | .tup ws => some (ws, [])
  | .scr => some (G.S.map .int, [])
  | .str s => some (s.cps.toList.map fun c => .str ⟨#[c]⟩, [])
  | .ref l => match M[l]? with
    | some (.lst ws) => some (ws, [(l, .lst ws)])
    | some (.dct z kvs) => some (kvs.map (·.1), [(l, .dct z kvs)])
    | _ => none
  | _ => none
/-- dicts are locked while they are walked -/
def lockM : List (Nat × Ob) → Mem → Mem
  | [], M => M
  | (l, .dct false kvs) :: r, M => (lockM r M).set l (.dct true kvs)
  | _ :: r, M => lockM r M
def unlkM : List (Nat × Ob) → Mem → Mem
  | [], M => M
  | (l, .dct false kvs) :: r, M => (unlkM r M).set l (.dct false kvs)
  | _ :: r, M => unlkM r M
def Out.unlk {α : Type} (ps : List (Nat × Ob)) : Out α → Out α
  | .ok a M => .ok a (unlkM ps M)
  | .exc c M => .exc c (unlkM ps M)
  | .bad => .bad
def rngOk (i : Int) : Bool := decide (-(2 ^ 60) ≤ i) && decide (i ≤ 2 ^ 60)
def rngW (a b : Int) : List Wv := (List.range (b - a).toNat).map fun (k : Nat) => .int (a + (k : Int))

/-! ### loops -/
def Out.noExc {α : Type} : Out α → Out α
  | .ok a M => .ok a M
  | _ => .bad
def lcGo (t : Tg) (c e : Sw → Mem → Out Wv) (ps : List (Nat × Ob)) : List Wv → Sw → List Wv → Mem → Out (List Wv)
  | [], _, acc, M => .chk (stays ps M) (.ok acc M)
  | x :: xs, σ, acc, M => .chk (stays ps M) (match tgW t x σ with
    | some τ => (c τ M).bind fun b M => (Out.ofO (truW G b M) M).bind fun k M => if k then (e τ M).bind fun y M => .chk (lenOk (acc.length + 1)) (lcGo t c e ps xs σ (acc ++ [y]) M) else lcGo t c e ps xs σ acc M
    | none => .bad)
def lc2In (t : Tg) (e : Sw → Mem → Out Wv) (ps : List (Nat × Ob)) : List Wv → Sw → List Wv → Mem → Out (List Wv)
  | [], _, acc, M => .chk (stays ps M) (.ok acc M)
  | x :: xs, σ, acc, M => .chk (stays ps M) (match tgW t x σ with
    | some τ => (e τ M).bind fun y M => .chk (lenOk (acc.length + 1)) (lc2In t e ps xs σ (acc ++ [y]) M)
    | none => .bad)
def lc2Go (t : Tg) (j : Sw → Mem → Out (List Wv × List (Nat × Ob))) (t2 : Tg) (e : Sw → Mem → Out Wv) (ps : List (Nat × Ob)) : List Wv → Sw → List Wv → Mem → Out (List Wv)
  | [], _, acc, M => .chk (stays ps M) (.ok acc M)
  | x :: xs, σ, acc, M => .chk (stays ps M) (match tgW t x σ with
    | some τ => (j τ M).bind fun r M => ((lc2In t2 e r.2 r.1 τ acc (lockM r.2 M)).unlk r.2).bind fun acc M => lc2Go t j t2 e ps xs σ acc M
    | none => .bad)
def dcGo (t : Tg) (c k v : Sw → Mem → Out Wv) (ps : List (Nat × Ob)) : List Wv → Sw → List (Wv × Wv) → Mem → Out (List (Wv × Wv))
  | [], _, acc, M => .chk (stays ps M) (.ok acc M)
  | x :: xs, σ, acc, M => .chk (stays ps M) (match tgW t x σ with
    | some τ => (c τ M).bind fun b M => (Out.ofO (truW G b M) M).bind fun q M => if q then (k τ M).bind fun y M => (v τ M).bind fun z M => .chk (keyOk acc y && lenOk (acc.length + 1)) (dcGo t c k v ps xs σ (dput acc y z) M) else dcGo t c k v ps xs σ acc M
    | none => .bad)
def forGo (t : Tg) (b : Sw → Mem → Out (Fl × Sw)) (ps : List (Nat × Ob)) : List Wv → Sw → Mem → Out (Fl × Sw)
  | [], σ, M => .chk (stays ps M) (.ok (.nx, σ) M)
  | x :: xs, σ, M => .chk (stays ps M) (match tgW t x σ with
    | some τ => (b τ M).bind fun r M => match r.1 with
      | .nx => forGo t b ps xs r.2 M
      | .ct => forGo t b ps xs r.2 M
      | .brk => .ok (.nx, r.2) M
      | .ret w => .ok (.ret w, r.2) M
    | none => .bad)
def whlGo (t : Sw → Mem → Out Wv) (b : Sw → Mem → Out (Fl × Sw)) : Nat → Sw → Mem → Out (Fl × Sw)
  | 0, _, _ => .bad
  | n + 1, σ, M => (t σ M).bind fun x M => (Out.ofO (truW G x M) M).bind fun k M => if k then (b σ M).bind fun r M => (match r.1 with
      | .nx => whlGo t b n r.2 M
      | .ct => whlGo t b n r.2 M
      | .brk => .ok (.nx, r.2) M
      | .ret w => .ok (.ret w, r.2) M) else .ok (.nx, σ) M

/-! ### expressions -/
variable (C C1 : Nat → List Wv → Mem → Out Wv)
/-- o.m: the def -/
def metW (m : Str) (x : Wv) (M : Mem) : Option Nat := match x with
  | .ref l => match M[l]? with
    | some (.ins c fs) => match (G.cls c).bind fun k => k.meths.lookup m with
      | some f => if fs.lookup m = none then some f else none
      | none => none
    | _ => none
  | _ => none
def attrW (x : Wv) (f : Str) (M : Mem) : Out Wv := match x with
  | .ref l => match M[l]? with
    | some (.ins c fs) => .chk (G.cls c).isSome (.ofO (fs.lookup f) M)
    | _ => .bad
  | _ => .bad
def newW (c : Nat) (ws : List Wv) (M : Mem) : Out Wv := match G.cls c with
  | some k => (C1 k.init (.ref M.length :: ws) (M ++ [.ins c []])).bind fun w M' => .chk (decide (w = .non)) (.ok (.ref M.length) M')
  | none => .bad
/-- a key, by data -/
def keyD : Ke → PyData → Option PyData
  | .v, d => some d
  | .sub k i, d => match keyD k d with
    | some (.tuple xs) => xs[i]?
    | _ => none
  | .tup a b, d => match keyD a d, keyD b d with
    | some x, some y => some (.tuple [x, y])
    | _, _ => none
mutual
/-- no list in it -/
def noL : PyData → Bool
  | .list _ => false
  | .dict _ => false
  | .tuple xs => noLs xs
  | _ => true
def noLs : List PyData → Bool
  | [] => true
  | x :: xs => noL x && noLs xs
end
def keyOf (k : Ke) (M : Mem) (w : Wv) : Option PyData := match toD G.S M deepD w with
  | some d => if noL d then keyD k d else none
  | none => none
def Ex.isNo : Ex → Bool
  | .no => true
  | _ => false
def itmW (x : Wv) (M : Mem) : Option (List (Wv × Wv) × List (Nat × Ob)) := match x with
  | .ref l => match M[l]? with
    | some (.dct z kvs) => some (kvs, [(l, .dct z kvs)])
    | _ => none
  | _ => none
mutual
def evE : Ex → Sw → Mem → Out Wv
  | .var i, σ, M => .ofO (getV i σ) M
  | .con w, _, M => .ok w M
  | .glb x, _, M => .ofO (G.con x) M
  | .tup es, σ, M => (evL es σ M).bind fun ws M => .chk (lenOk ws.length) (.ok (.tup ws) M)
  | .lst es, σ, M => (evL es σ M).bind fun ws M => .chk (lenOk ws.length) (.ok (.ref M.length) (M ++ [.lst ws]))
  | .dict0, _, M => .ok (.ref M.length) (M ++ [.dct false []])
  | .bin o a b, σ, M => (evE a σ M).bind fun x M => (evE b σ M).bind fun y M => binW o x y M
  | .neg a, σ, M => (evE a σ M).bind fun x M => .ofO ((toI x).map fun i => .int (-i)) M
  | .not a, σ, M => (evE a σ M).bind fun x M => .ofO ((truW G x M).map fun b => .bl (!b)) M
  | .and a b, σ, M => (evE a σ M).bind fun x M => (Out.ofO (truW G x M) M).bind fun c M => if c then evE b σ M else .ok x M
  | .or a b, σ, M => (evE a σ M).bind fun x M => (Out.ofO (truW G x M) M).bind fun c M => if c then .ok x M else evE b σ M
  | .ife t a b, σ, M => (evE t σ M).bind fun x M => (Out.ofO (truW G x M) M).bind fun c M => if c then evE a σ M else evE b σ M
  | .cmp c a b, σ, M => (evE a σ M).bind fun x M => (evE b σ M).bind fun y M => cmpW G c x y M
  | .cmp2 c d a b e, σ, M => (evE a σ M).bind fun x M => (evE b σ M).bind fun y M => (cmpW G c x y M).bind fun r M =>
      (Out.ofO (truW G r M) M).bind fun k M => if k then (evE e σ M).bind fun z M => cmpW G d y z M else .ok r M
  | .attr a f, σ, M => (evE a σ M).bind fun x M => attrW G x f M
  | .sub a i, σ, M => (evE a σ M).bind fun x M => (evE i σ M).bind fun y M => subW G x y M
  | .slc a lo hi, σ, M => (evE a σ M).bind fun x M =>
      (if lo.isNo then .ok none M else (evE lo σ M).bind fun y M => .ofO ((toI y).map some) M).bind fun l M =>
      (if hi.isNo then .ok none M else (evE hi σ M).bind fun y M => .ofO ((toI y).map some) M).bind fun h M => slcW x l h M
  | .no, _, _ => .bad
  | .srev z a, σ, M => (evE a σ M).bind fun x M => revW z x M
  | .call f es ds, σ, M => (evL es σ M).bind fun ws M => C f (ws ++ ds) M
  | .callk f es k, σ, M => (evL es σ M).bind fun ws M => (evE k σ M).bind fun w M => C f (ws ++ [w]) M
  | .meth m a es ds, σ, M => (evE a σ M).bind fun x M => (Out.ofO (metW G m x M) M).bind fun f M => (evL es σ M).bind fun ws M => C f (x :: (ws ++ ds)) M
  | .bm m a es, σ, M => (evE a σ M).bind fun x M => .chk (bmT m x M) ((evL es σ M).bind fun ws M => bmW m x ws M)
  | .new c es, σ, M => (evL es σ M).bind fun ws M => newW G C1 c ws M
  | .bi b es, σ, M => (evL es σ M).bind fun ws M => biW G b ws M
  | .isi k a, σ, M => (evE a σ M).bind fun x M => .ofO ((isiW k x M).map .bl) M
  | .lc e t it c, σ, M => (evI it σ M).bind fun r M => ((lcGo G t (evE c) (evE e) r.2 r.1 (wipeW σ t.slots) [] (lockM r.2 M)).noExc.unlk r.2).bind fun ws M => .ok (.ref M.length) (M ++ [.lst ws])
  | .lc2 e t it t2 it2, σ, M => (evI it σ M).bind fun r M => ((lc2Go t (evI it2) t2 (evE e) r.2 r.1 (wipeW σ (t.slots ++ t2.slots)) [] (lockM r.2 M)).noExc.unlk r.2).bind fun ws M => .ok (.ref M.length) (M ++ [.lst ws])
  | .dc k v t it c, σ, M => (evI it σ M).bind fun r M => ((dcGo G t (evE c) (evE k) (evE v) r.2 r.1 (wipeW σ t.slots) [] (lockM r.2 M)).noExc.unlk r.2).bind fun kvs M => .ok (.ref M.length) (M ++ [.dct false kvs])
  | .sortk a k, σ, M => (evE a σ M).bind fun x M => newL ((lstOf x M).bind fun ws => (mapO (keyOf G k M) ws).bind fun ds => sortBy ds ws) M
  | .sortv a k, σ, M => (evE a σ M).bind fun x M => newL ((valsOf x M).bind fun ws => (mapO (keyOf G k M) ws).bind fun ds => sortBy ds ws) M
  | .dict2 k1 v1 k2 v2, _, M => .chk (decide (k1 ≠ k2)) (.ok (.ref M.length) (M ++ [.dct false [(.str k1, .int v1), (.str k2, .int v2)]]))
def evL : El → Sw → Mem → Out (List Wv)
  | .nil, _, M => .ok [] M
  | .cons e es, σ, M => (evE e σ M).bind fun w M => (evL es σ M).bind fun ws M => .ok (w :: ws) M
def evI : It → Sw → Mem → Out (List Wv × List (Nat × Ob))
  | .val e, σ, M => (evE e σ M).bind fun x M => .ofO (walkV G x M) M
  | .rng a b, σ, M => (evE a σ M).bind fun x M => (evE b σ M).bind fun y M => match toI x, toI y with
    | some i, some j => .chk (rngOk i && rngOk j) (.ok (rngW i j, []) M)
    | _, _ => .bad
  | .items e, σ, M => (evE e σ M).bind fun x M => (Out.ofO (itmW x M) M).bind fun r M => .ok (r.1.map fun p => .tup [p.1, p.2], r.2) M
  | .vals e, σ, M => (evE e σ M).bind fun x M => (Out.ofO (itmW x M) M).bind fun r M => .ok (r.1.map fun p => p.2, r.2) M
  | .enum e, σ, M => (evE e σ M).bind fun x M => (Out.ofO (seqV x M) M).bind fun r M => .ok (r.1.zipIdx.map fun p => .tup [.int p.2, p.1], r.2) M
  | .zip a b, σ, M => (evE a σ M).bind fun x M => (evE b σ M).bind fun y M => (Out.ofO (seqV x M) M).bind fun r M => (Out.ofO (seqV y M) M).bind fun q M => .ok ((r.1.zip q.1).map fun p => .tup [p.1, p.2], r.2 ++ q.2) M
end

/-! ### statements -/
def setW (o i v : Wv) (M : Mem) : Out Unit := match o with
  | .ref l => match M[l]? with
    | some (.lst ws) => (match i with
      | .int j => if 0 ≤ j then (if j < ws.length then .ok () (M.set l (.lst (ws.set j.toNat v))) else .bad) else if -(ws.length : Int) ≤ j then .ok () (M.set l (.lst (ws.set (j + ws.length).toNat v))) else .bad
      | _ => .bad)
    | some (.dct false kvs) => .chk (keyOk kvs i && lenOk (kvs.length + 1)) (.ok () (M.set l (.dct false (dput kvs i v))))
    | _ => .bad
  | _ => .bad
def setA (o : Wv) (f : Str) (v : Wv) (M : Mem) : Out Unit := match o with
  | .ref l => match M[l]? with
    | some (.ins c fs) => .chk ((G.cls c).isSome && decide (fs.length < 1000)) (.ok () (M.set l (.ins c (putF f v fs))))
    | _ => .bad
  | _ => .bad
/-- an instance's class -/
def clsAt (x : Wv) (M : Mem) : Option Nat := match x with
  | .ref l => match M[l]? with
    | some (.ins c _) => some c
    | _ => none
  | _ => none
/-- x op= y -/
def augW (o : Op) (x y : Wv) (M : Mem) : Out Wv := match o, x, y with
  | .add, .int i, .int j => .ok (.int (i + j)) M
  | .sub, .int i, .int j => .ok (.int (i - j)) M
  | _, _, _ => .bad
variable (fuel : Nat)
mutual
def evS : St → Sw → Mem → Out (Fl × Sw)
  | .asg t e, σ, M => (evE G C C1 e σ M).bind fun x M => (Out.ofO (tgW t x σ) M).bind fun σ M => .ok (.nx, σ) M
  | .asgA o f e, σ, M => (evE G C C1 e σ M).bind fun x M => (evE G C C1 o σ M).bind fun y M => (setA G y f x M).bind fun _ M => .ok (.nx, σ) M
  | .asgS o i e, σ, M => (evE G C C1 e σ M).bind fun x M => (evE G C C1 o σ M).bind fun y M => (evE G C C1 i σ M).bind fun z M => (setW y z x M).bind fun _ M => .ok (.nx, σ) M
  | .aug i p e, σ, M => (Out.ofO (getV i σ) M).bind fun x M => (evE G C C1 e σ M).bind fun y M => (augW p x y M).bind fun z M => .ok (.nx, σ.set i (some z)) M
  | .augA o f p e, σ, M => (evE G C C1 o σ M).bind fun y M => (attrW G y f M).bind fun x M1 => (evE G C C1 e σ M1).bind fun z M2 => (augW p x z M2).bind fun r M3 => .chk (decide (clsAt y M3 = clsAt y M)) ((setA G y f r M3).bind fun _ M => .ok (.nx, σ) M)
  | .ex e, σ, M => (evE G C C1 e σ M).bind fun _ M => .ok (.nx, σ) M
  | .ret e, σ, M => (evE G C C1 e σ M).bind fun x M => .ok (.ret x, σ) M
  | .retN, σ, M => .ok (.ret .non, σ) M
  | .pass, σ, M => .ok (.nx, σ) M
  | .brk, σ, M => .ok (.brk, σ) M
  | .cont, σ, M => .ok (.ct, σ) M
  | .ifs t a b, σ, M => (evE G C C1 t σ M).bind fun x M => (Out.ofO (truW G x M) M).bind fun k M => if k then evSl a σ M else evSl b σ M
  | .for_ t it b, σ, M => (evI G C C1 it σ M).bind fun r M => (forGo t (evSl b) r.2 r.1 σ (lockM r.2 M)).unlk r.2
  | .whl t b, σ, M => whlGo G (evE G C C1 t) (evSl b) fuel σ M
  | .raise c, _, M => .exc c M
def evSl : Sl → Sw → Mem → Out (Fl × Sw)
  | .nil, σ, M => .ok (.nx, σ) M
  | .cons s r, σ, M => (evS s σ M).bind fun q M => match q.1 with
    | .nx => evSl r q.2 M
    | f => .ok (f, q.2) M
end
end
/-! ### calls -/
/-- a def's body at arguments -/
def runD (G : Pg) (C C1 : Nat → List Wv → Mem → Out Wv) (fuel : Nat) (d : Df) (ws : List Wv) (M : Mem) : Out Wv :=
  .chk (decide (ws.length = d.npar)) ((evSl G C C1 fuel d.body (ws.map some ++ List.replicate (d.slots - ws.length) none) M).bind fun r M => match r.1 with
    | .ret w => .ok w M
    | .nx => .ok .non M
    | _ => .bad)
/-- calls, so deep -/
def callN (G : Pg) (fuel : Nat) : Nat → Nat → List Wv → Mem → Out Wv
  | 0, _, _, _ => .bad
  | 1, f, ws, M => match G.df f with
    | some d => runD G (fun _ _ _ => .bad) (fun _ _ _ => .bad) fuel d ws M
    | none => .bad
  | n + 2, f, ws, M => match G.df f with
    | some d => runD G (callN G fuel (n + 1)) (callN G fuel n) fuel d ws M
    | none => .bad
end MP
end
section
set_option Elab.async false
set_option linter.all false
set_option maxRecDepth 100000
/-! MP2: what a value of the small Python is in the hand layer's heap; readings by the small Python's own reckoning. -/
namespace MP
open PySem PySem.Spec PyProof.Rows L2

/-- what stands still through a law's run -/
structure Zt where
  P : Program
  w : World
  K : PySem.W.Frag
  S : List Int
  cls : Nat → Addr
  exc : Nat → Addr
  T : List (Addr × Str)

/-- the script: locked, or the module's own -/
def ScR (K : PySem.W.Frag) (H : Hp) (a : Addr) (xs : List V) : Prop := (∃ o, H a = some (.frz o (.lst xs))) ∨ ∀ H', SqL K H' a xs
theorem ScR.sq {K : PySem.W.Frag} {H : Hp} {a : Addr} {xs : List V} (h : ScR K H a xs) : SqL K H a xs := by
  rcases h with ⟨o, h⟩ | h
  · exact .inl (.inr ⟨o, h⟩)
  · exact h H
mutual
inductive WR (Z : Zt) (ι : List Addr) (H : Hp) : Wv → V → Prop
  | non : WR Z ι H .non .non
  | bl (b : Bool) : WR Z ι H (.bl b) (.bl b)
  | int (i : Int) : WR Z ι H (.int i) (.int i)
  | str (s : Str) : WR Z ι H (.str s) (.str s)
  | tup {ws : List Wv} {vs : List V} {a : Addr} : SqT Z.K H a vs → WsR Z ι H ws vs → WR Z ι H (.tup ws) (.ref a)
  | ref {l : Nat} {a : Addr} : ι[l]? = some a → WR Z ι H (.ref l) (.ref a)
  | scr {a : Addr} : ScR Z.K H a (Z.S.map V.int) → WR Z ι H .scr (.ref a)
inductive WsR (Z : Zt) (ι : List Addr) (H : Hp) : List Wv → List V → Prop
  | nil : WsR Z ι H [] []
  | cons {w : Wv} {v : V} {ws : List Wv} {vs : List V} : WR Z ι H w v → WsR Z ι H ws vs → WsR Z ι H (w :: ws) (v :: vs)
end
/-- an object that never changes -/
def Imm (o : HO) : Prop := (∃ xs, o = .tup xs) ∨ ∃ ob u, o = .frz ob u ∧ ∀ φ, u ≠ .ext φ
def NoT (o : HO) : Prop := ∀ ps, o ≠ .tbl ps
/-- nothing, or a table -/
def Vac (H : Hp) (a : Addr) : Prop := ∀ o, H a = some o → NoT o → False
theorem Vac.of {H : Hp} {a : Addr} (h : H a = none) : Vac H a := fun o e _ => by rw [h] at e; cases e
theorem Vac.upd_ne {H : Hp} {a b : Addr} {ho : HO} (h : Vac (upd H b ho) a) (ne : a ≠ b) : Vac H a := fun o e n => h o (by rw [L2.upd_ne ne]; exact e) n
theorem Vac.upd_self {H : Hp} {b : Addr} {ho : HO} (n : NoT ho) (h : Vac (upd H b ho) b) : False := h ho upd_same n
/-- the heap goes on -/
structure Ext (ι ι' : List Addr) (H H' : Hp) : Prop where
  pre : ∃ κ, ι' = ι ++ κ ∧ ∀ a ∈ κ, Vac H a
  frm : ∀ a o, H a = some o → NoT o → (a ∉ ι ∨ Imm o) → H' a = some o
  frz : ∀ a ob φ, H a = some (.frz ob (.ext φ)) → H' a = some (.frz ob (.ext φ))
  dom : ∀ a, Vac H' a → Vac H a
theorem Imm.noT {o : HO} (h : Imm o) : NoT o := by
  rintro ps rfl
  rcases h with ⟨xs, h⟩ | ⟨ob, u, h, _⟩ <;> cases h
theorem Ext.refl (ι : List Addr) (H : Hp) : Ext ι ι H H := ⟨⟨[], by simp, by simp⟩, fun _ _ h _ _ => h, fun _ _ _ h => h, fun _ h => h⟩
theorem Ext.trans {ι ι1 ι2 : List Addr} {H H1 H2 : Hp} (a : Ext ι ι1 H H1) (b : Ext ι1 ι2 H1 H2) : Ext ι ι2 H H2 := by
  obtain ⟨κ, rfl, hκ⟩ := a.pre
  obtain ⟨κ2, rfl, hκ2⟩ := b.pre
  refine ⟨⟨κ ++ κ2, by simp, fun x hx => ?_⟩, fun x o h nt hx => ?_, fun x ob φ h => b.frz x ob φ (a.frz x ob φ h), fun x h => a.dom x (b.dom x h)⟩
  · rcases List.mem_append.mp hx with z | z
    · exact hκ x z
    · exact a.dom x (hκ2 x z)
  · refine b.frm x o (a.frm x o h nt hx) nt ?_
    rcases hx with z | z
    · refine .inl fun q => ?_
      rcases List.mem_append.mp q with q | q
      · exact z q
      · exact hκ x q o h nt
    · exact .inr z
/-- what told values lean on stays -/
structure Le (ι ι' : List Addr) (H H' : Hp) : Prop where
  ix : ∀ (l : Nat) (a : Addr), ι[l]? = some a → ι'[l]? = some a
  imm : ∀ a o, H a = some o → Imm o → H' a = some o
theorem Ext.le {ι ι' : List Addr} {H H' : Hp} (e : Ext ι ι' H H') : Le ι ι' H H' := by
  refine ⟨fun l a h => ?_, fun a o h i => e.frm a o h i.noT (.inr i)⟩
  obtain ⟨κ, rfl, _⟩ := e.pre
  rw [List.getElem?_append_left (List.getElem?_eq_some_iff.mp h).1]; exact h
theorem Le.grow (ι κ : List Addr) (H : Hp) : Le ι (ι ++ κ) H H := ⟨fun l a h => by rw [List.getElem?_append_left (List.getElem?_eq_some_iff.mp h).1]; exact h, fun _ _ h _ => h⟩
theorem Le.sqT {ι ι' : List Addr} {H H' : Hp} (e : Le ι ι' H H') {K : PySem.W.Frag} {a : Addr} {xs : List V} (h : SqT K H a xs) : SqT K H' a xs := by
  rcases h with (h | ⟨o, h⟩) | h
  · exact .inl (.inl (e.imm _ _ h (.inl ⟨_, rfl⟩)))
  · exact .inl (.inr ⟨o, e.imm _ _ h (.inr ⟨_, _, rfl, fun φ z => by cases z⟩)⟩)
  · exact .inr h
theorem Le.scR {ι ι' : List Addr} {H H' : Hp} (e : Le ι ι' H H') {K : PySem.W.Frag} {a : Addr} {xs : List V} (h : ScR K H a xs) : ScR K H' a xs := by
  rcases h with ⟨o, h⟩ | h
  · exact .inl ⟨o, e.imm _ _ h (.inr ⟨_, _, rfl, fun φ z => by cases z⟩)⟩
  · exact .inr h
mutual
theorem WR.mono {Z : Zt} {ι ι' : List Addr} {H H' : Hp} (e : Le ι ι' H H') : ∀ {w : Wv} {v : V}, WR Z ι H w v → WR Z ι' H' w v
  | _, _, .non => .non
  | _, _, .bl b => .bl b
  | _, _, .int i => .int i
  | _, _, .str s => .str s
  | _, _, .tup h t => .tup (e.sqT h) (WsR.mono e t)
  | _, _, .ref h => .ref (e.ix _ _ h)
  | _, _, .scr h => .scr (e.scR h)
theorem WsR.mono {Z : Zt} {ι ι' : List Addr} {H H' : Hp} (e : Le ι ι' H H') : ∀ {ws : List Wv} {vs : List V}, WsR Z ι H ws vs → WsR Z ι' H' ws vs
  | _, _, .nil => .nil
  | _, _, .cons h t => .cons (WR.mono e h) (WsR.mono e t)
end
/-! ### rows of values -/
section
variable {Z : Zt} {ι ι' : List Addr} {H H' : Hp}
theorem WsR.length : ∀ {ws : List Wv} {vs : List V}, WsR Z ι H ws vs → ws.length = vs.length
  | _, _, .nil => rfl
  | _, _, .cons _ t => congrArg (· + 1) t.length
theorem WsR.append : ∀ {ws xs : List Wv} {vs ys : List V}, WsR Z ι H ws vs → WsR Z ι H xs ys → WsR Z ι H (ws ++ xs) (vs ++ ys)
  | _, _, _, _, .nil, s => s
  | _, _, _, _, .cons h t, s => .cons h (t.append s)
theorem WsR.get : ∀ {ws : List Wv} {vs : List V} {i : Nat} {w : Wv}, WsR Z ι H ws vs → ws[i]? = some w → ∃ v, vs[i]? = some v ∧ WR Z ι H w v
  | _, _, _, _, .nil, e => by simp at e
  | _, _, 0, _, .cons h _, e => by simp at e; subst e; exact ⟨_, rfl, h⟩
  | _, _, i + 1, _, .cons _ t, e => by
    obtain ⟨v, h1, h2⟩ := t.get (i := i) (by simpa using e)
    exact ⟨v, by simpa using h1, h2⟩
theorem WsR.get2 : ∀ {ws : List Wv} {vs : List V} {i : Nat} {v : V}, WsR Z ι H ws vs → vs[i]? = some v → ∃ w, ws[i]? = some w ∧ WR Z ι H w v
  | _, _, _, _, .nil, e => by simp at e
  | _, _, 0, _, .cons h _, e => by simp at e; subst e; exact ⟨_, rfl, h⟩
  | _, _, i + 1, _, .cons _ t, e => by
    obtain ⟨v, h1, h2⟩ := t.get2 (i := i) (by simpa using e)
    exact ⟨v, by simpa using h1, h2⟩
theorem WsR.set {w : Wv} {v : V} (h : WR Z ι H w v) : ∀ {ws : List Wv} {vs : List V} (i : Nat), WsR Z ι H ws vs → WsR Z ι H (ws.set i w) (vs.set i v)
  | _, _, _, .nil => .nil
  | _, _, 0, .cons _ t => .cons h t
  | _, _, i + 1, .cons q t => .cons q (t.set h i)
theorem WsR.take : ∀ {ws : List Wv} {vs : List V} (n : Nat), WsR Z ι H ws vs → WsR Z ι H (ws.take n) (vs.take n)
  | _, _, 0, _ => .nil
  | _, _, _ + 1, .nil => .nil
  | _, _, n + 1, .cons h t => .cons h (t.take n)
theorem WsR.drop : ∀ {ws : List Wv} {vs : List V} (n : Nat), WsR Z ι H ws vs → WsR Z ι H (ws.drop n) (vs.drop n)
  | _, _, 0, h => h
  | _, _, _ + 1, .nil => .nil
  | _, _, n + 1, .cons _ t => t.drop n
theorem WsR.rev {ws : List Wv} {vs : List V} (h : WsR Z ι H ws vs) : WsR Z ι H ws.reverse vs.reverse := by
  induction ws generalizing vs with
  | nil => cases h; exact .nil
  | cons w ws ih =>
    cases h with
    | cons h t => rw [List.reverse_cons, List.reverse_cons]; exact (ih t).append (.cons h .nil)
theorem WsR.ints (ns : List Int) : WsR Z ι H (ns.map .int) (ns.map V.int) := by
  induction ns with
  | nil => exact .nil
  | cons n ns ih => exact .cons (.int n) ih
end

/-! ### objects -/
mutual
/-- a key -/
def toNK : Wv → NestedKey
  | .int i => .num i
  | .str x => .text x
  | .tup ws => .tup (toNKs ws)
  | .non => .none
  | .bl _ => .none
  | .ref _ => .none
  | .scr => .none
def toNKs : List Wv → List NestedKey
  | [] => []
  | w :: ws => toNK w :: toNKs ws
end
/-- a pair and its entry -/
def EnR (Z : Zt) (ι : List Addr) (H : Hp) (p : Wv × Wv) (e : DictEntry) : Prop := ∃ kv vv, RelV kv e.key ∧ WR Z ι H p.1 kv ∧ RelV vv e.val ∧ WR Z ι H p.2 vv ∧ e.hash = (toNK p.1).hash Z.w
/-- a dict's object is known -/
def DctO (a : Addr) (o : Obj) : HO := .ext fun h => h.get? a = some o
/-- .. locked while it is walked -/
def lkO (z : Bool) (a : Addr) (o : Obj) : HO := match z with
  | true => .frz o (DctO a o)
  | false => DctO a o
def DctR (Z : Zt) (ι : List Addr) (H : Hp) (a : Addr) (z : Bool) (kvs : List (Wv × Wv)) : Prop :=
  ∃ o es ep, H a = some (lkO z a o) ∧ o.ExactDict ∧ o.data = .dict es ep ∧ (a == sysModules) = false ∧ kvs.length ≤ sizeLine ∧ (kvs.map (·.1)).Nodup ∧
    ((kvs.all fun p => keyA p.1) = true ∨ (kvs.all fun p => keyT p.1) = true) ∧ Paired (EnR Z ι H) kvs es.toList
def FsR (Z : Zt) (ι : List Addr) (H : Hp) : List (Str × Wv) → List (Str × V) → Prop := Paired fun p q => p.1 = q.1 ∧ WR Z ι H p.2 q.2
def OR (Z : Zt) (ι : List Addr) (H : Hp) (a : Addr) : Ob → Prop
  | .lst ws => ∃ vs, H a = some (.lst vs) ∧ WsR Z ι H ws vs
  | .dct z kvs => DctR Z ι H a z kvs
  | .ins c fs => ∃ dx vs, H a = some (.ins (Z.cls c) dx vs) ∧ FsR Z ι H fs vs
theorem lkO_noT (z : Bool) (a : Addr) (o : Obj) : NoT (lkO z a o) := fun ps e => by
  cases z <;> cases e
theorem lkO_noI (z : Bool) (a : Addr) (o : Obj) : ¬ Imm (lkO z a o) := fun h => by
  cases z with
  | true =>
    rcases h with ⟨_, h⟩ | ⟨_, _, h, n⟩
    · cases h
    · cases h; exact n _ rfl
  | false => rcases h with ⟨_, h⟩ | ⟨_, _, h, n⟩ <;> cases h
structure RM (Z : Zt) (ι : List Addr) (M : Mem) (H : Hp) : Prop where
  len : ι.length = M.length
  nd : ι.Nodup
  ob : ∀ (l : Nat) (o : Ob) (a : Addr), M[l]? = some o → ι[l]? = some a → OR Z ι H a o
  tab : LamX.Tabs Z.T H
section
variable {Z : Zt} {ι ι' : List Addr} {H H' : Hp} {M M' : Mem} {a : Addr} {o : Ob}
theorem EnR.mono (e : Le ι ι' H H') {p : Wv × Wv} {d : DictEntry} (h : EnR Z ι H p d) : EnR Z ι' H' p d := by
  obtain ⟨kv, vv, h1, h2, h3, h4, h5⟩ := h
  exact ⟨kv, vv, h1, h2.mono e, h3, h4.mono e, h5⟩
theorem FsR.mono (e : Le ι ι' H H') {fs : List (Str × Wv)} {vs : List (Str × V)} (h : FsR Z ι H fs vs) : FsR Z ι' H' fs vs := L2.Paired.mapP h fun _ _ z => ⟨z.1, z.2.mono e⟩
/-- an object that stays -/
theorem OR.mono (e : Le ι ι' H H') (k : ∀ ho, H a = some ho → NoT ho → H' a = some ho) (h : OR Z ι H a o) : OR Z ι' H' a o := by
  cases o with
  | lst ws =>
    obtain ⟨vs, h1, h2⟩ := h
    exact ⟨vs, k _ h1 (fun ps z => by cases z), h2.mono e⟩
  | dct z kvs =>
    obtain ⟨o, es, ep, h1, h2, h3, h4, h5, h6, h7, h8⟩ := h
    exact ⟨o, es, ep, k _ h1 (lkO_noT z a o), h2, h3, h4, h5, h6, h7, L2.Paired.mapP h8 fun _ _ z => z.mono e⟩
  | ins c fs =>
    obtain ⟨dx, vs, h1, h2⟩ := h
    exact ⟨dx, vs, k _ h1 (fun ps z => by cases z), h2.mono e⟩
theorem OR.some (h : OR Z ι H a o) : ∃ ho, H a = some ho ∧ NoT ho ∧ ¬ Imm ho := by
  cases o with
  | lst ws =>
    obtain ⟨vs, h1, h2⟩ := h
    exact ⟨_, h1, (fun ps z => by cases z), (fun z => by rcases z with ⟨_, z⟩ | ⟨_, _, z, _⟩ <;> cases z)⟩
  | dct z kvs =>
    obtain ⟨o, es, ep, h1, h2⟩ := h
    exact ⟨_, h1, lkO_noT z a o, lkO_noI z a o⟩
  | ins c fs =>
    obtain ⟨dx, vs, h1, h2⟩ := h
    exact ⟨_, h1, (fun ps z => by cases z), (fun z => by rcases z with ⟨_, z⟩ | ⟨_, _, z, _⟩ <;> cases z)⟩
theorem RM.at (R : RM Z ι M H) {l : Nat} (h : M[l]? = some o) : ∃ a, ι[l]? = some a ∧ OR Z ι H a o := by
  have hl : l < M.length := (List.getElem?_eq_some_iff.mp h).1
  have hl2 : l < ι.length := by rw [R.len]; exact hl
  exact ⟨ι[l], by simp [hl2], R.ob l o _ h (by simp [hl2])⟩
theorem RM.mem (R : RM Z ι M H) (h : a ∈ ι) : ∃ (l : Nat) (o : Ob), ι[l]? = some a ∧ M[l]? = some o ∧ OR Z ι H a o := by
  obtain ⟨l, hl⟩ := List.mem_iff_getElem?.mp h
  have h1 : l < ι.length := (List.getElem?_eq_some_iff.mp hl).1
  have h2 : l < M.length := by rw [← R.len]; exact h1
  exact ⟨l, M[l], hl, by simp [h2], R.ob l _ a (by simp [h2]) hl⟩
theorem RM.notin (R : RM Z ι M H) (h : H a = none) : a ∉ ι := fun hm => by
  obtain ⟨_, _, _, _, q⟩ := R.mem hm
  obtain ⟨ho, q, _⟩ := q.some
  rw [h] at q; cases q
theorem RM.at_ref (R : RM Z ι M H) {l : Nat} (h : M[l]? = some o) {v : V} (w : WR Z ι H (.ref l) v) : ∃ a, v = .ref a ∧ ι[l]? = some a ∧ OR Z ι H a o := by
  cases w with
  | ref e => exact ⟨_, rfl, e, R.ob l o _ h e⟩
/-- a new object beside all others, not told of -/
theorem Le.fresh (ι : List Addr) {p : Addr} {ho : HO} (hp : H p = none) : Le ι ι H (upd H p ho) := ⟨fun _ _ h => h, fun x o h _ => by rw [upd_ne (ne_of_none h hp)]; exact h⟩
theorem Ext.fresh (ι : List Addr) {p : Addr} {ho : HO} (hp : H p = none) (nt : NoT ho := by intro ps z; cases z) : Ext ι ι H (upd H p ho) :=
  ⟨⟨[], by simp, by simp⟩, fun x o h _ _ => by rw [upd_ne (ne_of_none h hp)]; exact h, fun x ob φ h => by rw [upd_ne (ne_of_none h hp)]; exact h, fun x h => by
    by_cases e : x = p
    · rw [e]; exact Vac.of hp
    · exact h.upd_ne e⟩
theorem tabs_upd {T : List (Addr × Str)} {p : Addr} {ho : HO} (t : LamX.Tabs T H) (hp : H p = none) : LamX.Tabs T (upd H p ho) := t.ext fun b o h => by rw [upd_ne (ne_of_none h hp)]; exact h
theorem RM.fresh (R : RM Z ι M H) {p : Addr} {ho : HO} (hp : H p = none) : RM Z ι M (upd H p ho) :=
  ⟨R.len, R.nd, fun l o a h1 h2 => (R.ob l o a h1 h2).mono (Le.fresh ι hp) fun z q _ => by rw [upd_ne (ne_of_none q hp)]; exact q, tabs_upd R.tab hp⟩
/-- a new object that is told of -/
theorem Ext.alloc (ι : List Addr) {p : Addr} {ho : HO} (hp : H p = none) (nt : NoT ho := by intro ps z; cases z) : Ext ι (ι ++ [p]) H (upd H p ho) :=
  ⟨⟨[p], rfl, fun x hx => by rw [List.mem_singleton.mp hx]; exact Vac.of hp⟩, (Ext.fresh ι hp nt).frm, (Ext.fresh ι hp nt).frz, (Ext.fresh (ho := ho) ι hp nt).dom⟩
theorem Ext.told {ι : List Addr} {p : Addr} (hp : Vac H p) (e : Ext ι ι' H H') (hn : p ∉ ι') : Ext ι (ι' ++ [p]) H H' := by
  obtain ⟨κ, rfl, hκ⟩ := e.pre
  refine ⟨⟨κ ++ [p], by simp, fun x hx => ?_⟩, e.frm, e.frz, e.dom⟩
  rcases List.mem_append.mp hx with z | z
  · exact hκ x z
  · rw [List.mem_singleton.mp z]; exact hp
theorem nodup_snoc {l : List Addr} {p : Addr} (h : l.Nodup) (hp : p ∉ l) : (l ++ [p]).Nodup := by
  rw [List.nodup_append]
  exact ⟨h, by simp, fun x hx y hy => by rw [List.mem_singleton.mp hy]; exact fun e => hp (e ▸ hx)⟩
/-- an object that stands is told of from now on -/
theorem RM.tell (R : RM Z ι M H) {p : Addr} (hn : p ∉ ι) (h : OR Z (ι ++ [p]) H p o) : RM Z (ι ++ [p]) (M ++ [o]) H := by
  refine ⟨by simp [R.len], nodup_snoc R.nd hn, fun l q b h1 h2 => ?_, R.tab⟩
  by_cases hl : l < M.length
  · rw [List.getElem?_append_left hl] at h1
    rw [List.getElem?_append_left (by rw [R.len]; exact hl)] at h2
    exact (R.ob l q b h1 h2).mono (Le.grow ι [p] H) fun _ z _ => z
  · have e : l = M.length := by
      have := (List.getElem?_eq_some_iff.mp h1).1
      simp at this
      omega
    subst e
    rw [List.getElem?_append_right (Nat.le_refl _)] at h1
    rw [List.getElem?_append_right (by rw [R.len]; exact Nat.le_refl _)] at h2
    simp [R.len] at h1 h2
    subst h1 h2
    exact h
/-- an object that is told of is changed -/
theorem Ext.write {M : Mem} (R : RM Z ι M H) {l : Nat} (hl : ι[l]? = some a) {ho : HO} (nf : ∀ ob φ, H a ≠ some (.frz ob (.ext φ))) (nt : NoT ho := by intro ps z; cases z) : Ext ι ι H (upd H a ho) := by
  have hm : a ∈ ι := List.mem_of_getElem? hl
  obtain ⟨_, _, _, _, q⟩ := R.mem hm
  obtain ⟨h0, e0, n0, i0⟩ := q.some
  refine ⟨⟨[], by simp, by simp⟩, fun x o h nt hx => ?_, fun x ob φ h => ?_, fun x h => ?_⟩
  · have : x ≠ a := by
      rintro rfl
      rcases hx with z | z
      · exact z hm
      · rw [e0] at h; cases h; exact i0 z
    rw [upd_ne this]; exact h
  · have : x ≠ a := by
      rintro rfl
      exact nf _ _ h
    rw [upd_ne this]; exact h
  · by_cases e : x = a
    · rw [e] at h; exact (h.upd_self nt).elim
    · exact h.upd_ne e
theorem Le.write {M : Mem} (R : RM Z ι M H) {l : Nat} (hl : ι[l]? = some a) {ho : HO} : Le ι ι H (upd H a ho) := by
  have hm : a ∈ ι := List.mem_of_getElem? hl
  obtain ⟨_, _, _, _, q⟩ := R.mem hm
  obtain ⟨h0, e0, n0, i0⟩ := q.some
  refine ⟨fun _ _ h => h, fun x o h hx => ?_⟩
  have : x ≠ a := by
    rintro rfl
    rw [e0] at h; cases h; exact i0 hx
  rw [upd_ne this]; exact h
theorem tabs_write {T : List (Addr × Str)} {ho h0 : HO} (t : LamX.Tabs T H) (e0 : H a = some h0) (n0 : NoT h0) (nc : ∀ q, h0 ≠ LamX.CodeO a q) : LamX.Tabs T (upd H a ho) := fun p hp => by
  obtain ⟨ps, h1, h2, h3⟩ := t p hp
  have ne : p.1 ≠ a := fun z => by rw [z, e0] at h1; cases h1; exact n0 ps rfl
  refine ⟨ps, by rw [upd_ne ne]; exact h1, h2, fun pos cv hc => ?_⟩
  obtain ⟨c, e1, e2⟩ := h3 pos cv hc
  have nc' : c ≠ a := fun z => by rw [z, e0] at e2; exact nc _ (Option.some.inj e2)
  exact ⟨c, e1, by rw [upd_ne nc']; exact e2⟩
theorem nodup_ixA : ∀ {l : List Addr}, l.Nodup → ∀ {i j : Nat} {x : Addr}, l[i]? = some x → l[j]? = some x → i = j
  | [], _, _, _, _, h, _ => by simp at h
  | a :: l, nd, 0, 0, _, _, _ => rfl
  | a :: l, nd, 0, j + 1, x, h1, h2 => by
    simp at h1 h2
    subst h1
    exact absurd (List.mem_of_getElem? h2) (List.nodup_cons.mp nd).1
  | a :: l, nd, i + 1, 0, x, h1, h2 => by
    simp at h1 h2
    subst h2
    exact absurd (List.mem_of_getElem? h1) (List.nodup_cons.mp nd).1
  | a :: l, nd, i + 1, j + 1, x, h1, h2 => congrArg (· + 1) (nodup_ixA (List.nodup_cons.mp nd).2 (by simpa using h1) (by simpa using h2))
theorem RM.write (R : RM Z ι M H) {l : Nat} {o0 : Ob} {ho h0 : HO} (hM : M[l]? = some o0) (hl : ι[l]? = some a) (e0 : H a = some h0) (n0 : NoT h0) (nc : ∀ q, h0 ≠ LamX.CodeO a q) (h : OR Z ι (upd H a ho) a o) : RM Z ι (M.set l o) (upd H a ho) := by
  refine ⟨by simp [R.len], R.nd, fun j q b h1 h2 => ?_, tabs_write R.tab e0 n0 nc⟩
  have hlt : l < M.length := (List.getElem?_eq_some_iff.mp hM).1
  by_cases hj : l = j
  · subst hj
    rw [List.getElem?_set_self hlt] at h1
    cases h1
    rw [hl] at h2; cases h2
    exact h
  · rw [List.getElem?_set_ne hj] at h1
    have nb : b ≠ a := by
      rintro rfl
      exact hj (nodup_ixA R.nd hl h2)
    exact (R.ob j q b h1 h2).mono (Le.write R hl) fun z e _ => by rw [upd_ne nb]; exact e
/-- a new object, told of -/
theorem RM.alloc (R : RM Z ι M H) {p : Addr} {ho : HO} (hp : H p = none) (h : OR Z (ι ++ [p]) (upd H p ho) p o) : RM Z (ι ++ [p]) (M ++ [o]) (upd H p ho) :=
  (R.fresh hp).tell (R.notin hp) h
theorem snoc_ix (R : RM Z ι M H) (p : Addr) : (ι ++ [p])[M.length]? = some p := by
  rw [← R.len, List.getElem?_append_right (Nat.le_refl _)]; simp
end
end MP
end
section
set_option Elab.async false
set_option linter.all false
set_option maxRecDepth 100000
/-! MP3: readings by the small Python's reckoning; how they are put together. -/
namespace MP
open PySem PySem.Spec PyProof.Rows L2

/-- the slots -/
structure SR (Z : Zt) (ι : List Addr) (H : Hp) (sw : Sw) (σ : L2.St) : Prop where
  len : sw.length = σ.length
  get : ∀ (i : Nat) (w : Wv), sw[i]? = some (some w) → ∃ v, σ[i]? = some (some v) ∧ WR Z ι H w v
theorem SR.mono {Z : Zt} {ι ι' : List Addr} {H H' : Hp} {sw : Sw} {σ : L2.St} (s : SR Z ι H sw σ) (e : Le ι ι' H H') : SR Z ι' H' sw σ :=
  ⟨s.len, fun i w h => let ⟨v, h1, h2⟩ := s.get i w h; ⟨v, h1, h2.mono e⟩⟩
theorem SR.set {Z : Zt} {ι : List Addr} {H : Hp} {sw : Sw} {σ : L2.St} (s : SR Z ι H sw σ) {w : Wv} {v : V} (r : WR Z ι H w v) (i : Nat) : SR Z ι H (sw.set i (some w)) (σ.set i (some v)) := by
  refine ⟨by simp [s.len], fun j x h => ?_⟩
  by_cases hj : i = j
  · subst hj
    by_cases hi : i < sw.length
    · rw [List.getElem?_set_self hi] at h
      cases h
      exact ⟨v, by rw [List.getElem?_set_self (by rw [← s.len]; exact hi)], r⟩
    · rw [List.getElem?_eq_none (by simpa using hi)] at h; cases h
  · rw [List.getElem?_set_ne hj] at h ⊢
    exact s.get j x h
theorem SR.wipe {Z : Zt} {ι : List Addr} {H : Hp} {sw : Sw} {σ : L2.St} (s : SR Z ι H sw σ) : ∀ vs : List Nat, SR Z ι H (wipeW sw vs) (wipe σ vs)
  | [] => s
  | v :: vs => by
    have t := s.wipe vs
    refine ⟨by simp [wipeW, L2.wipe, t.len], fun j x h => ?_⟩
    unfold wipeW at h
    unfold L2.wipe
    by_cases hj : v = j
    · subst hj
      by_cases hi : v < (wipeW sw vs).length
      · rw [List.getElem?_set_self hi] at h; cases h
      · rw [List.getElem?_eq_none (by simpa using hi)] at h; cases h
    · rw [List.getElem?_set_ne hj] at h ⊢
      exact t.get j x h

/-- what is wished of a refusal, by its class, the slots, the heap -/
abbrev Wish := Nat → L2.St → Hp → Prop
/-- what follows an end -/
def eOut (Z : Zt) (Wx : Wish) (σ : L2.St) (ι : List Addr) (H : Hp) (r : Out Wv) (Q : VK) : Prop := match r with
  | .ok w M => ∀ v H' ι', Ext ι ι' H H' → RM Z ι' M H' → WR Z ι' H' w v → Q v H'
  | .exc c M => ∀ H' ι', Ext ι ι' H H' → RM Z ι' M H' → Wx c σ H'
  | .bad => False
abbrev Fv := Sw → Mem → Out Wv
def tE (Z : Zt) (Wx : Wish) (f : Fv) : TE := fun σ H Q => ∃ ι sw M, SR Z ι H sw σ ∧ RM Z ι M H ∧ eOut Z Wx σ ι H (f sw M) Q
def aOut (Z : Zt) (Wx : Wish) (σ : L2.St) (ι : List Addr) (H : Hp) (r : Out (List Wv)) (Q : List V → Hp → Prop) : Prop := match r with
  | .ok w M => ∀ v H' ι', Ext ι ι' H H' → RM Z ι' M H' → WsR Z ι' H' w v → Q v H'
  | .exc c M => ∀ H' ι', Ext ι ι' H H' → RM Z ι' M H' → Wx c σ H'
  | .bad => False
def tA (Z : Zt) (Wx : Wish) (f : Sw → Mem → Out (List Wv)) : TA := fun σ H Q => ∃ ι sw M, SR Z ι H sw σ ∧ RM Z ι M H ∧ aOut Z Wx σ ι H (f sw M) Q
def bOut (Z : Zt) (Wx : Wish) (σ : L2.St) (ι : List Addr) (H : Hp) (r : Out Bool) (Q : Bool → Hp → Prop) : Prop := match r with
  | .ok b M => ∀ H' ι', Ext ι ι' H H' → RM Z ι' M H' → Q b H'
  | .exc c M => ∀ H' ι', Ext ι ι' H H' → RM Z ι' M H' → Wx c σ H'
  | .bad => False
def tT (Z : Zt) (Wx : Wish) (f : Sw → Mem → Out Bool) : TT := fun σ H Q => ∃ ι sw M, SR Z ι H sw σ ∧ RM Z ι M H ∧ bOut Z Wx σ ι H (f sw M) Q
/-- statements -/
def sOut (Z : Zt) (Wx : Wish) (ι : List Addr) (H : Hp) (r : Out (Fl × Sw)) (D : Ends) : Prop := match r with
  | .ok (f, sw) M => ∀ σ' H' ι', Ext ι ι' H H' → RM Z ι' M H' → SR Z ι' H' sw σ' → match f with
    | .nx => D.nx σ' H'
    | .brk => D.bk σ' H'
    | .ct => D.ct σ' H'
    | .ret w => ∀ v, WR Z ι' H' w v → D.rt v H'
  | .exc c M => ∀ σ' H' ι', Ext ι ι' H H' → RM Z ι' M H' → Wx c σ' H'
  | .bad => False
def tS (Z : Zt) (Wx : Wish) (f : Sw → Mem → Out (Fl × Sw)) : TS := fun D σ H => ∃ ι sw M, SR Z ι H sw σ ∧ RM Z ι M H ∧ sOut Z Wx ι H (f sw M) D

/-! ### weaker readings -/
theorem _root_.L2.PE.weak {X : Cx} {e : Expr} {t t' : TE} (h : PE X e t) (w : ∀ σ H Q, t' σ H Q → t σ H Q) : PE X e t' := ⟨fun pins s σ H Q I q => h.run pins s σ H Q I (w σ H Q q)⟩
theorem _root_.L2.PT.weak {X : Cx} {e : Expr} {t t' : TT} (h : PT X e t) (w : ∀ σ H Q, t' σ H Q → t σ H Q) : PT X e t' := ⟨fun pins s σ H Q I q => h.run pins s σ H Q I (w σ H Q q)⟩
theorem _root_.L2.PW.weak {X : Cx} {e : Expr} {t t' : TT} (h : PW X e t) (w : ∀ σ H Q, t' σ H Q → t σ H Q) : PW X e t' := ⟨fun wh pins s σ H Q I q => h.run wh pins s σ H Q I (w σ H Q q)⟩
theorem _root_.L2.PA.weak {X : Cx} {e : List Expr} {t t' : TA} (h : PA X e t) (w : ∀ σ H Q, t' σ H Q → t σ H Q) : PA X e t' := ⟨fun pos pins s σ H Q I q => h.run pos pins s σ H Q I (w σ H Q q)⟩
theorem _root_.L2.PS.weak {X : Cx} {e : Stmt} {t t' : TS} (h : PS X e t) (w : ∀ D σ H, t' D σ H → t D σ H) : PS X e t' := ⟨fun pins s σ H D I q => h.run pins s σ H D I (w D σ H q)⟩
theorem _root_.L2.PSs.weak {X : Cx} {e : List Stmt} {t t' : TS} (h : PSs X e t) (w : ∀ D σ H, t' D σ H → t D σ H) : PSs X e t' := ⟨fun pins s σ H D I q => h.run pins s σ H D I (w D σ H q)⟩

section
variable {Z : Zt} {Wx : Wish} {σ : L2.St} {ι ι1 : List Addr} {H H1 : Hp} {sw : Sw} {M : Mem}
theorem eOut.shift {r : Out Wv} {Q : VK} (e : Ext ι ι1 H H1) (h : eOut Z Wx σ ι H r Q) : eOut Z Wx σ ι1 H1 r Q := by
  cases r with
  | ok w M' => exact fun v H' ι' x R q => h v H' ι' (e.trans x) R q
  | exc c M' => exact fun H' ι' x R => h H' ι' (e.trans x) R
  | bad => exact h
theorem aOut.shift {r : Out (List Wv)} {Q : List V → Hp → Prop} (e : Ext ι ι1 H H1) (h : aOut Z Wx σ ι H r Q) : aOut Z Wx σ ι1 H1 r Q := by
  cases r with
  | ok w M' => exact fun v H' ι' x R q => h v H' ι' (e.trans x) R q
  | exc c M' => exact fun H' ι' x R => h H' ι' (e.trans x) R
  | bad => exact h
theorem bOut.shift {r : Out Bool} {Q : Bool → Hp → Prop} (e : Ext ι ι1 H H1) (h : bOut Z Wx σ ι H r Q) : bOut Z Wx σ ι1 H1 r Q := by
  cases r with
  | ok w M' => exact fun H' ι' x R => h H' ι' (e.trans x) R
  | exc c M' => exact fun H' ι' x R => h H' ι' (e.trans x) R
  | bad => exact h
theorem sOut.shift {r : Out (Fl × Sw)} {D : Ends} (e : Ext ι ι1 H H1) (h : sOut Z Wx ι H r D) : sOut Z Wx ι1 H1 r D := by
  cases r with
  | ok w M' => exact fun σ' H' ι' x R q => h σ' H' ι' (e.trans x) R q
  | exc c M' => exact fun σ' H' ι' x R => h σ' H' ι' (e.trans x) R
  | bad => exact h

/-- THE STEP: an expression, then what hangs on its value -/
theorem tE.run {α : Type} {f : Fv} {g : Wv → Mem → Out α} {R : VK} (s : SR Z ι H sw σ) (R0 : RM Z ι M H)
    (hx : ∀ c M', f sw M = .exc c M' → ∀ H' ι', Ext ι ι' H H' → RM Z ι' M' H' → Wx c σ H') (hb : f sw M ≠ .bad)
    (hk : ∀ w M1, f sw M = .ok w M1 → ∀ v H1 ι1, Ext ι ι1 H H1 → RM Z ι1 M1 H1 → WR Z ι1 H1 w v → SR Z ι1 H1 sw σ → R v H1) : tE Z Wx f σ H R := by
  refine ⟨ι, sw, M, s, R0, ?_⟩
  cases e : f sw M with
  | ok w M1 => exact fun v H' ι' x R q => hk w M1 e v H' ι' x R q (s.mono x.le)
  | exc c M1 => exact fun H' ι' x R => hx c M1 e H' ι' x R
  | bad => exact absurd e hb
theorem tE.seqE {f : Fv} {g : Wv → Mem → Out Wv} {Q R : VK} (s : SR Z ι H sw σ) (R0 : RM Z ι M H) (h : eOut Z Wx σ ι H ((f sw M).bind g) Q)
    (hk : ∀ w M1 v H1 ι1, Ext ι ι1 H H1 → RM Z ι1 M1 H1 → WR Z ι1 H1 w v → SR Z ι1 H1 sw σ → eOut Z Wx σ ι1 H1 (g w M1) Q → R v H1) : tE Z Wx f σ H R := by
  refine ⟨ι, sw, M, s, R0, ?_⟩
  cases e : f sw M with
  | ok w M1 =>
    rw [e] at h
    exact fun v H' ι' x R q => hk w M1 v H' ι' x R q (s.mono x.le) (h.shift x)
  | exc c M1 => rw [e] at h; exact h
  | bad => rw [e] at h; exact h
theorem tE.seqA {f : Fv} {g : Wv → Mem → Out (List Wv)} {Q : List V → Hp → Prop} {R : VK} (s : SR Z ι H sw σ) (R0 : RM Z ι M H) (h : aOut Z Wx σ ι H ((f sw M).bind g) Q)
    (hk : ∀ w M1 v H1 ι1, Ext ι ι1 H H1 → RM Z ι1 M1 H1 → WR Z ι1 H1 w v → SR Z ι1 H1 sw σ → aOut Z Wx σ ι1 H1 (g w M1) Q → R v H1) : tE Z Wx f σ H R := by
  refine ⟨ι, sw, M, s, R0, ?_⟩
  cases e : f sw M with
  | ok w M1 =>
    rw [e] at h
    exact fun v H' ι' x R q => hk w M1 v H' ι' x R q (s.mono x.le) (h.shift x)
  | exc c M1 => rw [e] at h; exact h
  | bad => rw [e] at h; exact h
theorem tE.seqB {f : Fv} {g : Wv → Mem → Out Bool} {Q : Bool → Hp → Prop} {R : VK} (s : SR Z ι H sw σ) (R0 : RM Z ι M H) (h : bOut Z Wx σ ι H ((f sw M).bind g) Q)
    (hk : ∀ w M1 v H1 ι1, Ext ι ι1 H H1 → RM Z ι1 M1 H1 → WR Z ι1 H1 w v → SR Z ι1 H1 sw σ → bOut Z Wx σ ι1 H1 (g w M1) Q → R v H1) : tE Z Wx f σ H R := by
  refine ⟨ι, sw, M, s, R0, ?_⟩
  cases e : f sw M with
  | ok w M1 =>
    rw [e] at h
    exact fun v H' ι' x R q => hk w M1 v H' ι' x R q (s.mono x.le) (h.shift x)
  | exc c M1 => rw [e] at h; exact h
  | bad => rw [e] at h; exact h
theorem tE.seqS {f : Fv} {g : Wv → Mem → Out (Fl × Sw)} {D : Ends} {R : VK} (s : SR Z ι H sw σ) (R0 : RM Z ι M H) (h : sOut Z Wx ι H ((f sw M).bind g) D)
    (hk : ∀ w M1 v H1 ι1, Ext ι ι1 H H1 → RM Z ι1 M1 H1 → WR Z ι1 H1 w v → SR Z ι1 H1 sw σ → sOut Z Wx ι1 H1 (g w M1) D → R v H1) : tE Z Wx f σ H R := by
  refine ⟨ι, sw, M, s, R0, ?_⟩
  cases e : f sw M with
  | ok w M1 =>
    rw [e] at h
    exact fun v H' ι' x R q => hk w M1 v H' ι' x R q (s.mono x.le) (h.shift x)
  | exc c M1 =>
    rw [e] at h
    exact fun H' ι' x R => h σ H' ι' x R
  | bad => rw [e] at h; exact h
theorem tA.seqE {f : Sw → Mem → Out (List Wv)} {g : List Wv → Mem → Out Wv} {Q : VK} {R : List V → Hp → Prop} (s : SR Z ι H sw σ) (R0 : RM Z ι M H) (h : eOut Z Wx σ ι H ((f sw M).bind g) Q)
    (hk : ∀ w M1 v H1 ι1, Ext ι ι1 H H1 → RM Z ι1 M1 H1 → WsR Z ι1 H1 w v → SR Z ι1 H1 sw σ → eOut Z Wx σ ι1 H1 (g w M1) Q → R v H1) : tA Z Wx f σ H R := by
  refine ⟨ι, sw, M, s, R0, ?_⟩
  cases e : f sw M with
  | ok w M1 =>
    rw [e] at h
    exact fun v H' ι' x R q => hk w M1 v H' ι' x R q (s.mono x.le) (h.shift x)
  | exc c M1 => rw [e] at h; exact h
  | bad => rw [e] at h; exact h
theorem tA.seqA {f : Sw → Mem → Out (List Wv)} {g : List Wv → Mem → Out (List Wv)} {Q : List V → Hp → Prop} {R : List V → Hp → Prop} (s : SR Z ι H sw σ) (R0 : RM Z ι M H) (h : aOut Z Wx σ ι H ((f sw M).bind g) Q)
    (hk : ∀ w M1 v H1 ι1, Ext ι ι1 H H1 → RM Z ι1 M1 H1 → WsR Z ι1 H1 w v → SR Z ι1 H1 sw σ → aOut Z Wx σ ι1 H1 (g w M1) Q → R v H1) : tA Z Wx f σ H R := by
  refine ⟨ι, sw, M, s, R0, ?_⟩
  cases e : f sw M with
  | ok w M1 =>
    rw [e] at h
    exact fun v H' ι' x R q => hk w M1 v H' ι' x R q (s.mono x.le) (h.shift x)
  | exc c M1 => rw [e] at h; exact h
  | bad => rw [e] at h; exact h
theorem tT.seqE {f : Sw → Mem → Out Bool} {g : Bool → Mem → Out Wv} {Q : VK} {R : Bool → Hp → Prop} (s : SR Z ι H sw σ) (R0 : RM Z ι M H) (h : eOut Z Wx σ ι H ((f sw M).bind g) Q)
    (hk : ∀ b M1 H1 ι1, Ext ι ι1 H H1 → RM Z ι1 M1 H1 → SR Z ι1 H1 sw σ → eOut Z Wx σ ι1 H1 (g b M1) Q → R b H1) : tT Z Wx f σ H R := by
  refine ⟨ι, sw, M, s, R0, ?_⟩
  cases e : f sw M with
  | ok w M1 =>
    rw [e] at h
    exact fun H' ι' x R => hk w M1 H' ι' x R (s.mono x.le) (h.shift x)
  | exc c M1 => rw [e] at h; exact h
  | bad => rw [e] at h; exact h
theorem tT.seqB {f : Sw → Mem → Out Bool} {g : Bool → Mem → Out Bool} {Q : Bool → Hp → Prop} {R : Bool → Hp → Prop} (s : SR Z ι H sw σ) (R0 : RM Z ι M H) (h : bOut Z Wx σ ι H ((f sw M).bind g) Q)
    (hk : ∀ b M1 H1 ι1, Ext ι ι1 H H1 → RM Z ι1 M1 H1 → SR Z ι1 H1 sw σ → bOut Z Wx σ ι1 H1 (g b M1) Q → R b H1) : tT Z Wx f σ H R := by
  refine ⟨ι, sw, M, s, R0, ?_⟩
  cases e : f sw M with
  | ok w M1 =>
    rw [e] at h
    exact fun H' ι' x R => hk w M1 H' ι' x R (s.mono x.le) (h.shift x)
  | exc c M1 => rw [e] at h; exact h
  | bad => rw [e] at h; exact h
theorem tT.seqS {f : Sw → Mem → Out Bool} {g : Bool → Mem → Out (Fl × Sw)} {D : Ends} {R : Bool → Hp → Prop} (s : SR Z ι H sw σ) (R0 : RM Z ι M H) (h : sOut Z Wx ι H ((f sw M).bind g) D)
    (hk : ∀ b M1 H1 ι1, Ext ι ι1 H H1 → RM Z ι1 M1 H1 → SR Z ι1 H1 sw σ → sOut Z Wx ι1 H1 (g b M1) D → R b H1) : tT Z Wx f σ H R := by
  refine ⟨ι, sw, M, s, R0, ?_⟩
  cases e : f sw M with
  | ok w M1 =>
    rw [e] at h
    exact fun H' ι' x R => hk w M1 H' ι' x R (s.mono x.le) (h.shift x)
  | exc c M1 =>
    rw [e] at h
    exact fun H' ι' x R => h σ H' ι' x R
  | bad => rw [e] at h; exact h
/-- a value at hand -/
theorem eOut.val {w : Wv} {v : V} {Q : VK} (h : eOut Z Wx σ ι H (.ok w M) Q) (R : RM Z ι M H) (q : WR Z ι H w v) : Q v H := h v H ι (Ext.refl ι H) R q
theorem eOut.chk {b : Bool} {r : Out Wv} {Q : VK} (h : eOut Z Wx σ ι H (.chk b r) Q) : b = true ∧ eOut Z Wx σ ι H r Q := by
  cases b with
  | true => exact ⟨rfl, h⟩
  | false => exact False.elim h
theorem eOut.ofO {o : Option Wv} {Q : VK} (h : eOut Z Wx σ ι H (.ofO o M) Q) : ∃ w, o = some w ∧ eOut Z Wx σ ι H (.ok w M) Q := by
  cases o with
  | some w => exact ⟨w, rfl, h⟩
  | none => exact False.elim h
theorem eOut.ofOb {α : Type} {o : Option α} {g : α → Mem → Out Wv} {Q : VK} (h : eOut Z Wx σ ι H ((Out.ofO o M).bind g) Q) : ∃ w, o = some w ∧ eOut Z Wx σ ι H (g w M) Q := by
  cases o with
  | some w => exact ⟨w, rfl, h⟩
  | none => exact False.elim h
end

/-! ### primitives: what they give of told values -/
def rOut (Z : Zt) (ι : List Addr) (H : Hp) (r : Out Wv) (Q : VK) : Prop := match r with
  | .ok w M => ∀ v H' ι', Ext ι ι' H H' → RM Z ι' M H' → WR Z ι' H' w v → Q v H'
  | _ => False
/-- an end that is no refusal -/
def Prim {α : Type} (r : Out α) : Prop := ∀ c M, r ≠ .exc c M
theorem Prim.out {Z : Zt} {Wx : Wish} {σ : L2.St} {ι : List Addr} {H : Hp} {r : Out Wv} {Q : VK} (p : Prim r) (h : eOut Z Wx σ ι H r Q) : rOut Z ι H r Q := by
  cases r with
  | ok w M => exact h
  | exc c M => exact absurd rfl (p c M)
  | bad => exact h
theorem Prim.chk {α : Type} {b : Bool} {r : Out α} (p : Prim r) : Prim (.chk b r) := by
  cases b with
  | true => exact p
  | false => intro c M e; cases e
theorem Prim.ofO {α : Type} {o : Option α} {M : Mem} : Prim (Out.ofO o M) := by
  cases o <;> (intro c M e; cases e)
theorem Prim.ok {α : Type} {a : α} {M : Mem} : Prim (Out.ok a M) := fun c M e => by cases e
theorem Prim.bad {α : Type} : Prim (Out.bad : Out α) := fun c M e => by cases e
theorem Prim.bind {α β : Type} {r : Out α} {g : α → Mem → Out β} (p : Prim r) (q : ∀ a M, Prim (g a M)) : Prim (r.bind g) := by
  cases r with
  | ok a M => exact q a M
  | exc c M => exact absurd rfl (p c M)
  | bad => exact Prim.bad
def r2 (Z : Zt) (F : Wv → Wv → Mem → Out Wv) : R2 := fun x y H Q => ∃ ι M a b, RM Z ι M H ∧ WR Z ι H a x ∧ WR Z ι H b y ∧ rOut Z ι H (F a b M) Q
def r1 (Z : Zt) (F : Wv → Mem → Out Wv) : V → Hp → VK → Prop := fun x H Q => ∃ ι M a, RM Z ι M H ∧ WR Z ι H a x ∧ rOut Z ι H (F a M) Q
def rN (Z : Zt) (F : List Wv → Mem → Out Wv) : List V → Hp → VK → Prop := fun xs H Q => ∃ ι M ws, RM Z ι M H ∧ WsR Z ι H ws xs ∧ rOut Z ι H (F ws M) Q
section
variable {Z : Zt} {ι : List Addr} {H : Hp} {M : Mem}
theorem rOut.chk {b : Bool} {r : Out Wv} {Q : VK} (h : rOut Z ι H (.chk b r) Q) : b = true ∧ rOut Z ι H r Q := by
  cases b with
  | true => exact ⟨rfl, h⟩
  | false => exact False.elim h
theorem rOut.ofO {o : Option Wv} {Q : VK} (h : rOut Z ι H (.ofO o M) Q) : ∃ w, o = some w ∧ rOut Z ι H (.ok w M) Q := by
  cases o with
  | some w => exact ⟨w, rfl, h⟩
  | none => exact False.elim h
theorem rOut.ofOb {α : Type} {o : Option α} {g : α → Mem → Out Wv} {Q : VK} (h : rOut Z ι H ((Out.ofO o M).bind g) Q) : ∃ w, o = some w ∧ rOut Z ι H (g w M) Q := by
  cases o with
  | some w => exact ⟨w, rfl, h⟩
  | none => exact False.elim h
theorem rOut.val {w : Wv} {v : V} {Q : VK} (h : rOut Z ι H (.ok w M) Q) (R : RM Z ι M H) (q : WR Z ι H w v) : Q v H := h v H ι (Ext.refl ι H) R q
/-- a new list -/
theorem rOut.lst {ws : List Wv} {vs : List V} {p : Addr} {Q : VK} (h : rOut Z ι H (.ok (.ref M.length) (M ++ [.lst ws])) Q) (R : RM Z ι M H) (q : WsR Z ι H ws vs) (hp : H p = none) : Q (.ref p) (upd H p (.lst vs)) := by
  have ex := Ext.alloc (ho := .lst vs) ι hp
  exact h (.ref p) _ (ι ++ [p]) ex (R.alloc hp ⟨vs, upd_same, q.mono ex.le⟩) (.ref (snoc_ix R p))
/-- a new tuple -/
theorem rOut.tup {ws : List Wv} {vs : List V} {p : Addr} {Q : VK} (h : rOut Z ι H (.ok (.tup ws) M) Q) (R : RM Z ι M H) (q : WsR Z ι H ws vs) (hp : H p = none) : Q (.ref p) (upd H p (.tup vs)) := by
  have ex := Ext.fresh (ho := .tup vs) ι hp
  exact h (.ref p) _ ι ex (R.fresh hp) (.tup (SqT.of upd_same) (q.mono ex.le))
end
section
variable {Z : Zt} {Wx : Wish} {X : Cx} {a b : Expr} {f g : Fv} {pos : Pos}
/-- two operands and a primitive -/
theorem se_bin {op : Operator} {F : Wv → Wv → Mem → Out Wv} (hp : ∀ x y M, Prim (F x y M)) (ho : OpR X (binaryOp op) (r2 Z F)) (ha : PE X a (tE Z Wx f)) (hb : PE X b (tE Z Wx g)) :
    PE X (.BinOp a op b pos) (tE Z Wx fun sw M => (f sw M).bind fun x M => (g sw M).bind fun y M => F x y M) :=
  (pe_op ho ha hb).weak fun σ H Q ⟨ι, sw, M, s, R, h⟩ => tE.seqE s R h fun x M1 v H1 ι1 e1 R1 q1 s1 h1 => tE.seqE s1 R1 h1 fun y M2 u H2 ι2 e2 R2 q2 s2 h2 => ⟨ι2, M2, x, y, R2, q1.mono e2.le, q2, (hp x y M2).out h2⟩
theorem se_cmp {op : CmpOp} {F : Wv → Wv → Mem → Out Wv} (hp : ∀ x y M, Prim (F x y M)) (ho : OpR X (compareOp op) (r2 Z F)) (ha : PE X a (tE Z Wx f)) (hb : PE X b (tE Z Wx g)) (hm : behindInMarks op b = false) :
    PE X (.Compare a [op] [b] pos) (tE Z Wx fun sw M => (f sw M).bind fun x M => (g sw M).bind fun y M => F x y M) :=
  (pe_cmpR ho ha hb hm).weak fun σ H Q ⟨ι, sw, M, s, R, h⟩ => tE.seqE s R h fun x M1 v H1 ι1 e1 R1 q1 s1 h1 => tE.seqE s1 R1 h1 fun y M2 u H2 ι2 e2 R2 q2 s2 h2 => ⟨ι2, M2, x, y, R2, q1.mono e2.le, q2, (hp x y M2).out h2⟩
theorem se_ix {F : Wv → Wv → Mem → Out Wv} (hp : ∀ x y M, Prim (F x y M)) (ho : IxR X (r2 Z F)) (ha : PE X a (tE Z Wx f)) (hb : PE X b (tE Z Wx g)) (hs : PlainIx b) :
    PE X (.Subscript a b pos) (tE Z Wx fun sw M => (f sw M).bind fun x M => (g sw M).bind fun y M => F x y M) :=
  (pe_ix ho ha hb hs).weak fun σ H Q ⟨ι, sw, M, s, R, h⟩ => tE.seqE s R h fun x M1 v H1 ι1 e1 R1 q1 s1 h1 => tE.seqE s1 R1 h1 fun y M2 u H2 ι2 e2 R2 q2 s2 h2 => ⟨ι2, M2, x, y, R2, q1.mono e2.le, q2, (hp x y M2).out h2⟩
theorem se_un {op : UnaryOp} {F : Wv → Mem → Out Wv} (hp : ∀ x M, Prim (F x M)) (ho : UnR X (unaryOp op) (r1 Z F)) (ha : PE X a (tE Z Wx f)) : PE X (.UnaryOp op a pos) (tE Z Wx fun sw M => (f sw M).bind fun x M => F x M) :=
  (pe_un ho ha).weak fun σ H Q ⟨ι, sw, M, s, R, h⟩ => tE.seqE s R h fun x M1 v H1 ι1 e1 R1 q1 s1 h1 => ⟨ι1, M1, x, R1, q1, (hp x M1).out h1⟩
/-! ### names, constants -/
theorem se_var {i : Nat} {x : Str} (hN : X.N[i]? = some x) (hv : Vis X.env.scope x) (hd : (x == ("__debug__" : Str)) = false) (hcd : (x == ("__classdict__" : Str)) = false) : PE X (.Name x pos) (tE Z Wx fun sw M => .ofO (getV i sw) M) :=
  (pe_var hN hv hd hcd).weak fun σ H Q ⟨ι, sw, M, s, R, h⟩ => by
    obtain ⟨w, e, h⟩ := h.ofO
    unfold getV at e
    cases q : sw[i]? with
    | none => rw [q] at e; cases e
    | some o =>
      rw [q] at e
      cases o with
      | none => cases e
      | some u =>
        cases e
        obtain ⟨v, e1, e2⟩ := s.get i w q
        exact ⟨v, e1, h.val R e2⟩
theorem se_con {e : Expr} {w : Wv} {v : V} (he : PE X e (tC v)) (r : ∀ ι H, WR Z ι H w v) : PE X e (tE Z Wx fun _ M => .ok w M) :=
  he.weak fun σ H Q ⟨ι, sw, M, s, R, h⟩ => h.val R (r ι H)
/-! ### argument lists -/
theorem sa_nil : PA X [] (tA Z Wx fun _ M => .ok [] M) := pa_nil.weak fun σ H Q ⟨ι, sw, M, s, R, h⟩ => h [] H ι (Ext.refl ι H) R .nil
theorem sa_cons {es : List Expr} {g : Sw → Mem → Out (List Wv)} (ha : PE X a (tE Z Wx f)) (hr : PA X es (tA Z Wx g)) (hs : starEach (a :: es) X.env = (false, eval a X.env) :: starEach es X.env) :
    PA X (a :: es) (tA Z Wx fun sw M => (f sw M).bind fun w M => (g sw M).bind fun ws M => .ok (w :: ws) M) :=
  (pa_cons ha hr hs).weak fun σ H Q ⟨ι, sw, M, s, R, h⟩ => tE.seqA s R h fun x M1 v H1 ι1 e1 R1 q1 s1 h1 => tA.seqA s1 R1 h1 fun y M2 u H2 ι2 e2 R2 q2 s2 h2 => h2 (v :: u) H2 ι2 (Ext.refl ι2 H2) R2 (.cons (q1.mono e2.le) q2)
theorem se_tup {es : List Expr} {k : Nat} {g : Sw → Mem → Out (List Wv)} (ha : PA X es (tA Z Wx g)) : PE X (.Tuple es k pos) (tE Z Wx fun sw M => (g sw M).bind fun ws M => .chk (lenOk ws.length) (.ok (.tup ws) M)) :=
  (pe_tup ha).weak fun σ H Q ⟨ι, sw, M, s, R, h⟩ => tA.seqE s R h fun ws M1 vs H1 ι1 e1 R1 q1 s1 h1 => by
    obtain ⟨c, h2⟩ := h1.chk
    have hz : vs.length ≤ sizeLine := by rw [← q1.length]; exact of_decide_eq_true c
    exact ⟨hz, fun p hp => rOut.tup (M := M1) (Z := Z) (ι := ι1) h2 R1 q1 hp⟩
theorem se_lst {es : List Expr} {g : Sw → Mem → Out (List Wv)} (ha : PA X es (tA Z Wx g)) : PE X (.List es pos) (tE Z Wx fun sw M => (g sw M).bind fun ws M => .chk (lenOk ws.length) (.ok (.ref M.length) (M ++ [.lst ws]))) :=
  (pe_lst ha).weak fun σ H Q ⟨ι, sw, M, s, R, h⟩ => tA.seqE s R h fun ws M1 vs H1 ι1 e1 R1 q1 s1 h1 => by
    obtain ⟨c, h2⟩ := h1.chk
    have hz : vs.length ≤ sizeLine := by rw [← q1.length]; exact of_decide_eq_true c
    exact ⟨hz, fun p hp => rOut.lst (M := M1) (Z := Z) (ι := ι1) h2 R1 q1 hp⟩
/-! ### built-in functions and types -/
theorem se_callB {id : String} {x : Str} {p : Pos} {e : Expr} {es : List Expr} {F : List Wv → Mem → Out Wv} {g : Sw → Mem → Out (List Wv)} (hp : ∀ ws M, Prim (F ws M)) (hc : CallR X (.builtin id) (rN Z F)) (hg : Gl X x) (hm : X.mg x = none) (hv : bootBuiltins x = some (.builtin id))
    (ha : PA X (e :: es) (tA Z Wx g)) (hn : x ≠ "__name__") (hdb : (x == ("__debug__" : Str)) = false) (he : starEach (e :: es) X.env = (false, eval e X.env) :: starEach es X.env) (hpl : (backTo pos (starEach es X.env)).any (·.1) = false) :
    PE X (.Call (.Name x p) (e :: es) [] pos) (tE Z Wx fun sw M => (g sw M).bind fun ws M => F ws M) :=
  (pe_callB hc hg hm hv ha hn hdb he hpl).weak fun σ H Q ⟨ι, sw, M, s, R, h⟩ => tA.seqE s R h fun ws M1 vs H1 ι1 e1 R1 q1 s1 h1 => ⟨ι1, M1, ws, R1, q1, (hp ws M1).out h1⟩
theorem se_callTy {T : String} {x : Str} {p : Pos} {e : Expr} {es : List Expr} {F : List Wv → Mem → Out Wv} {g : Sw → Mem → Out (List Wv)} (hp : ∀ ws M, Prim (F ws M)) (hc : CallR X (.type T) (rN Z F)) (hg : Gl X x) (hm : X.mg x = none) (hv : bootBuiltins x = some (.type T))
    (ha : PA X (e :: es) (tA Z Wx g)) (hn : x ≠ "__name__") (hdb : (x == ("__debug__" : Str)) = false) (he : starEach (e :: es) X.env = (false, eval e X.env) :: starEach es X.env) (hpl : (backTo pos (starEach es X.env)).any (·.1) = false) :
    PE X (.Call (.Name x p) (e :: es) [] pos) (tE Z Wx fun sw M => (g sw M).bind fun ws M => F ws M) :=
  (pe_callTy hc hg hm hv ha hn hdb he hpl).weak fun σ H Q ⟨ι, sw, M, s, R, h⟩ => tA.seqE s R h fun ws M1 vs H1 ι1 e1 R1 q1 s1 h1 => ⟨ι1, M1, ws, R1, q1, (hp ws M1).out h1⟩
end
end MP
end
section
set_option Elab.async false
set_option linter.all false
set_option maxRecDepth 100000
/-! MP4: the primitives over the hand layer: operators, comparisons, truth, subscripts. -/
namespace MP
open PySem PySem.Spec PyProof.Rows L2

structure XOk (X : Cx) (Z : Zt) : Prop where
  K : X.K = Z.K
  P : X.prog = Z.P
  w : X.w = Z.w
  calm : X.calm = true
  un : X.A.units + 200 < cLine
section
variable {Z : Zt} {X : Cx} {G : Pg}
theorem prim_bin (o : Op) (x y : Wv) (M : Mem) : Prim (binW o x y M) := by
  unfold binW
  split <;> first
    | exact Prim.ok
    | exact Prim.ok.chk
    | exact Prim.bad
    | (split <;> first | exact Prim.ok.chk | exact Prim.bad)
theorem op_addW (k : XOk X Z) : OpR X (binaryOp .Add) (r2 Z (binW .add)) := by
  intro pins s σ H x y v u Q I rx ry h
  obtain ⟨ι, M, a, b, R, wa, wb, h⟩ := h
  cases wa with
  | int i =>
    cases wb with
    | int j => exact op_add pins s σ H _ _ v u Q I rx ry ⟨i, j, rfl, rfl, h.val R (.int _)⟩
    | _ => exact False.elim h
  | str i =>
    cases wb with
    | str j =>
      obtain ⟨c, h⟩ := h.chk
      exact op_add_str pins s σ H _ _ v u Q I rx ry ⟨i, j, rfl, rfl, of_decide_eq_true c, h.val R (.str _)⟩
    | _ => exact False.elim h
  | tup ha ta =>
    cases wb with
    | tup hb tb =>
      obtain ⟨c, h⟩ := h.chk
      have hz := of_decide_eq_true c
      rw [ta.length, tb.length] at hz
      refine op_catA pins s σ H _ _ v u Q I rx ry ⟨_, _, _, _, rfl, rfl, by rw [k.K]; exact ha, by rw [k.K]; exact hb, hz, fun e => ?_, fun _ e => ?_, fun _ _ p hp => h.tup R (ta.append tb) hp⟩
      · subst e
        cases ta
        exact h.val R (.tup hb tb)
      · subst e
        cases tb
        exact h.val R (.tup ha (by rw [List.append_nil]; exact ta))
    | _ => exact False.elim h
  | ref ea =>
    rename_i la aa
    cases wb with
    | ref eb =>
      rename_i lb ab
      have h2 : rOut Z ι H (match M[la]?, M[lb]? with
        | some (.lst xs), some (.lst ys) => .chk (lenOk (xs.length + ys.length)) (.ok (.ref M.length) (M ++ [.lst (xs ++ ys)]))
        | _, _ => .bad) Q := h
      split at h2
      · rename_i xs ys ex ey
        obtain ⟨c, h3⟩ := h2.chk
        obtain ⟨vs, e1, q1⟩ := R.ob _ _ _ ex ea
        obtain ⟨us, e2, q2⟩ := R.ob _ _ _ ey eb
        have hz := of_decide_eq_true c
        rw [q1.length, q2.length] at hz
        exact op_cat pins s σ H _ _ v u Q I rx ry ⟨_, _, vs, us, rfl, rfl, e1, e2, hz, fun p hp => h3.lst R (q1.append q2) hp⟩
      · exact False.elim h2
    | _ => exact False.elim h
  | _ => exact False.elim h
theorem op_subW : OpR X (binaryOp .Sub) (r2 Z (binW .sub)) := by
  intro pins s σ H x y v u Q I rx ry h
  obtain ⟨ι, M, a, b, R, wa, wb, h⟩ := h
  cases wa with
  | int i =>
    cases wb with
    | int j => exact op_sub pins s σ H _ _ v u Q I rx ry ⟨i, j, rfl, rfl, h.val R (.int _)⟩
    | _ => exact False.elim h
  | _ => exact False.elim h
theorem mulOk_c {i j : Int} (h : mulOk i j = true) : CMul i j := by
  unfold mulOk at h
  rw [Bool.or_eq_true, decide_eq_true_eq, decide_eq_true_eq] at h
  rcases h with h | h
  · exact .inl ⟨by omega, by omega⟩
  · exact .inr ⟨by omega, by omega⟩
theorem op_mulW' : OpR X (binaryOp .Mult) (r2 Z (binW .mul)) := by
  intro pins s σ H x y v u Q I rx ry h
  obtain ⟨ι, M, a, b, R, wa, wb, h⟩ := h
  cases wa with
  | int i =>
    cases wb with
    | int j =>
      obtain ⟨c, h⟩ := h.chk
      exact op_mul pins s σ H _ _ v u Q I rx ry ⟨i, j, rfl, rfl, mulOk_c c, h.val R (.int _)⟩
    | _ => exact False.elim h
  | _ => exact False.elim h
theorem op_fdivW' : OpR X (binaryOp .FloorDiv) (r2 Z (binW .fdiv)) := by
  intro pins s σ H x y v u Q I rx ry h
  obtain ⟨ι, M, a, b, R, wa, wb, h⟩ := h
  cases wa with
  | int i =>
    cases wb with
    | int j =>
      obtain ⟨c, h⟩ := h.chk
      rw [Bool.and_eq_true, decide_eq_true_eq, decide_eq_true_eq] at c
      have hj : j.natAbs < 2 ^ 200 := by omega
      exact op_fdivW pins s σ H _ _ v u Q I rx ry ⟨i, j, rfl, rfl, wide_div c.1 hj (by decide) (by decide), h.val R (.int _)⟩
    | _ => exact False.elim h
  | _ => exact False.elim h
theorem op_modW : OpR X (binaryOp .Mod) (r2 Z (binW .mod)) := by
  intro pins s σ H x y v u Q I rx ry h
  obtain ⟨ι, M, a, b, R, wa, wb, h⟩ := h
  cases wa with
  | int i =>
    cases wb with
    | int j =>
      obtain ⟨c, h⟩ := h.chk
      exact op_mod pins s σ H _ _ v u Q I rx ry ⟨i, j, rfl, rfl, of_decide_eq_true c, h.val R (.int _)⟩
    | _ => exact False.elim h
  | _ => exact False.elim h
theorem op_powW : OpR X (binaryOp .Pow) (r2 Z (binW .pow)) := by
  intro pins s σ H x y v u Q I rx ry h
  obtain ⟨ι, M, a, b, R, wa, wb, h⟩ := h
  cases wa with
  | int i =>
    cases wb with
    | int j =>
      obtain ⟨c, h⟩ := h.chk
      rw [Bool.and_eq_true, Bool.and_eq_true, decide_eq_true_eq, decide_eq_true_eq, decide_eq_true_eq] at c
      exact op_pow pins s σ H _ _ v u Q I rx ry ⟨i, j, rfl, rfl, ⟨c.1.1, by omega, by omega⟩, h.val R (.int _)⟩
    | _ => exact False.elim h
  | _ => exact False.elim h
def opOf : Op → Operator
  | .add => .Add
  | .sub => .Sub
  | .mul => .Mult
  | .fdiv => .FloorDiv
  | .mod => .Mod
  | .pow => .Pow
theorem op_binW (k : XOk X Z) (o : Op) : OpR X (binaryOp (opOf o)) (r2 Z (binW o)) := by
  cases o
  · exact op_addW k
  · exact op_subW
  · exact op_mulW'
  · exact op_fdivW'
  · exact op_modW
  · exact op_powW
theorem un_negW : UnR X (unaryOp .USub) (r1 Z fun x M => .ofO ((toI x).map fun i => .int (-i)) M) := by
  intro pins s σ H x v Q I rx h
  obtain ⟨ι, M, a, R, wa, h⟩ := h
  cases wa with
  | int i => exact un_neg pins s σ H _ v Q I rx ⟨i, rfl, h.val R (.int _)⟩
  | _ => exact False.elim h

/-! ### data -/
mutual
theorem toD_dp {ι : List Addr} {H : Hp} {M : Mem} (hS : Z.S = G.S) (R : RM Z ι M H) : ∀ (n : Nat) {w : Wv} {v : V} {d : PyData}, WR Z ι H w v → toD G.S M n w = some d → Dp Z.K H v d
  | _, _, _, _, .non, e => by simp only [toD] at e; cases e; exact .non
  | _, _, _, _, .bl b, e => by simp only [toD] at e; cases e; exact .bl b
  | _, _, _, _, .int i, e => by simp only [toD] at e; cases e; exact .int i
  | _, _, _, _, .str x, e => by simp only [toD] at e; cases e; exact .str x
  | 0, _, _, _, .tup _ _, e => by simp only [toD] at e; cases e
  | n + 1, _, _, _, .tup h t, e => by
    simp only [toD] at e
    obtain ⟨ds, e1, rfl⟩ := Option.map_eq_some_iff.mp e
    exact .tup h (toDs_dp hS R n t e1)
  | 0, _, _, _, .ref _, e => by simp only [toD] at e; cases e
  | n + 1, _, _, _, .ref h, e => by
    simp only [toD] at e
    split at e
    · rename_i ws hw
      obtain ⟨ds, e1, rfl⟩ := Option.map_eq_some_iff.mp e
      obtain ⟨vs, h1, h2⟩ := R.ob _ _ _ hw h
      exact .lst (SqL.of h1) (toDs_dp hS R n h2 e1)
    · cases e
  | _, _, _, _, .scr h, e => by
    simp only [toD] at e
    cases e
    refine .lst h.sq ?_
    rw [← hS]
    exact ints_dp _
theorem toDs_dp {ι : List Addr} {H : Hp} {M : Mem} (hS : Z.S = G.S) (R : RM Z ι M H) : ∀ (n : Nat) {ws : List Wv} {vs : List V} {ds : List PyData}, WsR Z ι H ws vs → toDs G.S M n ws = some ds → DpAll Z.K H vs ds
  | _, _, _, _, .nil, e => by simp only [toDs] at e; cases e; exact .nil
  | n, _, _, _, .cons h t, e => by
    simp only [toDs] at e
    split at e
    · rename_i d ds e1 e2
      cases e
      exact .cons (toD_dp hS R n h e1) (toDs_dp hS R n t e2)
    · cases e
theorem ints_dp {H : Hp} : ∀ ns : List Int, DpAll Z.K H (ns.map V.int) (ns.map PyData.int)
  | [] => .nil
  | n :: ns => .cons (.int n) (ints_dp ns)
end
theorem flat_dp {ι : List Addr} {H : Hp} {w : Wv} {v : V} (r : WR Z ι H w v) (f : flatW w = true) : flatV v = true ∧ ∀ w' v', WR Z ι H w' v' → flatW w' = true → eqV v v' = PyData.eqv (flatD w) (flatD w') := by
  cases r with
  | non =>
    refine ⟨rfl, fun w' v' r' f' => ?_⟩
    cases r' <;> first | rfl | cases f'
  | bl b =>
    refine ⟨rfl, fun w' v' r' f' => ?_⟩
    cases r' <;> first | rfl | cases f'
  | int i =>
    refine ⟨rfl, fun w' v' r' f' => ?_⟩
    cases r' <;> first | rfl | cases f'
  | str x =>
    refine ⟨rfl, fun w' v' r' f' => ?_⟩
    cases r' <;> first | rfl | cases f'
  | _ => cases f
theorem flats_dp {ι : List Addr} {H : Hp} {w : Wv} {v : V} (r : WR Z ι H w v) (f : flatW w = true) : ∀ {ws : List Wv} {vs : List V}, WsR Z ι H ws vs → ws.all flatW = true → vs.all flatV = true ∧ inV v vs = ws.any fun e => PyData.eqv (flatD e) (flatD w)
  | _, _, .nil, _ => ⟨rfl, rfl⟩
  | _, _, .cons h t, g => by
    rw [List.all_cons, Bool.and_eq_true] at g
    obtain ⟨h1, h2⟩ := flats_dp r f t g.2
    obtain ⟨h3, h4⟩ := flat_dp h g.1
    refine ⟨by rw [List.all_cons, h3, h1]; rfl, ?_⟩
    unfold inV at h2 ⊢
    rw [List.any_cons, List.any_cons, h2, h4 _ _ r f]
theorem prim_cmp (c : Cm) (x y : Wv) (M : Mem) : Prim (cmpW G c x y M) := Prim.ofO.bind fun _ _ => Prim.ok
theorem cmp_ok {ι : List Addr} {H : Hp} {M : Mem} {Q : VK} {o : Option Bool} (R : RM Z ι M H) (h : rOut Z ι H ((Out.ofO o M).bind fun b M => .ok (.bl b) M) Q) : ∃ b, o = some b ∧ Q (.bl b) H := by
  obtain ⟨b, e, h⟩ := h.ofOb
  exact ⟨b, e, h.val R (.bl b)⟩
theorem notO_some {o : Option Bool} {b : Bool} (h : notO o = some b) : o = some (!b) := by
  cases o with
  | none => cases h
  | some c => cases h; simp
theorem eqW_dp {ι : List Addr} {H : Hp} {M : Mem} {a b : Wv} {x y : V} {r : Bool} (hS : Z.S = G.S) (R : RM Z ι M H) (wa : WR Z ι H a x) (wb : WR Z ι H b y) (e : eqW G a b M = some r) :
    ∃ d f, Dp Z.K H x d ∧ Dp Z.K H y f ∧ SeqAt.shaped d = true ∧ SeqAt.shaped f = true ∧ PyData.eqv d f = r := by
  unfold eqW at e
  split at e
  · rename_i d f e1 e2
    split at e
    · rename_i c
      rw [Bool.and_eq_true] at c
      cases e
      exact ⟨d, f, toD_dp hS R _ wa e1, toD_dp hS R _ wb e2, c.1, c.2, rfl⟩
    · cases e
  · cases e
theorem op_eqW (k : XOk X Z) (hS : Z.S = G.S) : OpR X (compareOp .Eq) (r2 Z (cmpW G .eq)) := by
  intro pins s σ H x y v u Q I rx ry h
  obtain ⟨ι, M, a, b, R, wa, wb, h⟩ := h
  obtain ⟨r, e, q⟩ := cmp_ok R h
  obtain ⟨d, f, h1, h2, h3, h4, rfl⟩ := eqW_dp hS R wa wb e
  exact op_eqD (by have := k.un; omega) pins s σ H _ _ v u Q I rx ry ⟨d, f, by rw [k.K]; exact h1, by rw [k.K]; exact h2, h3, h4, q⟩
theorem op_neW (k : XOk X Z) (hS : Z.S = G.S) : OpR X (compareOp .NotEq) (r2 Z (cmpW G .ne)) := by
  intro pins s σ H x y v u Q I rx ry h
  obtain ⟨ι, M, a, b, R, wa, wb, h⟩ := h
  obtain ⟨r, e, q⟩ := cmp_ok R h
  obtain ⟨d, f, h1, h2, h3, h4, e2⟩ := eqW_dp hS R wa wb (notO_some e)
  exact op_neD (by have := k.un; omega) pins s σ H _ _ v u Q I rx ry ⟨d, f, by rw [k.K]; exact h1, by rw [k.K]; exact h2, h3, h4, by rw [e2, Bool.not_not]; exact q⟩
theorem ltW_int {a b : Wv} {r : Bool} (e : ltW a b = some r) : ∃ i j, a = .int i ∧ b = .int j ∧ r = decide (i < j) := by
  unfold ltW at e
  split at e
  · cases e; exact ⟨_, _, rfl, rfl, rfl⟩
  · cases e
theorem leW_int {a b : Wv} {r : Bool} (e : leW a b = some r) : ∃ i j, a = .int i ∧ b = .int j ∧ r = decide (i ≤ j) := by
  unfold leW at e
  split at e
  · cases e; exact ⟨_, _, rfl, rfl, rfl⟩
  · cases e
theorem op_ltW : OpR X (compareOp .Lt) (r2 Z (cmpW G .lt)) := by
  intro pins s σ H x y v u Q I rx ry h
  obtain ⟨ι, M, a, b, R, wa, wb, h⟩ := h
  obtain ⟨r, e, q⟩ := cmp_ok R h
  obtain ⟨i, j, rfl, rfl, rfl⟩ := ltW_int e
  cases wa; cases wb
  exact op_lt pins s σ H _ _ v u Q I rx ry ⟨i, j, rfl, rfl, q⟩
theorem op_gtW : OpR X (compareOp .Gt) (r2 Z (cmpW G .gt)) := by
  intro pins s σ H x y v u Q I rx ry h
  obtain ⟨ι, M, a, b, R, wa, wb, h⟩ := h
  obtain ⟨r, e, q⟩ := cmp_ok R h
  obtain ⟨i, j, rfl, rfl, rfl⟩ := ltW_int e
  cases wa; cases wb
  exact op_gt pins s σ H _ _ v u Q I rx ry ⟨j, i, rfl, rfl, q⟩
theorem op_leW : OpR X (compareOp .LtE) (r2 Z (cmpW G .le)) := by
  intro pins s σ H x y v u Q I rx ry h
  obtain ⟨ι, M, a, b, R, wa, wb, h⟩ := h
  obtain ⟨r, e, q⟩ := cmp_ok R h
  obtain ⟨i, j, rfl, rfl, rfl⟩ := leW_int e
  cases wa; cases wb
  exact op_le pins s σ H _ _ v u Q I rx ry ⟨i, j, rfl, rfl, q⟩
theorem op_geW : OpR X (compareOp .GtE) (r2 Z (cmpW G .ge)) := by
  intro pins s σ H x y v u Q I rx ry h
  obtain ⟨ι, M, a, b, R, wa, wb, h⟩ := h
  obtain ⟨r, e, q⟩ := cmp_ok R h
  obtain ⟨i, j, rfl, rfl, rfl⟩ := leW_int e
  cases wa; cases wb
  exact op_ge pins s σ H _ _ v u Q I rx ry ⟨j, i, rfl, rfl, q⟩
theorem non_dec {ι : List Addr} {H : Hp} {a : Wv} {x : V} (wa : WR Z ι H a x) : decide (a = .non) = decide (x = .non) := by
  cases wa <;> simp
theorem op_isW : OpR X (compareOp .Is) (r2 Z (cmpW G .is_)) := by
  intro pins s σ H x y v u Q I rx ry h
  obtain ⟨ι, M, a, b, R, wa, wb, h⟩ := h
  obtain ⟨r, e, q⟩ := cmp_ok R h
  have e : isW a b = some r := e
  unfold isW at e
  cases wb with
  | non =>
    cases e
    exact op_isN pins s σ H _ _ v u Q I rx ry ⟨rfl, by rw [← non_dec wa]; exact q⟩
  | bl b =>
    cases wa with
    | bl c =>
      cases e
      exact op_isBl pins s σ H _ _ v u Q I rx ry ⟨c, b, rfl, rfl, q⟩
    | _ => cases e
  | _ => cases e
theorem op_isnW : OpR X (compareOp .IsNot) (r2 Z (cmpW G .isn)) := by
  intro pins s σ H x y v u Q I rx ry h
  obtain ⟨ι, M, a, b, R, wa, wb, h⟩ := h
  obtain ⟨r, e, q⟩ := cmp_ok R h
  have e : isW a b = some (!r) := notO_some e
  unfold isW at e
  cases wb with
  | non =>
    have e2 : decide (a = .non) = !r := Option.some.inj e
    exact op_notN pins s σ H _ _ v u Q I rx ry ⟨rfl, by rw [← non_dec wa, e2, Bool.not_not]; exact q⟩
  | bl b =>
    cases wa with
    | bl c =>
      have e2 : decide (c = b) = !r := Option.some.inj e
      exact op_notBl pins s σ H _ _ v u Q I rx ry ⟨c, b, rfl, rfl, by rw [e2, Bool.not_not]; exact q⟩
    | _ => cases e
  | _ => cases e
/-! ### truth -/
theorem tru_okW (k : XOk X Z) (hS : Z.S = G.S) : TruR X (fun x H Q => ∃ ι M w b, RM Z ι M H ∧ WR Z ι H w x ∧ truW G w M = some b ∧ Q b H) := by
  intro pins s σ H x v Q I rx h
  obtain ⟨ι, M, w, b, R, wr, e, q⟩ := h
  refine tru_ok pins s σ H x v Q I rx ⟨b, ?_, q⟩
  rw [k.K]
  cases wr with
  | non => cases e; rfl
  | bl c => cases e; rfl
  | int i => cases e; rfl
  | str y =>
    simp only [truW] at e
    split at e
    · rename_i hz
      cases e
      refine ⟨hz, ?_⟩
      cases hq : y.length <;> simp <;> omega
    · cases e
  | tup h t =>
    cases e
    refine .inr (.inl ⟨_, h, ?_⟩)
    cases t <;> rfl
  | ref h =>
    simp only [truW] at e
    split at e
    · rename_i ws hw
      cases e
      obtain ⟨vs, h1, h2⟩ := R.ob _ _ _ hw h
      refine .inl ⟨vs, SqL.of h1, ?_⟩
      cases h2 <;> rfl
    · cases e
  | scr h =>
    cases e
    refine .inl ⟨_, h.sq, ?_⟩
    rw [hS]
    cases G.S <;> rfl
end
end MP
end
section
set_option Elab.async false
set_option linter.all false
set_option maxRecDepth 100000
/-! MP5: dicts. -/
namespace MP
open PySem PySem.Spec PyProof.Rows L2
/-! ### keys that are numbers or texts -/
def keyW : Wv → Key
  | .int i => .inl i
  | .str x => .inr x
  | _ => .inl 0
section
variable {Z : Zt} {ι : List Addr} {H : Hp} {kvs : List (Wv × Wv)} {k v : Wv}
theorem keyA_rel {w : Wv} {x : V} (h : keyA w = true) (r : WR Z ι H w x) : x = kV (keyW w) := by
  cases r <;> first | rfl | cases h
theorem keyW_inj {a b : Wv} (ha : keyA a = true) (hb : keyA b = true) (e : keyW a = keyW b) : a = b := by
  cases a with
  | int i =>
    cases b with
    | int j => rw [Sum.inl.inj (show (Sum.inl i : Key) = Sum.inl j from e)]
    | str y => exact absurd (show (Sum.inl i : Key) = Sum.inr y from e) (by simp)
    | _ => cases hb
  | str x =>
    cases b with
    | int j => exact absurd (show (Sum.inr x : Key) = Sum.inl j from e) (by simp)
    | str y => rw [Sum.inr.inj (show (Sum.inr x : Key) = Sum.inr y from e)]
    | _ => cases hb
  | _ => cases ha
/-- pairs by their keys' values -/
def PvR (Z : Zt) (ι : List Addr) (H : Hp) : List (Wv × Wv) → List (Key × Value) → Prop := Paired fun p q => q.1 = keyW p.1 ∧ keyA p.1 = true ∧ ∃ x, RelV x q.2 ∧ WR Z ι H p.2 x
theorem PvR.get (ka : keyA k = true) : ∀ {kvs : List (Wv × Wv)} {vs : List (Key × Value)}, PvR Z ι H kvs vs → match dget kvs k with
    | some y => ∃ u, valueAt vs (keyW k) = some u ∧ ∃ x, RelV x u ∧ WR Z ι H y x
    | none => valueAt vs (keyW k) = none
  | [], _, .nil => rfl
  | p :: r, q :: vs, .cons h t => by
    have ih := PvR.get ka t
    obtain ⟨h1, h2, x, h3, h4⟩ := h
    unfold dget
    by_cases e : p.1 = k
    · rw [if_pos e]
      refine ⟨q.2, ?_, x, h3, h4⟩
      have : q.1 = keyW k := by rw [h1, e]
      simp [valueAt, this]
    · rw [if_neg e]
      have ne : q.1 ≠ keyW k := fun z => e (keyW_inj h2 ka (by rw [← h1]; exact z))
      have ev : valueAt (q :: vs) (keyW k) = valueAt vs (keyW k) := by simp [valueAt, List.find?_cons, ne]
      rw [ev]
      exact ih
theorem dput_len (kvs : List (Wv × Wv)) (k v : Wv) : (dput kvs k v).length ≤ kvs.length + 1 := by
  induction kvs with
  | nil => simp [dput]
  | cons p r ih =>
    unfold dput
    split
    · simp
    · simp; omega
theorem dput_keys (kvs : List (Wv × Wv)) (k v : Wv) : (dput kvs k v).map (·.1) = if k ∈ kvs.map (·.1) then kvs.map (·.1) else kvs.map (·.1) ++ [k] := by
  induction kvs with
  | nil => simp [dput]
  | cons p r ih =>
    unfold dput
    by_cases e : p.1 = k
    · rw [if_pos e]; simp [e]
    · rw [if_neg e]
      simp only [List.map_cons, ih, List.mem_cons]
      by_cases m : k ∈ r.map (·.1)
      · rw [if_pos m, if_pos (Or.inr m)]
      · rw [if_neg m, if_neg (by rintro (z | z); exact e z.symm; exact m z)]
        simp
theorem dput_nodup (h : (kvs.map (·.1)).Nodup) : ((dput kvs k v).map (·.1)).Nodup := by
  rw [dput_keys]
  split
  · exact h
  · rename_i hn
    rw [List.nodup_append]
    exact ⟨h, by simp, fun x hx y hy => by rw [List.mem_singleton.mp hy]; exact fun e => hn (e ▸ hx)⟩
theorem dput_all {f : Wv → Bool} (h : (kvs.all fun p => f p.1) = true) (hk : f k = true) : ((dput kvs k v).all fun p => f p.1) = true := by
  induction kvs with
  | nil => simp [dput, hk]
  | cons p r ih =>
    rw [List.all_cons, Bool.and_eq_true] at h
    unfold dput
    split
    · rw [List.all_cons, Bool.and_eq_true]; exact h
    · rw [List.all_cons, Bool.and_eq_true]; exact ⟨h.1, ih h.2⟩
theorem PvR.mem_keys (ka : keyA k = true) : ∀ {kvs : List (Wv × Wv)} {vs : List (Key × Value)}, PvR Z ι H kvs vs → ((vs.any fun kv => decide (kv.1 = keyW k)) = (dget kvs k).isSome)
  | [], _, .nil => rfl
  | p :: r, q :: vs, .cons h t => by
    have ih := PvR.mem_keys ka t
    obtain ⟨h1, h2, _⟩ := h
    unfold dget
    rw [List.any_cons]
    by_cases e : p.1 = k
    · have : q.1 = keyW k := by rw [h1, e]
      simp [e, this]
    · have ne : q.1 ≠ keyW k := fun z => e (keyW_inj h2 ka (by rw [← h1]; exact z))
      simp [e, ne, ih]
theorem dput_there : ∀ {kvs : List (Wv × Wv)}, (kvs.map (·.1)).Nodup → (dget kvs k).isSome = true → dput kvs k v = kvs.map fun p => if p.1 = k then (p.1, v) else p
  | [], _, h => by simp [dget] at h
  | p :: r, nd, h => by
    rw [List.map_cons, List.nodup_cons] at nd
    unfold dput
    unfold dget at h
    by_cases e : p.1 = k
    · rw [if_pos e, List.map_cons, if_pos e]
      congr 1
      have : ∀ q ∈ r, q.1 ≠ k := fun q hq z => nd.1 (by rw [e, ← z]; exact List.mem_map.mpr ⟨q, hq, rfl⟩)
      have e2 : r.map (fun p => if p.1 = k then (p.1, v) else p) = r.map id := List.map_congr_left fun q hq => by rw [if_neg (this q hq)]; rfl
      rw [e2, List.map_id]
    · rw [if_neg e, List.map_cons, if_neg e, dput_there nd.2 (by rw [if_neg e] at h; exact h)]
theorem dput_new : ∀ {kvs : List (Wv × Wv)}, (dget kvs k).isSome = false → dput kvs k v = kvs ++ [(k, v)]
  | [], _ => rfl
  | p :: r, h => by
    unfold dput
    unfold dget at h
    by_cases e : p.1 = k
    · rw [if_pos e] at h; cases h
    · rw [if_neg e, dput_new (by rw [if_neg e] at h; exact h)]; rfl
theorem PvR.put (ka : keyA k = true) {vs : List (Key × Value)} {u : Value} {x : V} (nd : (kvs.map (·.1)).Nodup) (r : PvR Z ι H kvs vs) (rx : RelV x u) (wx : WR Z ι H v x) : PvR Z ι H (dput kvs k v) (stored vs (keyW k) u) := by
  unfold stored
  rw [r.mem_keys ka]
  by_cases h : (dget kvs k).isSome = true
  · rw [if_pos h, dput_there nd h]
    clear nd h
    induction r with
    | nil => exact .nil
    | @cons p q ps qs h t ih =>
      rw [List.map_cons, List.map_cons]
      refine .cons ?_ ih
      obtain ⟨h1, h2, h3⟩ := h
      by_cases e : p.1 = k
      · have : q.1 = keyW k := by rw [h1, e]
        rw [if_pos e, if_pos this]
        exact ⟨h1, h2, x, rx, wx⟩
      · have ne : q.1 ≠ keyW k := fun z => e (keyW_inj h2 ka (by rw [← h1]; exact z))
        rw [if_neg e, if_neg ne]
        exact ⟨h1, h2, h3⟩
  · rw [if_neg h, dput_new (by simpa using h)]
    clear nd h
    induction r with
    | nil => exact .cons ⟨rfl, ka, x, rx, wx⟩ .nil
    | cons h t ih => exact .cons h ih
/-! ### keys that are tuples -/
def TvR (Z : Zt) (ι : List Addr) (H : Hp) : List (Wv × Wv) → List (NestedKey × Addr × Value) → Prop := Paired fun p q => q.1 = toNK p.1 ∧ keyT p.1 = true ∧ WR Z ι H p.1 (.ref q.2.1) ∧ ∃ x, RelV x q.2.2 ∧ WR Z ι H p.2 x
mutual
theorem toNK_inj : ∀ (n : Nat) (a b : Wv), keyIn n a = true → keyIn n b = true → toNK a = toNK b → a = b
  | n, .non, b, _, hb, e => by cases b <;> first | rfl | (simp [toNK] at e; done) | (simp [keyIn] at hb; done)
  | n, .int i, b, _, hb, e => by cases b <;> first | (simp [toNK] at e; rw [e]) | (simp [toNK] at e; done)
  | n, .str i, b, _, hb, e => by cases b <;> first | (simp [toNK] at e; rw [e]) | (simp [toNK] at e; done)
  | n + 1, .tup ws, b, ha, hb, e => by
    cases b with
    | tup us =>
      simp only [toNK, NestedKey.tup.injEq] at e
      simp only [keyIn] at ha hb
      rw [toNKs_inj n ws us ha hb e]
    | _ => simp [toNK] at e
  | 0, .tup ws, b, ha, _, _ => by simp [keyIn] at ha
  | n, .bl b, _, ha, _, _ => by simp [keyIn] at ha
  | n, .ref b, _, ha, _, _ => by simp [keyIn] at ha
  | n, .scr, _, ha, _, _ => by simp [keyIn] at ha
theorem toNKs_inj : ∀ (n : Nat) (a b : List Wv), keyTup n a = true → keyTup n b = true → toNKs a = toNKs b → a = b
  | n, [], b, _, _, e => by cases b with
    | nil => rfl
    | cons _ _ => simp [toNKs] at e
  | n, a :: as, b, ha, hb, e => by
    cases b with
    | nil => simp [toNKs] at e
    | cons b bs =>
      simp only [toNKs, List.cons.injEq] at e
      simp only [keyTup, Bool.and_eq_true] at ha hb
      rw [toNK_inj n a b ha.1 hb.1 e.1, toNKs_inj n as bs ha.2 hb.2 e.2]
end
theorem keyT_inj {a b : Wv} (ha : keyT a = true) (hb : keyT b = true) (e : toNK a = toNK b) : a = b := by
  cases a with
  | tup ws =>
    cases b with
    | tup us =>
      simp only [toNK, NestedKey.tup.injEq] at e
      rw [toNKs_inj 7 ws us ha hb e]
    | _ => cases hb
  | _ => cases ha
theorem TvR.get (ka : keyT k = true) : ∀ {kvs : List (Wv × Wv)} {xs : List (NestedKey × Addr × Value)}, TvR Z ι H kvs xs → match dget kvs k with
    | some y => ∃ p, atKey xs (toNK k) = some p ∧ ∃ x, RelV x p.2 ∧ WR Z ι H y x
    | none => atKey xs (toNK k) = none
  | [], _, .nil => rfl
  | p :: r, q :: vs, .cons h t => by
    have ih := TvR.get ka t
    obtain ⟨h1, h2, h3, x, h4, h5⟩ := h
    unfold dget
    by_cases e : p.1 = k
    · rw [if_pos e]
      refine ⟨q.2, ?_, x, h4, h5⟩
      have : q.1 = toNK k := by rw [h1, e]
      simp [atKey, this]
    · rw [if_neg e]
      have ne : q.1 ≠ toNK k := fun z => e (keyT_inj h2 ka (by rw [← h1]; exact z))
      have ev : atKey (q :: vs) (toNK k) = atKey vs (toNK k) := by simp [atKey, List.find?_cons, ne]
      rw [ev]
      exact ih
theorem TvR.put (ka : keyT k = true) {xs : List (NestedKey × Addr × Value)} {u : Value} {x : V} {b : Addr} (nd : (kvs.map (·.1)).Nodup) (r : TvR Z ι H kvs xs) (wk : WR Z ι H k (.ref b)) (rx : RelV x u) (wx : WR Z ι H v x) :
    TvR Z ι H (dput kvs k v) (storedH xs (toNK k) b u) := by
  have hm : (atKey xs (toNK k)).isSome = (dget kvs k).isSome := by
    have g := r.get ka
    cases e : dget kvs k with
    | none => rw [e] at g; simp only at g; rw [g]; rfl
    | some y => rw [e] at g; obtain ⟨p, g, _⟩ := g; rw [g]; rfl
  unfold storedH
  rw [hm]
  by_cases h : (dget kvs k).isSome = true
  · rw [if_pos h, dput_there nd h]
    clear nd h hm
    induction r with
    | nil => exact .nil
    | @cons p q ps qs h t ih =>
      rw [List.map_cons, List.map_cons]
      refine .cons ?_ ih
      obtain ⟨h1, h2, h3, h4⟩ := h
      by_cases e : p.1 = k
      · have : q.1 = toNK k := by rw [h1, e]
        rw [if_pos e, putAt, if_pos this]
        exact ⟨h1, h2, h3, x, rx, wx⟩
      · have ne : q.1 ≠ toNK k := fun z => e (keyT_inj h2 ka (by rw [← h1]; exact z))
        rw [if_neg e, putAt, if_neg ne]
        exact ⟨h1, h2, h3, h4⟩
  · rw [if_neg h, dput_new (by simpa using h)]
    clear nd h hm
    induction r with
    | nil => exact .cons ⟨rfl, ka, wk, x, rx, wx⟩ .nil
    | cons h t ih => exact .cons h ih
end

/-! ### over the heap -/
section
variable {Z : Zt} {X : Cx} {pins : List (Addr × Obj)} {σ : L2.St} {ι : List Addr} {H : Hp} {M : Mem} {s : Shared} {a : Addr} {z : Bool} {kvs : List (Wv × Wv)} {k v : Wv}
theorem Inv.dctO {o : Obj} (I : L2.Inv X pins σ H s) (h : H a = some (lkO z a o)) : s.heap.get? a = some o := by
  cases z with
  | true => exact (I.hok a _ h).1
  | false => exact (I.hok a _ h).1
theorem paired_keys {es : List DictEntry} (r : Paired (EnR Z ι H) kvs es) (ka : (kvs.all fun p => keyA p.1) = true) {P : Program} {w : World} (hw : Z.w = w) :
    (∀ e ∈ es, ∃ k, (mixKind P w).is k e.key = true ∧ e.hash = (mixKind P w).hash k) ∧ ∃ vs, Pairs (mixKind P w) es vs ∧ PvR Z ι H kvs vs := by
  induction r with
  | nil => exact ⟨fun _ h => by simp at h, [], .nil, .nil⟩
  | @cons p e ps es h t ih =>
    rw [List.all_cons, Bool.and_eq_true] at ka
    obtain ⟨i1, vs, i2, i3⟩ := ih ka.2
    obtain ⟨kv, vv, h1, h2, h3, h4, h5⟩ := h
    have ek := keyA_rel ka.1 h2
    subst ek
    have his : (mixKind P w).is (keyW p.1) e.key = true := kV_is h1
    refine ⟨fun f hf => ?_, (keyW p.1, e.val) :: vs, .cons his rfl i2, .cons ⟨rfl, ka.1, vv, h3, h4⟩ i3⟩
    rcases List.mem_cons.mp hf with z | z
    · subst z
      refine ⟨keyW p.1, his, ?_⟩
      rw [h5, hw]
      cases q : p.1 with
      | int i => rfl
      | str x => rfl
      | _ => rw [q] at ka; exact absurd ka.1 (by simp [keyA])
    · exact i1 f z
theorem pairs_back {es : List DictEntry} {vs : List (Key × Value)} {P : Program} {w : World} (hw : Z.w = w) (hk : ∀ e ∈ es, ∃ k, (mixKind P w).is k e.key = true ∧ e.hash = (mixKind P w).hash k) (hp : Pairs (mixKind P w) es vs) (r : PvR Z ι H kvs vs) : Paired (EnR Z ι H) kvs es := by
  induction hp generalizing kvs with
  | nil => cases r; exact .nil
  | @cons e q es vs h1 h2 _ ih =>
    cases r with
    | @cons p _ ps _ h t =>
      refine .cons ?_ (ih (fun f hf => hk f (List.mem_cons_of_mem _ hf)) t)
      obtain ⟨e1, ka, x, rx, wx⟩ := h
      obtain ⟨k2, hk2, hh⟩ := hk e List.mem_cons_self
      have ek : k2 = q.1 := (mixKind P w).inj _ _ _ hk2 h1
      subst ek
      rw [e1] at h1 hh
      rw [← h2] at rx
      unfold EnR
      rw [hh, ← hw]
      cases hq : p.1 with
      | int i =>
        rw [hq] at h1
        exact ⟨.int i, x, relV_key (show keyIs (.inl i) e.key = true from h1), .int i, rx, wx, rfl⟩
      | str y =>
        rw [hq] at h1
        exact ⟨.str y, x, relV_key (show keyIs (.inr y) e.key = true from h1), .str y, rx, wx, rfl⟩
      | _ => rw [hq] at ka; exact absurd ka (by simp [keyA])
theorem keysW_nodup {vs : List (Key × Value)} (r : PvR Z ι H kvs vs) (nd : (kvs.map (·.1)).Nodup) : (vs.map (·.1)).Nodup := by
  induction r with
  | nil => exact List.nodup_nil
  | @cons p q ps qs h t ih =>
    rw [List.map_cons, List.nodup_cons] at nd ⊢
    refine ⟨fun hm => nd.1 ?_, ih nd.2⟩
    obtain ⟨q2, hq2, e⟩ := List.mem_map.mp hm
    clear ih nd hm
    induction t with
    | nil => cases hq2
    | @cons p2 q3 ps qs h2 t ih =>
      rcases List.mem_cons.mp hq2 with z | z
      · subst z
        rw [List.map_cons]
        refine List.mem_cons.mpr (.inl ?_)
        exact keyW_inj h.2.1 h2.2.1 (by rw [← h.1, ← h2.1, e])
      · exact List.mem_cons_of_mem _ (ih z)
/-- a dict of numbers or texts, as the library has it -/
theorem DctR.dictOf (I : L2.Inv X pins σ H s) (k : XOk X Z) (D : DctR Z ι H a z kvs) (ka : (kvs.all fun p => keyA p.1) = true) : ∃ vs, s.heap.DictOf (mixKind X.prog X.w) a vs ∧ PvR Z ι H kvs vs ∧ (a == sysModules) = false := by
  obtain ⟨o, es, ep, h1, h2, h3, h4, h5, h6, h7, h8⟩ := D
  obtain ⟨i1, vs, i2, i3⟩ := paired_keys (P := X.prog) h8 ka k.w.symm
  exact ⟨vs, ⟨o, es, ep, MP.Inv.dctO I h1, h2, h3, fun e he => i1 e (Array.mem_toList_iff.mpr he), i2, keysW_nodup i3 h6⟩, i3, h4⟩
mutual
theorem nested_of (I : L2.Inv X pins σ H s) (hK : X.K = Z.K) : ∀ (n : Nat) {w : Wv} {x : V} {u : Value}, keyIn n w = true → WR Z ι H w x → RelV x u → NestedIs s.heap (toNK w) u ∧ (toNK w).depth ≤ n
  | n, _, _, _, _, .non, r => by cases r; exact ⟨.none, by simp [toNK, NestedKey.depth]⟩
  | n, _, _, _, _, .int i, r => by obtain ⟨t, rfl⟩ := r; exact ⟨.int i t, by simp [toNK, NestedKey.depth]⟩
  | n, _, _, _, _, .str x, r => by obtain ⟨t, rfl⟩ := r; exact ⟨.text x t, by simp [toNK, NestedKey.depth]⟩
  | 0, _, _, _, h, .tup _ _, r => by simp [keyIn] at h
  | n + 1, _, _, _, h, .tup hs hw, r => by
    simp only [keyIn] at h
    cases r
    obtain ⟨its, rv, ⟨o, e1, e2, m, e3⟩, _⟩ := I.tuple (by rw [hK]; exact hs)
    obtain ⟨h1, h2⟩ := nesteds_of I hK n h hw rv
    refine ⟨.tup e1 e2 e3 (by simpa using h1), ?_⟩
    simp only [toNK, NestedKey.depth]
    omega
  | n, _, _, _, h, .bl _, r => by simp [keyIn] at h
  | n, _, _, _, h, .ref _, r => by simp [keyIn] at h
  | n, _, _, _, h, .scr _, r => by simp [keyIn] at h
theorem nesteds_of (I : L2.Inv X pins σ H s) (hK : X.K = Z.K) : ∀ (n : Nat) {ws : List Wv} {xs : List V} {us : List Value}, keyTup n ws = true → WsR Z ι H ws xs → Vals xs us → NestedAll s.heap (toNKs ws) us ∧ NestedKey.depthAll (toNKs ws) ≤ n
  | n, _, _, _, _, .nil, r => by cases r; exact ⟨.nil, by simp [toNKs, NestedKey.depthAll]⟩
  | n, _, _, _, h, .cons h1 t1, r => by
    simp only [keyTup, Bool.and_eq_true] at h
    cases r with
    | cons r rr =>
      obtain ⟨a1, a2⟩ := nested_of I hK n h.1 h1 r
      obtain ⟨b1, b2⟩ := nesteds_of I hK n h.2 t1 rr
      refine ⟨.cons a1 b1, ?_⟩
      simp only [toNKs, NestedKey.depthAll]
      omega
end
/-- a tuple that is a key -/
theorem keyT_is (I : L2.Inv X pins σ H s) (hK : X.K = Z.K) {b : Addr} (ka : keyT k = true) (r : WR Z ι H k (.ref b)) : (nestedKind X.prog X.w).is s.heap (toNK k) b := by
  cases k with
  | tup ws =>
    obtain ⟨h1, h2⟩ := nested_of I hK 8 (show keyIn 8 (.tup ws) = true from ka) r (show RelV (.ref b) (.ref b) from rfl)
    exact ⟨h1, h2⟩
  | _ => cases ka
theorem keyT_ref {x : V} (ka : keyT k = true) (r : WR Z ι H k x) : ∃ b, x = .ref b := by
  cases k with
  | tup ws => cases r; exact ⟨_, rfl⟩
  | _ => cases ka
theorem paired_keysT {es : List DictEntry} (r : Paired (EnR Z ι H) kvs es) (ka : (kvs.all fun p => keyT p.1) = true) {P : Program} {w : World} (hw : Z.w = w) :
    ∃ xs, es = xs.map (entryOfKey (nestedKind P w)) ∧ TvR Z ι H kvs xs := by
  induction r with
  | nil => exact ⟨[], rfl, .nil⟩
  | @cons p e ps es h t ih =>
    rw [List.all_cons, Bool.and_eq_true] at ka
    obtain ⟨xs, i2, i3⟩ := ih ka.2
    obtain ⟨kv, vv, h1, h2, h3, h4, h5⟩ := h
    obtain ⟨b, rfl⟩ := keyT_ref ka.1 h2
    refine ⟨(toNK p.1, b, e.val) :: xs, ?_, .cons ⟨rfl, ka.1, h2, vv, h3, h4⟩ i3⟩
    rw [List.map_cons, ← i2]
    congr 1
    obtain ⟨eh, ek, ev⟩ := e
    have e1 : ek = Value.ref b := h1
    have e2 : eh = (toNK p.1).hash Z.w := h5
    rw [e1, e2, hw]
    rfl
theorem pairs_backT {es : List DictEntry} {xs : List (NestedKey × Addr × Value)} {P : Program} {w : World} (hw : Z.w = w) (he : es = xs.map (entryOfKey (nestedKind P w))) (r : TvR Z ι H kvs xs) : Paired (EnR Z ι H) kvs es := by
  subst he
  induction r with
  | nil => exact .nil
  | @cons p q ps qs h t ih =>
    rw [List.map_cons]
    refine .cons ?_ ih
    obtain ⟨e1, ka, wk, x, rx, wx⟩ := h
    refine ⟨.ref q.2.1, x, rfl, wk, rx, wx, ?_⟩
    show (nestedKind P w).hash q.1 = _
    rw [e1, hw]
    rfl
theorem keysT_nodup {xs : List (NestedKey × Addr × Value)} (r : TvR Z ι H kvs xs) (nd : (kvs.map (·.1)).Nodup) : (xs.map (·.1)).Nodup := by
  induction r with
  | nil => exact List.nodup_nil
  | @cons p q ps qs h t ih =>
    rw [List.map_cons, List.nodup_cons] at nd ⊢
    refine ⟨fun hm => nd.1 ?_, ih nd.2⟩
    obtain ⟨q2, hq2, e⟩ := List.mem_map.mp hm
    clear ih nd hm
    induction t with
    | nil => cases hq2
    | @cons p2 q3 ps qs h2 t ih =>
      rcases List.mem_cons.mp hq2 with z | z
      · subst z
        rw [List.map_cons]
        refine List.mem_cons.mpr (.inl ?_)
        exact keyT_inj h.2.1 h2.2.1 (by rw [← h.1, ← h2.1, e])
      · exact List.mem_cons_of_mem _ (ih z)
theorem DctR.dictOfH (I : L2.Inv X pins σ H s) (k : XOk X Z) (D : DctR Z ι H a z kvs) (ka : (kvs.all fun p => keyT p.1) = true) : ∃ xs, s.heap.DictOfH (nestedKind X.prog X.w) a xs ∧ TvR Z ι H kvs xs ∧ (a == sysModules) = false := by
  obtain ⟨o, es, ep, h1, h2, h3, h4, h5, h6, h7, h8⟩ := D
  obtain ⟨xs, i2, i3⟩ := paired_keysT (P := X.prog) h8 ka k.w.symm
  refine ⟨xs, ⟨o, es, ep, MP.Inv.dctO I h1, h2, h3, i2, fun x hx => ?_, keysT_nodup i3 h6⟩, i3, h4⟩
  clear i2 h8 h6 h7
  induction i3 with
  | nil => cases hx
  | cons h t ih =>
    rw [List.all_cons, Bool.and_eq_true] at ka
    rcases List.mem_cons.mp hx with z | z
    · subst z
      rw [h.1]
      exact keyT_is I k.K h.2.1 h.2.2.1
    · exact ih ka.2 (by simp only [List.length_cons] at h5; omega) z
end
end MP
end
section
set_option Elab.async false
set_option linter.all false
set_option maxRecDepth 100000
/-! MP6: in, subscripts, stores, methods. -/
namespace MP
open PySem PySem.Spec PyProof.Rows L2
section
variable {Z : Zt} {X : Cx} {G : Pg} {pins : List (Addr × Obj)} {σ : L2.St} {ι : List Addr} {H : Hp} {M : Mem} {s : Shared} {a : Addr} {z : Bool} {kvs : List (Wv × Wv)} {kk vv : Wv}
theorem room8 (k : XOk X Z) : (nestedKind X.prog X.w).room X.A.in1 := by
  show X.A.units + 1 + 8 < cLine
  have := k.un
  omega
theorem room8' (k : XOk X Z) : (nestedKind X.prog X.w).room X.A.in1.in1 := by
  show X.A.units + 1 + 1 + 8 < cLine
  have := k.un
  omega
theorem keyOk_cases (h : keyOk kvs kk = true) : (keyA kk = true ∧ (kvs.all fun p => keyA p.1) = true) ∨ (keyT kk = true ∧ (kvs.all fun p => keyT p.1) = true) := by
  unfold keyOk at h
  rw [Bool.or_eq_true, Bool.and_eq_true, Bool.and_eq_true] at h
  exact h
theorem DctR.in_ {neg : Bool} {x : V} {u : Value} {Q : VK} (I : L2.Inv X pins σ H s) (k : XOk X Z) (D : DctR Z ι H a z kvs) (h : keyOk kvs kk = true) (r : WR Z ι H kk x) (ru : RelV x u) (q : Q (.bl (if neg then !(dget kvs kk).isSome else (dget kvs kk).isSome)) H) :
    wpAny (model X.prog X.w) X.A (compareOp (if neg then .NotIn else .In) u (.ref a)) (EP X pins σ Q) X.xe s := by
  rcases keyOk_cases h with ⟨k1, k2⟩ | ⟨k1, k2⟩
  · obtain ⟨vs, dd, pv, hd⟩ := D.dictOf I k k2
    have ex := keyA_rel k1 r
    subst ex
    have e : (valueAt vs (keyW kk)).isSome = (dget kvs kk).isSome := by
      have g := pv.get k1
      cases e : dget kvs kk with
      | none => rw [e] at g; simp only at g; rw [g]; rfl
      | some y => rw [e] at g; obtain ⟨p, g, _⟩ := g; rw [g]; rfl
    cases neg with
    | false => exact wpAny_in_of (kV_is ru) hd dd.mapOf ⟨.bl _, H, I.tok _, rfl, by rw [e]; exact q⟩
    | true => exact wpAny_notIn_of (kV_is ru) hd dd.mapOf ⟨.bl _, H, I.tok _, rfl, by rw [e]; exact q⟩
  · obtain ⟨xs, dd, pv, hd⟩ := D.dictOfH I k k2
    obtain ⟨b, rfl⟩ := keyT_ref k1 r
    cases ru
    have e : (atKey xs (toNK kk)).isSome = (dget kvs kk).isSome := by
      have g := pv.get k1
      cases e : dget kvs kk with
      | none => rw [e] at g; simp only at g; rw [g]; rfl
      | some y => rw [e] at g; obtain ⟨p, g, _⟩ := g; rw [g]; rfl
    cases neg with
    | false => exact wpAny_in_heap (room8 k) (keyT_is I k.K k1 r) hd dd ⟨.bl _, H, I.tok _, rfl, by rw [e]; exact q⟩
    | true => exact wpAny_notIn_heap (room8 k) (keyT_is I k.K k1 r) hd dd ⟨.bl _, H, I.tok _, rfl, by rw [e]; exact q⟩
theorem DctR.typeIs (I : L2.Inv X pins σ H s) (D : DctR Z ι H a z kvs) : s.TypeIs (.ref a) "dict" := by
  obtain ⟨o, es, ep, h1, h2, h3, h4⟩ := D
  exact ⟨o, MP.Inv.dctO I h1, h2.1⟩
theorem DctR.noDict (I : L2.Inv X pins σ H s) (D : DctR Z ι H a z kvs) : ∀ b, Value.ref a = .ref b → ∃ ob, s.heap.get? b = some ob ∧ ob.dict = none := fun b q => by
  obtain ⟨o, es, ep, h1, h2, h3, h4⟩ := D
  cases q
  exact ⟨o, MP.Inv.dctO I h1, h2.2.1⟩
theorem DctR.getItem {x : V} {u : Value} {Q : Value → Shared → Prop} {E : Value → Shared → Prop} (I : L2.Inv X pins σ H s) (k : XOk X Z) (D : DctR Z ι H a z kvs) (h : keyOk kvs kk = true) (hg : dget kvs kk = some vv) (r : WR Z ι H kk x) (ru : RelV x u)
    (q : ∀ w' s' y, L2.Inv X pins σ H s' → RelV y w' → WR Z ι H vv y → Q w' s') : wpAny (model X.prog X.w) X.A (PySem.getItem (.ref a) u) Q E s := by
  rcases keyOk_cases h with ⟨k1, k2⟩ | ⟨k1, k2⟩
  · obtain ⟨vs, dd, pv, hd⟩ := D.dictOf I k k2
    have ex := keyA_rel k1 r
    subst ex
    have g := pv.get k1
    rw [hg] at g
    obtain ⟨w', g, y, ry, wy⟩ := g
    exact wpAny_getItem_of (kV_is ru) dd.mapOf g (q w' _ y (I.tok _) ry wy)
  · obtain ⟨xs, dd, pv, hd⟩ := D.dictOfH I k k2
    obtain ⟨b, rfl⟩ := keyT_ref k1 r
    cases ru
    have g := pv.get k1
    rw [hg] at g
    obtain ⟨p, g, y, ry, wy⟩ := g
    exact wpAny_getItem_heap (room8 k) (keyT_is I k.K k1 r) dd g (q p.2 _ y (I.tok _) ry wy)
/-- the dict's object, new -/
theorem DctR.ok_new {P : Program} {w : World} {h' : Heap} {o : Obj} {H' : Hp} (e : h'.get? a = some o) : ObjOk P w H' h' a (DctO a o) := ⟨e, ⟨o, e⟩, fun h1 h2 p st => st _ p⟩
theorem DctR.setItem {x y : V} {u w' : Value} {Q : Unit → Shared → Prop} {E : Value → Shared → Prop} {l : Nat} (I : L2.Inv X pins σ H s) (k : XOk X Z) (R : RM Z ι M H) (hl : ι[l]? = some a) (D : DctR Z ι H a false kvs) (h : keyOk kvs kk = true) (hz : kvs.length + 1 ≤ sizeLine)
    (r : WR Z ι H kk x) (ru : RelV x u) (ry : WR Z ι H vv y) (rw' : RelV y w')
    (q : ∀ s' o', L2.Inv X pins σ (upd H a (DctO a o')) s' → DctR Z ι (upd H a (DctO a o')) a false (dput kvs kk vv) → Ext ι ι H (upd H a (DctO a o')) → Q () s') : wpAny (model X.prog X.w) X.A (PySem.setItem (.ref a) u w') Q E s := by
  obtain ⟨o, es, ep, h1, h2, h3, h4, h5, h6, h7, h8⟩ := id D
  have hlen : (dput kvs kk vv).length ≤ sizeLine := by have := dput_len kvs kk vv; omega
  have hmut : Mut (H a) := by rw [h1]; exact True.intro
  rcases keyOk_cases h with ⟨k1, k2⟩ | ⟨k1, k2⟩
  · obtain ⟨vs, dd, pv, hd⟩ := D.dictOf I k k2
    have ex := keyA_rel k1 r
    subst ex
    have hz2 : vs.length ≤ sizeLine := by rw [← Paired.length pv]; omega
    refine wpAny_setItem_pairs (hsz := hz2) (kV_is ru) dd fun h' dd' hs => ?_
    obtain ⟨o', es', ep', e1, e2, e3, e4, e5, e6⟩ := dd'
    have ex : Ext ι ι H (upd H a (DctO a o')) := Ext.write R hl (fun ob φ e => by rw [h1] at e; cases e)
    refine q _ o' (d_write I hmut hs ⟨o', e1⟩ (DctR.ok_new e1)) ⟨o', es', ep', upd_same, e2, e3, hd, hlen, dput_nodup h6, .inl (dput_all k2 k1), ?_⟩ ex
    refine pairs_back (P := X.prog) k.w.symm (fun e he => e4 e (Array.mem_toList_iff.mp he)) e5 ?_
    exact L2.Paired.mapP (pv.put k1 h6 rw' ry) fun p q z => ⟨z.1, z.2.1, let ⟨x, z1, z2⟩ := z.2.2; ⟨x, z1, z2.mono ex.le⟩⟩
  · obtain ⟨xs, dd, pv, hd⟩ := D.dictOfH I k k2
    obtain ⟨b, rfl⟩ := keyT_ref k1 r
    cases ru
    have hz2 : xs.length ≤ sizeLine := by rw [← Paired.length pv]; omega
    refine wpAny_setItem_heap (hsz := hz2) (room8 k) (keyT_is I k.K k1 r) dd fun h' dd' hs => ?_
    obtain ⟨o', es', ep', e1, e2, e3, e4, e5, e6⟩ := dd'
    have ex : Ext ι ι H (upd H a (DctO a o')) := Ext.write R hl (fun ob φ e => by rw [h1] at e; cases e)
    refine q _ o' (d_write I hmut hs ⟨o', e1⟩ (DctR.ok_new e1)) ⟨o', es', ep', upd_same, e2, e3, hd, hlen, dput_nodup h6, .inr (dput_all k2 k1), ?_⟩ ex
    refine pairs_backT (P := X.prog) k.w.symm e4 ?_
    exact L2.Paired.mapP (pv.put k1 h6 r rw' ry) fun p q z => ⟨z.1, z.2.1, z.2.2.1.mono ex.le, let ⟨x, z1, z2⟩ := z.2.2.2; ⟨x, z1, z2.mono ex.le⟩⟩
theorem dctO_noC (o : Obj) (c : Addr) (q : Str) (hd : ∃ es ep, o.data = .dict es ep) : DctO c o ≠ LamX.CodeO c q := fun e => by
  unfold DctO LamX.CodeO at e
  injection e with e
  obtain ⟨es, ep, hd⟩ := hd
  have hg : (⟨Array.replicate (c + 1) o, {}⟩ : Heap).get? c = some o := by
    obtain ⟨oc, od, dt, sl⟩ := o
    simp only at hd
    subst hd
    simp [Heap.get?]
  have e2 := congrFun e (⟨Array.replicate (c + 1) o, {}⟩ : Heap)
  have e3 : ∃ (oc : Obj) (vs : Array Value) (t : Tok), (⟨Array.replicate (c + 1) o, {}⟩ : Heap).get? c = some oc ∧ oc.data = .fields vs ∧ vs[1]? = some (.str q t) := by
    rw [← e2]; exact hg
  obtain ⟨oc, vs, t, a1, a2, _⟩ := e3
  rw [hg] at a1
  cases a1
  rw [hd] at a2
  cases a2

/-! ### in, not in -/
theorem inLst_dp {x : Wv} {vx : V} {ws : List Wv} {r : Bool} {l : Nat} {b : Addr} (hS : Z.S = G.S) (R : RM Z ι M H) (wx : WR Z ι H x vx) (hM : M[l]? = some (.lst ws)) (hl : ι[l]? = some b) (e : inLst G x ws M = some r) :
    ∃ d ds, Dp Z.K H vx d ∧ Dp Z.K H (.ref b) (.list ds) ∧ SeqAt.shaped d = true ∧ SeqAt.shaped (.list ds) = true ∧ (ds.any fun z => PyData.eqv z d) = r := by
  unfold inLst at e
  split at e
  · rename_i d ds e1 e2
    split at e
    · rename_i c
      rw [Bool.and_eq_true] at c
      cases e
      obtain ⟨vs, h1, h2⟩ := R.ob _ _ _ hM hl
      exact ⟨d, ds, toD_dp hS R _ wx e1, .lst (SqL.of h1) (toDs_dp hS R _ h2 e2), c.1, c.2, rfl⟩
    · cases e
  · cases e
theorem op_inW (k : XOk X Z) (hS : Z.S = G.S) : OpR X (compareOp .In) (r2 Z (cmpW G .in_)) := by
  intro pins s σ H x y v u Q I rx ry h
  obtain ⟨ι, M, a, b, R, wa, wb, h⟩ := h
  obtain ⟨r, e, q⟩ := cmp_ok R h
  have e : inW G a b M = some r := e
  cases wb with
  | tup hs ht =>
    simp only [inW] at e
    split at e
    · rename_i c
      rw [Bool.and_eq_true] at c
      cases e
      obtain ⟨f1, f2⟩ := flats_dp wa c.1 ht c.2
      obtain ⟨f3, _⟩ := flat_dp wa c.1
      exact op_in_seq pins s σ H _ _ v u Q I rx ry ⟨_, _, rfl, .inr (by rw [k.K]; exact hs), f3, f1, by rw [f2]; exact q⟩
    · cases e
  | str z =>
    cases wa with
    | str t => cases e; exact op_in_str pins s σ H _ _ v u Q I rx ry ⟨t, z, rfl, rfl, q⟩
    | _ => cases e
  | ref hl =>
    simp only [inW] at e
    split at e
    · rename_i ws hM
      obtain ⟨d, ds, h1, h2, h3, h4, rfl⟩ := inLst_dp hS R wa hM hl e
      exact op_inD (by have := k.un; omega) pins s σ H _ _ v u Q I rx ry ⟨d, ds, by rw [k.K]; exact h1, by rw [k.K]; exact h2, h3, h4, q⟩
    · rename_i kvs hM
      split at e
      · rename_i hk
        cases e
        cases ry
        exact DctR.in_ (neg := false) I k (R.ob _ _ _ hM hl) hk wa rx q
      · cases e
    · cases e
  | _ => cases e
theorem op_ninW (k : XOk X Z) (hS : Z.S = G.S) : OpR X (compareOp .NotIn) (r2 Z (cmpW G .nin)) := by
  intro pins s σ H x y v u Q I rx ry h
  obtain ⟨ι, M, a, b, R, wa, wb, h⟩ := h
  obtain ⟨r, e, q⟩ := cmp_ok R h
  have e : inW G a b M = some (!r) := notO_some e
  cases wb with
  | tup hs ht =>
    simp only [inW] at e
    split at e
    · rename_i c
      rw [Bool.and_eq_true] at c
      have e := Option.some.inj e
      obtain ⟨f1, f2⟩ := flats_dp wa c.1 ht c.2
      obtain ⟨f3, _⟩ := flat_dp wa c.1
      exact op_notIn_seq pins s σ H _ _ v u Q I rx ry ⟨_, _, rfl, .inr (by rw [k.K]; exact hs), f3, f1, by rw [if_pos rfl, f2, e, Bool.not_not]; exact q⟩
    · cases e
  | str z =>
    cases wa with
    | str t =>
      have e := Option.some.inj e
      exact op_notin_str pins s σ H _ _ v u Q I rx ry ⟨t, z, rfl, rfl, by rw [e, Bool.not_not]; exact q⟩
    | _ => cases e
  | ref hl =>
    simp only [inW] at e
    split at e
    · rename_i ws hM
      obtain ⟨d, ds, h1, h2, h3, h4, e2⟩ := inLst_dp hS R wa hM hl e
      exact op_notInD (by have := k.un; omega) pins s σ H _ _ v u Q I rx ry ⟨d, ds, by rw [k.K]; exact h1, by rw [k.K]; exact h2, h3, h4, by rw [e2, Bool.not_not]; exact q⟩
    · rename_i kvs hM
      split at e
      · rename_i hk
        have e := Option.some.inj e
        cases ry
        exact DctR.in_ (neg := true) I k (R.ob _ _ _ hM hl) hk wa rx (by rw [if_pos rfl, e, Bool.not_not]; exact q)
      · cases e
    · cases e
  | _ => cases e
def cmOf : Cm → CmpOp
  | .eq => .Eq
  | .ne => .NotEq
  | .lt => .Lt
  | .le => .LtE
  | .gt => .Gt
  | .ge => .GtE
  | .is_ => .Is
  | .isn => .IsNot
  | .in_ => .In
  | .nin => .NotIn
theorem op_cmpW (k : XOk X Z) (hS : Z.S = G.S) (c : Cm) : OpR X (compareOp (cmOf c)) (r2 Z (cmpW G c)) := by
  cases c
  · exact op_eqW k hS
  · exact op_neW k hS
  · exact op_ltW
  · exact op_leW
  · exact op_gtW
  · exact op_geW
  · exact op_isW
  · exact op_isnW
  · exact op_inW k hS
  · exact op_ninW k hS
/-! ### subscripts -/
theorem atI_rel {ws : List Wv} {vs : List V} {j : Int} {w : Wv} (r : WsR Z ι H ws vs) (e : atI ws j = some w) : ∃ v, L2.atI vs j = some v ∧ WR Z ι H w v := by
  unfold atI at e
  have hl := r.length
  by_cases h0 : 0 ≤ j
  · rw [if_pos h0] at e
    obtain ⟨v, h1, h2⟩ := r.get e
    refine ⟨v, ?_, h2⟩
    have hlt := (List.getElem?_eq_some_iff.mp h1).1
    unfold L2.atI L2.ixN
    rw [if_pos h0, if_pos (by omega)]
    exact h1
  · rw [if_neg h0] at e
    split at e
    · rename_i h2
      obtain ⟨v, h3, h4⟩ := r.get e
      refine ⟨v, ?_, h4⟩
      unfold L2.atI L2.ixN
      rw [if_neg h0, if_pos (by rw [← hl]; exact h2), ← hl]
      exact h3
    · cases e
theorem atI_str {cs : List Nat} {j : Int} {c : Nat} (e : atI cs j = some c) : L2.atI cs j = some c := by
  unfold atI at e
  unfold L2.atI L2.ixN
  by_cases h0 : 0 ≤ j
  · rw [if_pos h0] at e ⊢
    have hlt := (List.getElem?_eq_some_iff.mp e).1
    rw [if_pos (by omega)]
    exact e
  · rw [if_neg h0] at e ⊢
    split at e
    · rename_i h2
      rw [if_pos h2]
      exact e
    · cases e
theorem prim_sub (x y : Wv) (M : Mem) : Prim (subW G x y M) := by
  unfold subW
  split <;> try (split <;> first | exact Prim.ofO | exact Prim.bad | (split <;> first | exact Prim.ofO | exact Prim.bad | exact Prim.ofO.chk) | exact Prim.ofO.chk)
  all_goals exact Prim.bad
/-- subscription of a dict -/
theorem sub_tail {prog : Program} {w : World} {A : Around} {E : Value → Shared → Prop} {s : Shared} {value slice : Expr} {o i : Value} {T id : String} {Q : Value → Shared → Prop}
    (hT : s.TypeIs o T) (hl : typeLookup (.type T) "__getitem__" = pure (some (.builtin id))) (hs : subscripted slice false o i = operate [o, i] (PySem.getItem o i)) (h : wpAny (model prog w) A (PySem.getItem o i) Q E s) :
    wpAny (model prog w) A (subscriptTail value slice o i) Q E s := by
  unfold subscriptTail
  refine wpAny_bind ?_
  rw [getitemInPython_of_ne hT.not_modules]
  refine wpAny_bind (wpAny_specialOf hT hl ?_)
  have fin : wpAny (model prog w) A (subscripted slice false o i) (fun r s₃ => wpAny (model prog w) A (letTemporaryGo value o r >>= fun _ => pure r) Q E s₃) E s := by
    rw [hs]
    exact wpAny_operating (wpAny_mono h (fun r s₃ h₃ => wpAny_bind (wpAny_letTemporaryGo (wpAny_pure h₃))) fun _ _ x => x)
  first
    | exact wpAny_pure (wpAny_bind fin)
    | exact wpAny_bind (wpAny_pure (wpAny_bind fin))
    | exact wpAny_bind fin
theorem ix_subW (k : XOk X Z) (hS : Z.S = G.S) : IxR X (r2 Z (subW G)) := by
  intro value slice pins s σ H x y v u Q I rx ry h hs
  obtain ⟨ι, M, a, b, R, wa, wb, h⟩ := h
  cases wa with
  | tup ha ta =>
    cases wb with
    | int j =>
      obtain ⟨w, e, h⟩ := rOut.ofO h
      obtain ⟨z, e1, e2⟩ := atI_rel ta e
      exact ix_tup value slice pins s σ H _ _ v u Q I rx ry ⟨_, _, j, z, rfl, rfl, by rw [k.K]; exact ha, e1, h.val R e2⟩ hs
    | _ => exact False.elim h
  | str z =>
    cases wb with
    | int j =>
      simp only [subW] at h
      split at h
      · rename_i hz
        obtain ⟨w, e, h⟩ := h.ofO
        obtain ⟨c, e1, rfl⟩ := Option.map_eq_some_iff.mp e
        exact ix_str value slice pins s σ H _ _ v u Q I rx ry ⟨z, j, c, rfl, rfl, hz, atI_str e1, h.val R (.str _)⟩ hs
      · exact False.elim h
    | _ => exact False.elim h
  | scr ha =>
    cases wb with
    | int j =>
      obtain ⟨w, e, h⟩ := rOut.ofO h
      obtain ⟨i, e1, rfl⟩ := Option.map_eq_some_iff.mp e
      have e3 : atI (G.S.map Wv.int) j = some (.int i) := by
        unfold atI at e1 ⊢
        rw [List.length_map]
        split
        · rename_i h0; rw [if_pos h0] at e1; rw [List.getElem?_map, e1]; rfl
        · rename_i h0
          rw [if_neg h0] at e1
          split
          · rename_i h2; rw [if_pos h2] at e1; rw [List.getElem?_map, e1]; rfl
          · rename_i h2; rw [if_neg h2] at e1; cases e1
      obtain ⟨z, e4, e5⟩ := atI_rel (Z := Z) (ι := ι) (H := H) (WsR.ints G.S) e3
      exact ix_list value slice pins s σ H _ _ v u Q I rx ry ⟨_, _, j, z, rfl, rfl, by rw [k.K]; exact ha.sq, by rw [hS]; exact e4, h.val R e5⟩ hs
    | _ => exact False.elim h
  | ref ha =>
    simp only [subW] at h
    split at h
    · rename_i ws hM
      obtain ⟨vs, h1, h2⟩ := R.ob _ _ _ hM ha
      cases wb with
      | int j =>
        obtain ⟨w, e, h⟩ := rOut.ofO h
        obtain ⟨z, e1, e2⟩ := atI_rel h2 e
        exact ix_list value slice pins s σ H _ _ v u Q I rx ry ⟨_, _, j, z, rfl, rfl, SqL.of h1, e1, h.val R e2⟩ hs
      | _ => exact False.elim h
    · rename_i kvs hM
      obtain ⟨c, h⟩ := h.chk
      obtain ⟨w, e, h⟩ := h.ofO
      have D : DctR Z ι H _ _ kvs := R.ob _ _ _ hM ha
      cases rx
      exact sub_tail (D.typeIs I) slot_dict_getitem.lookup hs (D.getItem I k c e wb ry fun w' s' y I' r' q' => ⟨y, H, I', r', h.val R q'⟩)
    · exact False.elim h
  | _ => exact False.elim h
end
end MP
end
section
set_option Elab.async false
set_option linter.all false
set_option maxRecDepth 100000
/-! MP7: slices, plain built-ins, isinstance, {} and methods of lists and dicts. -/
namespace MP
open PySem PySem.Spec PyProof.Rows L2
/-! ### slices -/
def oOut (Z : Zt) (Wx : Wish) (σ : L2.St) (ι : List Addr) (H : Hp) (r : Out (Option Int)) (Q : Option Int → Hp → Prop) : Prop := match r with
  | .ok b M => ∀ H' ι', Ext ι ι' H H' → RM Z ι' M H' → Q b H'
  | .exc c M => ∀ H' ι', Ext ι ι' H H' → RM Z ι' M H' → Wx c σ H'
  | .bad => False
def tO (Z : Zt) (Wx : Wish) (f : Sw → Mem → Out (Option Int)) : TO := fun σ H Q => ∃ ι sw M, SR Z ι H sw σ ∧ RM Z ι M H ∧ oOut Z Wx σ ι H (f sw M) Q
theorem _root_.L2.PO.weak {X : Cx} {e : Option Expr} {t t' : TO} (h : PO X e t) (w : ∀ σ H Q, t' σ H Q → t σ H Q) : PO X e t' := ⟨fun pins s σ H Q I q => h.run pins s σ H Q I (w σ H Q q)⟩
section
variable {Z : Zt} {Wx : Wish} {X : Cx} {G : Pg} {σ : L2.St} {ι ι1 : List Addr} {H H1 : Hp} {sw : Sw} {M : Mem}
theorem oOut.shift {r : Out (Option Int)} {Q : Option Int → Hp → Prop} (e : Ext ι ι1 H H1) (h : oOut Z Wx σ ι H r Q) : oOut Z Wx σ ι1 H1 r Q := by
  cases r with
  | ok w M' => exact fun H' ι' x R => h H' ι' (e.trans x) R
  | exc c M' => exact fun H' ι' x R => h H' ι' (e.trans x) R
  | bad => exact h
theorem tE.seqO {f : Fv} {g : Wv → Mem → Out (Option Int)} {Q : Option Int → Hp → Prop} {R : VK} (s : SR Z ι H sw σ) (R0 : RM Z ι M H) (h : oOut Z Wx σ ι H ((f sw M).bind g) Q)
    (hk : ∀ w M1 v H1 ι1, Ext ι ι1 H H1 → RM Z ι1 M1 H1 → WR Z ι1 H1 w v → SR Z ι1 H1 sw σ → oOut Z Wx σ ι1 H1 (g w M1) Q → R v H1) : tE Z Wx f σ H R := by
  refine ⟨ι, sw, M, s, R0, ?_⟩
  cases e : f sw M with
  | ok w M1 =>
    rw [e] at h
    exact fun v H' ι' x R q => hk w M1 v H' ι' x R q (s.mono x.le) (h.shift x)
  | exc c M1 => rw [e] at h; exact h
  | bad => rw [e] at h; exact h
theorem tO.seqE {f : Sw → Mem → Out (Option Int)} {g : Option Int → Mem → Out Wv} {Q : VK} {R : Option Int → Hp → Prop} (s : SR Z ι H sw σ) (R0 : RM Z ι M H) (h : eOut Z Wx σ ι H ((f sw M).bind g) Q)
    (hk : ∀ b M1 H1 ι1, Ext ι ι1 H H1 → RM Z ι1 M1 H1 → SR Z ι1 H1 sw σ → eOut Z Wx σ ι1 H1 (g b M1) Q → R b H1) : tO Z Wx f σ H R := by
  refine ⟨ι, sw, M, s, R0, ?_⟩
  cases e : f sw M with
  | ok w M1 =>
    rw [e] at h
    exact fun H' ι' x R => hk w M1 H' ι' x R (s.mono x.le) (h.shift x)
  | exc c M1 => rw [e] at h; exact h
  | bad => rw [e] at h; exact h
theorem so_none : PO X none (tO Z Wx fun _ M => .ok none M) := po_none.weak fun σ H Q ⟨ι, sw, M, s, R, h⟩ => h H ι (Ext.refl ι H) R
theorem so_some {e : Expr} {f : Fv} (he : PE X e (tE Z Wx f)) : PO X (some e) (tO Z Wx fun sw M => (f sw M).bind fun y M => .ofO ((toI y).map some) M) :=
  (po_some he).weak fun σ H Q ⟨ι, sw, M, s, R, h⟩ => tE.seqO s R h fun w M1 v H1 ι1 e1 R1 q1 s1 h1 => by
    cases q1 with
    | int i => exact ⟨i, rfl, h1 H1 ι1 (Ext.refl _ _) R1⟩
    | _ => exact False.elim h1
theorem prim_slc (x : Wv) (l h : Option Int) (M : Mem) : Prim (slcW x l h M) := by
  unfold slcW
  split <;> first
    | exact Prim.ok
    | exact Prim.ok.chk
    | exact Prim.bad
    | (split <;> first | exact Prim.ok | exact Prim.bad)
theorem sIx_eq (n d : Nat) (o : Option Int) : sIx n d o = HT.sIx n d o := by
  cases o <;> rfl
theorem cut_rel {ws : List Wv} {vs : List V} (r : WsR Z ι H ws vs) (lo hi : Option Int) : WsR Z ι H (cut ws lo hi) (cutV vs lo hi) := by
  unfold cut cutV
  rw [r.length, sIx_eq, sIx_eq]
  exact (r.drop _).take _
theorem sl_slcW (k : XOk X Z) : SlR X (fun x lo hi H Q => ∃ ι M w, RM Z ι M H ∧ WR Z ι H w x ∧ rOut Z ι H (slcW w lo hi M) Q) := by
  intro pins s σ H x v vl vu lo hi sl Q I rx hs pl pu h
  obtain ⟨ι, M, w, R, wr, h⟩ := h
  cases wr with
  | tup ha ta =>
    refine sl_tupA pins s σ H _ v vl vu lo hi sl Q I rx hs pl pu ⟨_, _, rfl, by rw [k.K]; exact ha, fun hw => ?_, fun _ p hp => h.tup R (cut_rel ta lo hi) hp⟩
    refine h.val R (.tup ha ?_)
    have e := cut_rel ta lo hi
    have e2 : ∀ {vs : List V}, (HT.sIx vs.length 0 lo = 0 ∧ HT.sIx vs.length vs.length hi = vs.length) → cutV vs lo hi = vs := fun {vs} hw => by
      unfold cutV
      rw [hw.1, hw.2]
      simp
    rw [e2 hw] at e
    exact e
  | str z =>
    obtain ⟨c, h⟩ := h.chk
    exact sl_str pins s σ H _ v vl vu lo hi sl Q I rx hs pl pu ⟨z, rfl, of_decide_eq_true c, by
      have e : cutS z lo hi = ⟨(cut z.cps.toList lo hi).toArray⟩ := by
        unfold cutS cut
        rw [sIx_eq, sIx_eq, Array.length_toList]
        rfl
      rw [e]
      exact h.val R (.str _)⟩
  | ref ha =>
    simp only [slcW] at h
    split at h
    · rename_i ws hM
      obtain ⟨vs, h1, h2⟩ := R.ob _ _ _ hM ha
      exact sl_list pins s σ H _ v vl vu lo hi sl Q I rx hs pl pu ⟨_, vs, rfl, SqL.of h1, fun p hp => h.lst R (cut_rel h2 lo hi) hp⟩
    · exact False.elim h
  | _ => exact False.elim h
theorem se_slc (k : XOk X Z) {a : Expr} {lo hi : Option Expr} {f : Fv} {fl fh : Sw → Mem → Out (Option Int)} {pos p2 : Pos} (ha : PE X a (tE Z Wx f)) (hl : PO X lo (tO Z Wx fl)) (hh : PO X hi (tO Z Wx fh)) :
    PE X (.Subscript a (.Slice lo hi none p2) pos) (tE Z Wx fun sw M => (f sw M).bind fun x M => (fl sw M).bind fun l M => (fh sw M).bind fun h M => slcW x l h M) :=
  (pe_slice (sl_slcW k) ha hl hh).weak fun σ H Q ⟨ι, sw, M, s, R, h⟩ => tE.seqE s R h fun x M1 v H1 ι1 e1 R1 q1 s1 h1 => tO.seqE s1 R1 h1 fun l M2 H2 ι2 e2 R2 s2 h2 => tO.seqE s2 R2 h2 fun u M3 H3 ι3 e3 R3 s3 h3 =>
    ⟨ι3, M3, x, R3, (q1.mono e2.le).mono e3.le, (prim_slc x l u M3).out h3⟩
theorem prim_rev (z : Bool) (x : Wv) (M : Mem) : Prim (revW z x M) := by
  unfold revW
  split
  · split
    · exact Prim.ok
    · exact Prim.bad
  · exact Prim.bad
theorem se_rev (k : XOk X Z) {a : Expr} {f : Fv} {kk : Nat} {p1 p2 p3 pos : Pos} (ha : PE X a (tE Z Wx f)) :
    PE X (.Subscript a (.Slice none none (some (.UnaryOp .USub (.Constant (.int 1) kk p1) p2)) p3) pos) (tE Z Wx fun sw M => (f sw M).bind fun x M => revW false x M) :=
  (pe_revL ha).weak fun σ H Q ⟨ι, sw, M, s, R, h⟩ => tE.seqE s R h fun x M1 v H1 ι1 e1 R1 q1 s1 h1 => by
    cases q1 with
    | ref hr =>
      have h2 := (prim_rev _ _ _).out h1
      simp only [revW] at h2
      split at h2
      · rename_i ws hM
        obtain ⟨vs, e1, e2⟩ := R1.ob _ _ _ hM hr
        exact ⟨_, vs, rfl, SqL.of e1, fun p hp => rOut.lst h2 R1 e2.rev hp⟩
      · exact False.elim h2
    | _ => exact False.elim h1
/-! ### xs[:0:-1] -/
theorem down_range (n : Nat) : (List.range (n - 1)).map (fun k => n - 1 - k) = ((List.range (n - 1)).map (1 + ·)).reverse := by
  apply List.ext_getElem
  · simp
  · intro i h1 h2
    simp at h1 h2
    rw [List.getElem_map, List.getElem_reverse, List.getElem_map]
    simp
    omega
theorem down_sliceRange (n : Nat) : sliceRange ((n : Int) - 1) (max (-1) (min 0 ((n : Int) - 1))) (-1) = (List.range (n - 1)).map fun k => n - 1 - k := by
  unfold sliceRange
  have h1 : ¬ ((-1 : Int) > 0) := by decide
  cases n with
  | zero => decide
  | succ m =>
    have e0 : max (-1) (min 0 (((m + 1 : Nat) : Int) - 1)) = 0 := by omega
    rw [e0]
    by_cases h : ((m + 1 : Nat) : Int) - 1 > 0
    · have e : (((m + 1 : Nat) : Int) - 1 - 0 - -1 - 1) / (- -1) = (m : Int) := by
        rw [show (- -1 : Int) = 1 by decide, Int.ediv_one]
        omega
      simp only [h1, if_false, h, if_true, e, Int.toNat_natCast]
      show _ = (List.range m).map _
      apply List.map_congr_left
      intro k hk
      have := List.mem_range.mp hk
      omega
    · have e : m = 0 := by omega
      subst e
      simp
theorem pick_down (its : List Value) : slicePick its.toArray none (some 0) (some (-1)) = its.tail.reverse.toArray := by
  unfold slicePick
  have e : sliceBounds none (some 0) (some (-1)) its.toArray.size = ((its.toArray.size : Int) - 1, max (-1) (min 0 ((its.toArray.size : Int) - 1)), -1) := by
    first | rfl | simp [sliceBounds]
  rw [e]
  show ((sliceRange ((its.toArray.size : Int) - 1) (max (-1) (min 0 ((its.toArray.size : Int) - 1))) (-1)).filterMap (its.toArray[·]?)).toArray = _
  rw [down_sliceRange, down_range, List.filterMap_reverse]
  have h := pick_run its.toArray 1 (its.toArray.size - 1)
  rw [h]
  have : (its.toArray.toList.drop 1).take (its.toArray.size - 1) = its.tail := by
    cases its with
    | nil => rfl
    | cons x xs => simp
  rw [this]
theorem pe_downL {e : Expr} {te : TE} {k k2 : Nat} {p0 p1 p2 p3 pos : Pos} (he : PE X e te) : PE X (.Subscript e (.Slice none (some (.Constant (.int 0) k2 p0)) (some (.UnaryOp .USub (.Constant (.int 1) k p1) p2)) p3) pos)
    (fun σ H Q => te σ H fun x H1 => ∃ a xs, x = .ref a ∧ SqL X.K H1 a xs ∧ ∀ p, H1 p = none → Q (.ref p) (upd H1 p (.lst xs.tail.reverse))) := by
  refine ⟨fun pins s σ H Q I h => ?_⟩
  refine Subscript_ (thn (he.run pins s σ H _ I h) fun v s1 ⟨x, H1, I1, r1, q1⟩ => ?_)
  obtain ⟨a, xs, ex, hx, q⟩ := q1
  subst ex
  cases r1
  have hst : PO X (some (.UnaryOp .USub (.Constant (.int 1) k p1) p2)) (tPart (tUn (rU fun i => .int (-i)) (tC (.int 1)))) := po_some (pe_un un_neg pe_int)
  have hup : PO X (some (.Constant (.int 0) k2 p0)) (tPart (tC (.int 0))) := po_some pe_int
  refine wpAny_Slice (thn (po_none.run pins s1 σ H1 (fun o H2 => o = none ∧ H2 = H1) I1 ⟨rfl, rfl⟩) fun vl s2 ⟨l, H2, I2, pl, el, e2⟩ => ?_)
  subst el e2
  refine thn (hup.run pins s2 σ H2 (fun o H3 => o = some 0 ∧ H3 = H2) I2 ⟨0, rfl, rfl, rfl⟩) fun vu s3 ⟨u, H3, I3, pu, eu, e3⟩ => ?_
  subst eu e3
  refine thn (hst.run pins s3 σ H3 (fun o H4 => o = some (-1) ∧ H4 = H3) I3 ⟨1, rfl, -1, rfl, rfl, rfl⟩) fun vs s4 ⟨o, H4, I4, ps, eo, e4⟩ => ?_
  subst eo e4
  have I5 : L2.Inv X pins σ H4 { s4 with heap := s4.heap.push { cls := .type "slice", data := .fields #[vl, vu, vs] } } := I4.kept (t' := s4.toks) fun b ob q => Heap.get?_push_of_some _ q
  obtain ⟨its, r, ht, hz⟩ := I5.list hx
  have hlen := r.length
  show wpAny (model X.prog X.w) X.A (subscriptTail e (.Slice none (some (.Constant (.int 0) k2 p0)) (some (.UnaryOp .USub (.Constant (.int 1) k p1) p2)) p3) (.ref a) (.ref s4.heap.objs.size)) (EP X pins σ Q) X.xe { s4 with heap := s4.heap.push { cls := .type "slice", data := .fields #[vl, vu, vs] } }
  refine tail_any (ops := [.ref a, .ref s4.heap.objs.size]) ht.isList.typeIs (PySem.slot_list_getitem.lookup) ?_ (by with_unfolding_all rfl)
  refine wpAny_getItem_list_slice ht.isList (Heap.IsSliceOf.new _ vl vu vs) pl pu ps (by decide) ?_ (by rw [List.size_toArray]; omega)
  rw [pick_down]
  have rt : Vals xs.tail its.tail := by
    cases r with
    | nil => exact .nil
    | cons _ t => exact t
  refine ⟨.ref _, _, I5.laid (t' := s4.toks) (o := .lst xs.tail.reverse) (fun b ob q => Heap.get?_push_of_some _ q) (Nat.le_refl _) ?_, rfl, q _ (I5.hok.fresh (Nat.le_refl _))⟩
  exact ⟨by rw [List.length_reverse, List.length_tail]; omega, _, 0, rt.reverse, Heap.get?_push_size _ rfl⟩
theorem WsR.tail {ws : List Wv} {vs : List V} (r : WsR Z ι H ws vs) : WsR Z ι H ws.tail vs.tail := by
  cases r with
  | nil => exact .nil
  | cons _ t => exact t
theorem se_down (k : XOk X Z) {a : Expr} {f : Fv} {kk k2 : Nat} {p0 p1 p2 p3 pos : Pos} (ha : PE X a (tE Z Wx f)) :
    PE X (.Subscript a (.Slice none (some (.Constant (.int 0) k2 p0)) (some (.UnaryOp .USub (.Constant (.int 1) kk p1) p2)) p3) pos) (tE Z Wx fun sw M => (f sw M).bind fun x M => revW true x M) :=
  (pe_downL ha).weak fun σ H Q ⟨ι, sw, M, s, R, h⟩ => tE.seqE s R h fun x M1 v H1 ι1 e1 R1 q1 s1 h1 => by
    cases q1 with
    | ref hr =>
      have h2 := (prim_rev _ _ _).out h1
      simp only [revW] at h2
      split at h2
      · rename_i ws hM
        obtain ⟨vs, e1, e2⟩ := R1.ob _ _ _ hM hr
        exact ⟨_, vs, rfl, SqL.of e1, fun p hp => rOut.lst h2 R1 e2.tail.rev hp⟩
      · exact False.elim h2
    | _ => exact False.elim h1
/-! ### {} -/
theorem se_dict0 {pos : Pos} : PE X (.Dict [] [] pos) (tE Z Wx fun _ M => .ok (.ref M.length) (M ++ [.dct false []])) := by
  refine ⟨fun pins s σ H Q I ⟨ι, sw, M, sr, R, h⟩ => wpAny_Dict_empty ?_⟩
  have hp : H s.heap.objs.size = none := I.hok.fresh (Nat.le_refl _)
  have e1 : (s.heap.push { cls := .type "dict", data := .dict #[] }).get? s.heap.objs.size = some { cls := .type "dict", data := .dict #[] } := Heap.get?_push_size _ rfl
  refine ⟨.ref s.heap.objs.size, _, I.laid (a := s.heap.objs.size) (o := DctO s.heap.objs.size { cls := .type "dict", data := .dict #[] }) (t' := s.toks) (fun _ _ q => Heap.get?_push_of_some _ q) (Nat.le_refl _) (DctR.ok_new e1), rfl, ?_⟩
  have ex := Ext.alloc (ho := DctO s.heap.objs.size { cls := .type "dict", data := .dict #[] }) ι hp
  refine h (.ref s.heap.objs.size) _ (ι ++ [s.heap.objs.size]) ex (R.alloc hp ?_) (.ref (snoc_ix R _))
  exact ⟨_, #[], 0, upd_same, ⟨rfl, rfl, rfl⟩, rfl, beq_eq_false_iff_ne.mpr (Ne.symm (Nat.ne_of_lt I.big)), Nat.zero_le _, List.nodup_nil, .inl rfl, .nil⟩
end
end MP
end
section
set_option Elab.async false
set_option linter.all false
set_option maxRecDepth 100000
/-! MP8: built-ins by name. -/
namespace MP
open PySem PySem.Spec PyProof.Rows L2
section
variable {Z : Zt} {X : Cx} {G : Pg} {ι : List Addr} {H : Hp} {M : Mem}
theorem WsR.one {w : Wv} {xs : List V} (r : WsR Z ι H [w] xs) : ∃ x, xs = [x] ∧ WR Z ι H w x := by
  cases r with
  | cons h t => cases t; exact ⟨_, rfl, h⟩
theorem WsR.two {w u : Wv} {xs : List V} (r : WsR Z ι H [w, u] xs) : ∃ x y, xs = [x, y] ∧ WR Z ι H w x ∧ WR Z ι H u y := by
  cases r with
  | cons h t =>
    obtain ⟨y, rfl, hy⟩ := t.one
    exact ⟨_, _, rfl, h, hy⟩
theorem lstOf_at {x : Wv} {ws : List Wv} {v : V} (R : RM Z ι M H) (wx : WR Z ι H x v) (e : lstOf x M = some ws) : ∃ a vs, v = .ref a ∧ H a = some (.lst vs) ∧ WsR Z ι H ws vs := by
  unfold lstOf at e
  cases wx with
  | ref h =>
    simp only at e
    split at e
    · rename_i us hM
      cases e
      obtain ⟨vs, h1, h2⟩ := R.ob _ _ _ hM h
      exact ⟨_, vs, rfl, h1, h2⟩
    · cases e
  | _ => cases e
theorem bls_rel : ∀ {ws : List Wv} {vs : List V} {bs : List Bool}, WsR Z ι H ws vs → bls ws = some bs → vs = bs.map V.bl
  | _, _, _, .nil, e => by cases e; rfl
  | _, _, _, .cons h t, e => by
    unfold bls mapO at e
    split at e
    · rename_i b bs' e1 e2
      cases e
      have ih := bls_rel t (show bls _ = some bs' from e2)
      cases h <;> first | (cases e1; rw [ih]; rfl) | (cases e1)
    · cases e
theorem ints_rel : ∀ {ws : List Wv} {vs : List V} {ns : List Int}, WsR Z ι H ws vs → intsW ws = some ns → vs = ns.map V.int
  | _, _, _, .nil, e => by cases e; rfl
  | _, _, _, .cons h t, e => by
    unfold intsW mapO at e
    split at e
    · rename_i b bs' e1 e2
      cases e
      have ih := ints_rel t (show intsW _ = some bs' from e2)
      cases h <;> first | (cases e1; rw [ih]; rfl) | (cases e1)
    · cases e
theorem cb_len (k : XOk X Z) (hS : Z.S = G.S) : CallR X (.builtin "len") (rN Z (biW G .len)) := by
  intro pins s σ H xs us Q I r h
  obtain ⟨ι, M, ws, R, wr, h⟩ := h
  cases wr with
  | nil => exact False.elim h
  | cons h1 t1 =>
    cases t1 with
    | cons _ _ => cases h1 <;> exact False.elim h
    | nil =>
      cases h1 with
      | str z =>
        obtain ⟨c, h⟩ := h.chk
        exact call_len pins s σ H _ us Q I r ⟨_, z.length, rfl, ⟨of_decide_eq_true c, rfl⟩, h.val R (.int _)⟩
      | tup ha ta => exact call_len pins s σ H _ us Q I r ⟨_, _, rfl, .inr ⟨_, by rw [k.K]; exact ha, rfl⟩, by rw [← ta.length]; exact rOut.val h R (.int _)⟩
      | scr ha => exact call_len pins s σ H _ us Q I r ⟨_, _, rfl, .inl ⟨_, by rw [k.K]; exact ha.sq, rfl⟩, by rw [List.length_map, hS]; exact rOut.val h R (.int _)⟩
      | ref ha =>
        simp only [biW] at h
        split at h
        · rename_i us' hM
          obtain ⟨vs, e1, e2⟩ := R.ob _ _ _ hM ha
          exact call_len pins s σ H _ us Q I r ⟨_, _, rfl, .inl ⟨vs, SqL.of e1, rfl⟩, by rw [← e2.length]; exact rOut.val h R (.int _)⟩
        · exact False.elim h
      | _ => exact False.elim h
theorem one_arg {F : List Wv → Mem → Out Wv} {xs : List V} {Q : VK} {ws : List Wv} (hF : ∀ ws M, (∀ x, ws ≠ [x]) → F ws M = .bad) (wr : WsR Z ι H ws xs) (h : rOut Z ι H (F ws M) Q) : ∃ w v, ws = [w] ∧ xs = [v] ∧ WR Z ι H w v := by
  cases wr with
  | nil => rw [hF [] M (by simp)] at h; exact False.elim h
  | cons h1 t1 =>
    cases t1 with
    | nil => exact ⟨_, _, rfl, rfl, h1⟩
    | cons h2 t2 => rw [hF _ M (by simp)] at h; exact False.elim h
theorem cb_all (k : XOk X Z) : CallR X (.builtin "all") (rN Z (biW G .all)) := by
  intro pins s σ H xs us Q I r h
  obtain ⟨ι, M, ws, R, wr, h⟩ := h
  obtain ⟨w, v, rfl, rfl, hw⟩ := one_arg (fun ws M hn => by unfold biW; split <;> first | rfl | (rename_i z; simp_all) | simp_all) wr h
  obtain ⟨bs, e, h⟩ := rOut.ofOb h
  obtain ⟨zs, e1, e2⟩ := Option.bind_eq_some_iff.mp e
  obtain ⟨a, vs, rfl, h1, h2⟩ := lstOf_at R hw e1
  have := bls_rel h2 e2
  subst this
  exact cr_all k.calm pins s σ H _ us Q I r ⟨a, bs, rfl, SqL.of h1, h.val R (.bl _)⟩
theorem cb_any (k : XOk X Z) : CallR X (.builtin "any") (rN Z (biW G .any)) := by
  intro pins s σ H xs us Q I r h
  obtain ⟨ι, M, ws, R, wr, h⟩ := h
  obtain ⟨w, v, rfl, rfl, hw⟩ := one_arg (fun ws M hn => by unfold biW; split <;> first | rfl | (rename_i z; simp_all) | simp_all) wr h
  obtain ⟨bs, e, h⟩ := rOut.ofOb h
  obtain ⟨zs, e1, e2⟩ := Option.bind_eq_some_iff.mp e
  obtain ⟨a, vs, rfl, h1, h2⟩ := lstOf_at R hw e1
  have := bls_rel h2 e2
  subst this
  exact cr_any k.calm pins s σ H _ us Q I r ⟨a, bs, rfl, SqL.of h1, h.val R (.bl _)⟩
theorem cb_sum (k : XOk X Z) : CallR X (.builtin "sum") (rN Z (biW G .sum)) := by
  intro pins s σ H xs us Q I r h
  obtain ⟨ι, M, ws, R, wr, h⟩ := h
  obtain ⟨w, v, rfl, rfl, hw⟩ := one_arg (fun ws M hn => by unfold biW; split <;> first | rfl | (rename_i z; simp_all) | simp_all) wr h
  obtain ⟨bs, e, h⟩ := rOut.ofOb h
  obtain ⟨zs, e1, e2⟩ := Option.bind_eq_some_iff.mp e
  obtain ⟨a, vs, rfl, h1, h2⟩ := lstOf_at R hw e1
  have := ints_rel h2 e2
  subst this
  exact cr_sum k.calm pins s σ H _ us Q I r ⟨a, bs, rfl, SqL.of h1, h.val R (.int _)⟩
theorem cb_abs : CallR X (.builtin "abs") (rN Z (biW G .abs)) := by
  intro pins s σ H xs us Q I r h
  obtain ⟨ι, M, ws, R, wr, h⟩ := h
  obtain ⟨w, v, rfl, rfl, hw⟩ := one_arg (fun ws M hn => by unfold biW; split <;> first | rfl | (rename_i z; simp_all) | simp_all) wr h
  cases hw with
  | int i => exact call_abs pins s σ H _ us Q I r ⟨i, rfl, rOut.val h R (.int _)⟩
  | _ => exact False.elim h
end
end MP
end
section
set_option Elab.async false
set_option linter.all false
set_option maxRecDepth 100000
/-! MP9: sorted, list, min, max. -/
namespace MP
open PySem PySem.Spec PyProof.Rows L2
section
variable {Z : Zt} {X : Cx} {G : Pg} {ι : List Addr} {H : Hp} {M : Mem} {pins : List (Addr × Obj)} {σ : L2.St} {s : Shared}
theorem mapO_dp {ws : List Wv} {vs : List V} {ds : List PyData} (hS : Z.S = G.S) (R : RM Z ι M H) (r : WsR Z ι H ws vs) (e : mapO (toD G.S M deepD) ws = some ds) : DpAll Z.K H vs ds ∧ ds.length = ws.length := by
  induction ws generalizing vs ds with
  | nil => cases r; cases e; exact ⟨.nil, rfl⟩
  | cons w ws ih =>
    cases r with
    | cons h t =>
      simp only [mapO] at e
      split at e
      · rename_i d ds' e1 e2
        cases e
        obtain ⟨i1, i2⟩ := ih t e2
        exact ⟨.cons (toD_dp hS R _ h e1) i1, by simp [i2]⟩
      · cases e
/-- data, the value told, the value -/
abbrev Tri := PyData × Wv × V
theorem tri_each {ws : List Wv} {vs : List V} {us : List Value} {ds : List PyData} (r : WsR Z ι H ws vs) (rv : Vals vs us) (hl : ds.length = ws.length) (rd : W.EachIs (fun u d => ∃ as, Reads s.heap u d as) us ds) :
    ∃ bs : List Tri, bs.map (·.1) = ds ∧ bs.map (·.2.1) = ws ∧ bs.map (fun b => (b.1, b.2.1)) = ds.zip ws ∧ (∀ b ∈ bs, WR Z ι H b.2.1 b.2.2) ∧ W.EachIs (fun u (b : Tri) => RelV b.2.2 u) us bs ∧ W.EachIs (fun u (b : Tri) => ∃ as, Reads s.heap u b.1 as) us bs := by
  induction ws generalizing vs us ds with
  | nil =>
    cases r; cases rv
    cases rd
    exact ⟨[], rfl, rfl, rfl, by simp, .nil, .nil⟩
  | cons w ws ih =>
    cases r with
    | cons h t =>
      cases rv with
      | cons h2 t2 =>
        cases rd with
        | cons h3 t3 =>
          obtain ⟨bs, e1, e2, e3, e4, e5, e6⟩ := ih t t2 (by simpa using hl) t3
          refine ⟨(_, w, _) :: bs, by simp [e1], by simp [e2], by simp [e3], fun b hb => ?_, .cons h2 e5, .cons h3 e6⟩
          rcases List.mem_cons.mp hb with z | z
          · subst z; exact h
          · exact e4 b z
theorem readsAll_each' {h : Heap} : ∀ {us : List Value} {ds : List PyData} {as : List Addr}, ReadsAll h us ds as → W.EachIs (fun u d => ∃ as, Reads h u d as) us ds
  | _, [], _, r => by cases r; exact .nil
  | _, d :: ds, _, r => by
    cases r with
    | cons h1 h2 => exact .cons ⟨_, h1⟩ (readsAll_each' h2)
theorem alikeAll_of {ds : List PyData} (h : alikeAllB ds = true) : W.AllAlike ds := fun d hd d' hd' => by
  unfold alikeAllB at h
  rw [List.all_eq_true] at h
  have := h d hd
  rw [List.all_eq_true] at this
  exact this d' hd'
theorem sortable_of {ds : List PyData} (h : sortableB ds = true) : W.Sortable ds := by
  unfold sortableB at h
  rw [Bool.or_eq_true, List.all_eq_true, List.all_eq_true] at h
  rcases h with h | h
  · refine .inl fun d hd => ?_
    have := h d hd
    split at this
    · exact ⟨_, _, rfl⟩
    · cases this
  · refine .inr fun d hd => ?_
    have := h d hd
    refine ⟨fun e => ?_, fun xs e => ?_⟩
    · rw [e] at this; cases this
    · rw [e] at this; cases this
theorem dcap_le {ds : List PyData} (h : ds.all dcap = true) {d : PyData} (hd : d ∈ ds) : d.depth ≤ 32 := by
  rw [List.all_eq_true] at h
  exact of_decide_eq_true (h d hd)
theorem ws_sorted {bs : List Tri} (hw : ∀ b ∈ bs, WR Z ι H b.2.1 b.2.2) : WsR Z ι H (bs.map (·.2.1)) (bs.map (·.2.2)) := by
  induction bs with
  | nil => exact .nil
  | cons b bs ih => exact .cons (hw b List.mem_cons_self) (ih fun c hc => hw c (List.mem_cons_of_mem _ hc))
theorem each_vals {bs : List Tri} : ∀ {us : List Value}, W.EachIs (fun u (b : Tri) => RelV b.2.2 u) us bs → Vals (bs.map (·.2.2)) us := by
  induction bs with
  | nil => intro us h; cases h; exact .nil
  | cons b bs ih =>
    intro us h
    cases h with
    | cons h1 t1 => exact .cons h1 (ih t1)
theorem sortBy_tri {bs : List Tri} {out : List Wv} (e : sortBy (bs.map (·.1)) (bs.map (·.2.1)) = some out) :
    alikeAllB (bs.map (·.1)) = true ∧ sortableB (bs.map (·.1)) = true ∧ (bs.map (·.1)).all dcap = true ∧ out = (bs.mergeSort (W.dataLe false fun b : Tri => b.1)).map (·.2.1) := by
  unfold sortBy at e
  split at e
  · rename_i c
    rw [Bool.and_eq_true, Bool.and_eq_true] at c
    refine ⟨c.1.1, c.1.2, c.2, ?_⟩
    cases e
    have ez : (bs.map (·.1)).zip (bs.map (·.2.1)) = bs.map fun b => (b.1, b.2.1) := by
      rw [List.zip_map']
    rw [ez]
    have := W.sort_maps (r := W.dataLe false fun b : Tri => b.1) (s := fun a b => W.dataLe false (fun p : PyData × Wv => p.1) a b) (fun b : Tri => (b.1, b.2.1)) (l := bs) (fun _ _ _ _ => rfl)
    rw [← this, List.map_map]
    rfl
  · cases e
theorem depth_cap (k : XOk X Z) {bs : List Tri} (h : (bs.map (·.1)).all dcap = true) : ∀ b, b ∈ bs → X.A.units + 2 + b.1.depth < cLine := fun b hb => by
  have := dcap_le h (List.mem_map.mpr ⟨b, hb, rfl⟩)
  have := k.un
  omega
theorem newL_ok {o : Option (List Wv)} {Q : VK} (h : rOut Z ι H (newL o M) Q) : ∃ ws, o = some ws ∧ ws.length ≤ sizeLine ∧ rOut Z ι H (.ok (.ref M.length) (M ++ [.lst ws])) Q := by
  unfold newL at h
  cases o with
  | none => exact False.elim h
  | some ws =>
    obtain ⟨c, h⟩ := rOut.chk h
    exact ⟨ws, rfl, of_decide_eq_true c, h⟩
theorem prim_newL (o : Option (List Wv)) (M : Mem) : Prim (newL o M) := by
  unfold newL
  split
  · exact Prim.ok.chk
  · exact Prim.bad
/-- what stands still of a dict -/
theorem DctR.raw {a : Addr} {z : Bool} {kvs : List (Wv × Wv)} (I : L2.Inv X pins σ H s) (D : DctR Z ι H a z kvs) : ∃ es ep, s.heap.DictRaw a es ep ∧ (a == sysModules) = false ∧ es.size ≤ sizeLine ∧ Paired (EnR Z ι H) kvs es.toList := by
  obtain ⟨o, es, ep, h1, h2, h3, h4, h5, h6, h7, h8⟩ := D
  refine ⟨es, ep, ⟨o, MP.Inv.dctO I h1, h2, h3⟩, h4, ?_, h8⟩
  have := Paired.length h8
  have h9 : es.toList.length = es.size := Array.length_toList
  omega
theorem keys_items {kvs : List (Wv × Wv)} {es : Array DictEntry} {acc : Array Value} (r : Paired (EnR Z ι H) kvs es.toList) (h : ItemsOf (fun i v => ∃ hi : i < es.size, v = es[i].key) acc es.size) : ∃ vs, WsR Z ι H (kvs.map (·.1)) vs ∧ Vals vs acc.toList := by
  have e : acc.toList = es.toList.map (·.key) := by
    apply List.ext_getElem
    · rw [Array.length_toList, List.length_map, Array.length_toList]; exact h.1
    · intro i h1 h2
      have hi : i < acc.size := by simpa using h1
      obtain ⟨hi2, q⟩ := h.2 i acc[i] (by simp [hi])
      simpa using q
  rw [e]
  clear e h
  generalize es.toList = el at r
  induction r with
  | nil => exact ⟨[], .nil, .nil⟩
  | cons h t ih =>
    obtain ⟨vs, i1, i2⟩ := ih
    obtain ⟨kv, vv, h1, h2, h3, h4, h5⟩ := h
    exact ⟨kv :: vs, .cons h2 i1, .cons h1 i2⟩
theorem vals_items {kvs : List (Wv × Wv)} {es : Array DictEntry} {acc : Array Value} (r : Paired (EnR Z ι H) kvs es.toList) (h : ItemsOf (fun i v => ∃ hi : i < es.size, v = es[i].val) acc es.size) : ∃ vs, WsR Z ι H (kvs.map (·.2)) vs ∧ Vals vs acc.toList := by
  have e : acc.toList = es.toList.map (·.val) := by
    apply List.ext_getElem
    · rw [Array.length_toList, List.length_map, Array.length_toList]; exact h.1
    · intro i h1 h2
      have hi : i < acc.size := by simpa using h1
      obtain ⟨hi2, q⟩ := h.2 i acc[i] (by simp [hi])
      simpa using q
  rw [e]
  clear e h
  generalize es.toList = el at r
  induction r with
  | nil => exact ⟨[], .nil, .nil⟩
  | cons h t ih =>
    obtain ⟨vs, i1, i2⟩ := ih
    obtain ⟨kv, vv, h1, h2, h3, h4, h5⟩ := h
    exact ⟨vv :: vs, .cons h4 i1, .cons h3 i2⟩
theorem cb_list (k : XOk X Z) (hS : Z.S = G.S) : CallR X (.type "list") (rN Z (biW G .list)) := by
  intro pins s σ H xs us Q I r h
  obtain ⟨ι, M, ws, R, wr, h⟩ := h
  obtain ⟨w, v, rfl, rfl, hw⟩ := one_arg (fun ws M hn => by unfold biW; split <;> first | rfl | (rename_i z; simp_all) | simp_all) wr h
  obtain ⟨ys, e, hz, h2⟩ := newL_ok h
  unfold itemsOf at e
  cases hw with
  | tup ha ta => cases e; exact call_list_of pins s σ H _ us Q I r ⟨_, _, rfl, .inr (by rw [k.K]; exact ha), fun p hp => h2.lst R ta hp⟩
  | scr ha => cases e; exact call_list_of pins s σ H _ us Q I r ⟨_, _, rfl, .inl (by rw [k.K]; exact ha.sq), fun p hp => h2.lst R (by rw [hS]; exact WsR.ints _) hp⟩
  | ref ha =>
    simp only at e
    split at e
    · rename_i zs hM
      cases e
      obtain ⟨vs, e1, e2⟩ := R.ob _ _ _ hM ha
      exact call_list_of pins s σ H _ us Q I r ⟨_, _, rfl, .inl (SqL.of e1), fun p hp => h2.lst R e2 hp⟩
    · rename_i kvs hM
      cases e
      obtain ⟨es, ep, d1, d2, d3, d4⟩ := DctR.raw I (R.ob _ _ _ hM ha)
      obtain ⟨u, rfl, rx⟩ := vals1 r
      cases rx
      refine PySem.W.kdl_call (KdlSrc.rawDict d2) (I.ok.hd k.calm) d1 d3 fun h' tk acc c' hk hg hit => ?_
      obtain ⟨vs, v1, v2⟩ := keys_items d4 hit
      have hl : vs.length ≤ sizeLine := by rw [← v1.length]; exact hz
      exact ⟨.ref s.heap.objs.size, _, I.laid (t' := tk) hk (Nat.le_refl _) (show ObjOk X.prog X.w _ h' _ (.lst vs) from ⟨hl, acc.toList, c', v2, by simpa using hg⟩), rfl, h2.lst R v1 (I.hok.fresh (Nat.le_refl _))⟩
    · cases e
  | _ => cases e
theorem sort_fin {Q : VK} {ws : List Wv} {vs : List V} {out : List Wv} {us : List Value} {ds : List PyData} (k : XOk X Z) (hS : Z.S = G.S) (I : L2.Inv X pins σ H s) (R : RM Z ι M H) (r : WsR Z ι H ws vs) (rv : Vals vs us) (ed : mapO (toD G.S M deepD) ws = some ds) (es : sortBy ds ws = some out) :
    ∃ bs : List Tri, W.EachIs (fun u (b : Tri) => RelV b.2.2 u) us bs ∧ W.EachIs (fun u (b : Tri) => ∃ as, Reads s.heap u b.1 as) us bs ∧ W.AllAlike (bs.map (·.1)) ∧ W.Sortable (bs.map (·.1)) ∧ bs.length = ws.length ∧ (∀ b, b ∈ bs → X.A.units + 2 + b.1.depth < cLine) ∧
      ∀ o : List Value, W.EachIs (fun u (b : Tri) => RelV b.2.2 u) o (bs.mergeSort (W.dataLe false fun b : Tri => b.1)) → ∃ vs', WsR Z ι H out vs' ∧ Vals vs' o := by
  obtain ⟨dp, hl⟩ := mapO_dp hS R r ed
  obtain ⟨as, ra⟩ := Dp.readsAll I ds vs us (by rw [k.K]; exact dp) rv
  obtain ⟨bs, e1, e2, e3, e4, e5, e6⟩ := tri_each r rv hl (readsAll_each' ra)
  obtain ⟨a1, a2, a3, a4⟩ := sortBy_tri (bs := bs) (out := out) (by rw [e1, e2]; exact es)
  refine ⟨bs, e5, e6, alikeAll_of a1, sortable_of a2, by rw [← e2, List.length_map], depth_cap k a3, fun o ho => ⟨_, ?_, each_vals ho⟩⟩
  rw [a4]
  exact ws_sorted fun b hb => e4 b ((List.mergeSort_perm _ _).mem_iff.mp hb)
theorem cb_sorted (k : XOk X Z) (hS : Z.S = G.S) : CallR X (.builtin "sorted") (rN Z (biW G .sorted)) := by
  intro pins s σ H xs us Q I r h
  obtain ⟨ι, M, ws, R, wr, h⟩ := h
  obtain ⟨w, v, rfl, rfl, hw⟩ := one_arg (fun ws M hn => by unfold biW; split <;> first | rfl | (rename_i z; simp_all) | simp_all) wr h
  obtain ⟨out, e, hz, h2⟩ := newL_ok h
  obtain ⟨ys, e0, e⟩ := Option.bind_eq_some_iff.mp e
  obtain ⟨ds, ed, es⟩ := Option.bind_eq_some_iff.mp e
  obtain ⟨u, rfl, rx⟩ := vals1 r
  have lst : ∀ (a : Addr) (vs : List V), v = .ref a → SqL X.K H a vs → WsR Z ι H ys vs → wpAny (model X.prog X.w) X.A (call (.builtin "sorted") [u]) (EP X pins σ Q) X.xe s := by
    intro a vs ev hsq hws
    subst ev
    cases rx
    obtain ⟨its, rv, hl, hzz⟩ := I.list hsq
    obtain ⟨bs, b1, b2, b3, b4, b5, b6, b7⟩ := sort_fin (Q := Q) k hS I R hws rv ed es
    refine PySem.W.sorted_data (enc := fun b : Tri => b.1) hl.isList b1 b2 b3 b4 (by rw [b5, hws.length]; exact hzz) b6 fun o ho eo => ?_
    obtain ⟨vs', w1, w2⟩ := b7 o eo
    obtain ⟨ep, he'⟩ := PyProof.Rows.sortedAll_at s.heap its o.toArray
    exact ⟨.ref _, _, I.laid (t' := s.toks) (fun _ _ => PyProof.Rows.sortedAll_old) (Nat.le_succ _) (show ObjOk X.prog X.w _ _ _ (.lst vs') from ⟨by rw [← w1.length]; exact hz, o, ep, w2, he'⟩), rfl, h2.lst R w1 (I.hok.fresh (Nat.le_succ _))⟩
  unfold itemsS itemsOf at e0
  cases hw with
  | scr ha => cases e0; exact lst _ _ rfl (by rw [k.K]; exact ha.sq) (by rw [hS]; exact WsR.ints _)
  | ref ha =>
    simp only at e0
    split at e0
    · rename_i zs hM
      cases e0
      obtain ⟨vs, e1, e2⟩ := R.ob _ _ _ hM ha
      exact lst _ vs rfl (SqL.of e1) e2
    · rename_i kvs hM
      cases e0
      obtain ⟨es', ep, d1, d2, d3, d4⟩ := DctR.raw I (R.ob _ _ _ hM ha)
      cases rx
      refine PySem.Calls.call_function_entry kind_sorted plain_sorted entry_sorted (args_sorted1 _) ?_
      unfold Builtin.«sorted»
      refine wpAny_bind (m := checkCount "sorted" 1 1 _) (wpAny_pure ?_)
      refine wpAny_bind (PySem.W.kdu_collect (A := X.A.in1) (KdlSrc.rawDict d2) (I.ok.hd k.calm) d1 d3 fun h' tk acc hk hacc => ?_)
      obtain ⟨vs, v1, v2⟩ := keys_items d4 hacc
      have hl : acc.toList.length ≤ sizeLine := by rw [Array.length_toList, hacc.1]; exact d3
      refine wpAny_bind (wpAny_newList ?_ hl)
      have I1 : L2.Inv X pins σ H { s with heap := h'.push { cls := .type "list", data := .seq acc.toList.toArray }, toks := tk } := I.kept (t' := tk) fun b o q => Heap.get?_push_of_some _ (hk b o q)
      have I0 : L2.Inv X pins σ H { s with heap := h', toks := tk } := I.kept (t' := tk) hk
      obtain ⟨bs, b1, b2, b3, b4, b5, b6, b7⟩ := sort_fin (Q := Q) k hS I0 R v1 v2 ed es
      have ho : (h'.push { cls := .type "list", data := .seq acc.toList.toArray }).get? h'.objs.size = some (seqObj "list" acc.toList.toArray 0) := Heap.get?_push_size _ rfl
      have b2' : W.EachIs (fun u (b : Tri) => ∃ as, Reads (h'.push { cls := .type "list", data := .seq acc.toList.toArray }) u b.1 as ∧ h'.objs.size ∉ as) acc.toList bs := by
        refine b2.mono fun u b ⟨as, q⟩ => ⟨as, PyProof.Rows.Reads.keeps (fun _ _ z => Heap.get?_push_of_some _ z) q, fun hm => ?_⟩
        obtain ⟨ob, q⟩ := PyProof.On.reads_mem_get q _ hm
        exact absurd (Heap.lt_size q) (Nat.lt_irrefl _)
      have hb6 : ∀ b, b ∈ bs → X.A.in1.units + 1 + b.1.depth < cLine := fun b hb => by
        have := b6 b hb
        show X.A.units + 1 + 1 + _ < _
        omega
      refine wpAny_bind (wpAny_holding (PySem.W.list_sort_data (s := { s with heap := h'.push { cls := .type "list", data := .seq acc.toList.toArray }, toks := tk }) (A := X.A.in1) (enc := fun b : Tri => b.1) ho b1 b2' b3 b4 (by rw [b5, v1.length, v2.length]; exact hl) hb6 fun o hol eo => wpAny_pure ⟨_, rfl, ?_⟩))
      obtain ⟨vs', w1, w2⟩ := b7 o eo
      obtain ⟨ep2, he'⟩ := PyProof.Rows.sortedHeap_at (out := o.toArray) ho
      have hsz : h'.objs.size < (h'.push { cls := .type "list", data := .seq acc.toList.toArray }).objs.size := Heap.lt_size ho
      refine ⟨.ref h'.objs.size, _, I0.laid (t' := tk) (a := h'.objs.size) (o := .lst vs') (fun b ob q => ?_) (Nat.le_refl _) ⟨by rw [← w1.length]; exact hz, o, ep2, w2, he'⟩, rfl, h2.lst R w1 (I0.hok.fresh (Nat.le_refl _))⟩
      have hb := Heap.lt_size q
      rw [PyProof.Rows.sortedHeap_old (Nat.ne_of_lt hb) (Nat.lt_trans hb hsz)]
      exact Heap.get?_push_of_some _ q
    · cases e0
  | _ => cases e0
/-! ### min, max -/
mutual
theorem ofD_toD {S : List Int} : ∀ (n : Nat) {w w' : Wv} {d : PyData}, toD S M n w = some d → ofD d = some w' → w' = w
  | n, .non, _, _, e, f => by simp only [toD] at e; cases e; cases f; rfl
  | n, .bl b, _, _, e, f => by simp only [toD] at e; cases e; cases f; rfl
  | n, .int b, _, _, e, f => by simp only [toD] at e; cases e; cases f; rfl
  | n, .str b, _, _, e, f => by simp only [toD] at e; cases e; cases f; rfl
  | n, .scr, _, _, e, f => by simp only [toD] at e; cases e; cases f
  | 0, .tup ws, _, _, e, f => by simp only [toD] at e; cases e
  | n + 1, .tup ws, _, _, e, f => by
    simp only [toD] at e
    obtain ⟨ds, e1, rfl⟩ := Option.map_eq_some_iff.mp e
    simp only [ofD] at f
    obtain ⟨us, f1, rfl⟩ := Option.map_eq_some_iff.mp f
    rw [ofDs_toDs n e1 f1]
  | 0, .ref l, _, _, e, f => by simp only [toD] at e; cases e
  | n + 1, .ref l, _, _, e, f => by
    simp only [toD] at e
    split at e
    · obtain ⟨ds, e1, rfl⟩ := Option.map_eq_some_iff.mp e
      cases f
    · cases e
theorem ofDs_toDs {S : List Int} : ∀ (n : Nat) {ws ws' : List Wv} {ds : List PyData}, toDs S M n ws = some ds → ofDs ds = some ws' → ws' = ws
  | n, [], _, _, e, f => by simp only [toDs] at e; cases e; cases f; rfl
  | n, w :: ws, _, _, e, f => by
    simp only [toDs] at e
    split at e
    · rename_i d ds e1 e2
      cases e
      simp only [ofDs] at f
      split at f
      · rename_i u us f1 f2
        cases f
        rw [ofD_toD n e1 f1, ofDs_toDs n e2 f2]
      · cases f
    · cases e
end
theorem mapO_at {ws : List Wv} {ds : List PyData} {f : Wv → Option PyData} (e : mapO f ws = some ds) : ∀ {i : Nat} {w : Wv}, ws[i]? = some w → ∃ d, ds[i]? = some d ∧ f w = some d := by
  induction ws generalizing ds with
  | nil => intro i w h; simp at h
  | cons a as ih =>
    intro i w h
    simp only [mapO] at e
    split at e
    · rename_i d ds' e1 e2
      cases e
      cases i with
      | zero => simp at h; subst h; exact ⟨d, rfl, e1⟩
      | succ i => obtain ⟨d', h1, h2⟩ := ih e2 (by simpa using h); exact ⟨d', by simpa using h1, h2⟩
    · cases e
theorem best_ok {mx : Bool} {ds : List PyData} {w : Wv} (h : bestOf mx ds = some w) : ∃ d r, ds = d :: r ∧ W.AlikeAll (d :: r) ∧ PyData.depthAll (d :: r) ≤ 32 ∧ ofD (if mx then W.maxD d r else W.minD d r) = some w := by
  unfold bestOf at h
  split at h
  · cases h
  · rename_i d r
    split at h
    · rename_i c
      rw [Bool.and_eq_true, Bool.and_eq_true] at c
      refine ⟨d, r, rfl, ⟨fun x hx y hy => alikeAll_of c.1.1 x hx y hy, fun x hx e => ?_⟩, ?_, h⟩
      · have := c.1.2
        rw [List.all_eq_true] at this
        have := this x hx
        rw [e] at this
        cases this
      · have hd : ∀ x ∈ d :: r, x.depth ≤ 32 := fun x hx => dcap_le c.2 hx
        clear c h
        generalize d :: r = l at hd
        induction l with
        | nil => simp [PyData.depthAll]
        | cons x xs ih =>
          have h1 := hd x List.mem_cons_self
          have h2 := ih fun y hy => hd y (List.mem_cons_of_mem _ hy)
          simp only [PyData.depthAll]
          omega
    · cases h
/-- the value told, of a value that reads so -/
theorem best_rel {ws : List Wv} {vs : List V} {us : List Value} {ds : List PyData} {w : Wv} {d : PyData} {i : Nat} {u : Value} {bs : List Addr} {h' : Heap} (hS : Z.S = G.S) (k : XOk X Z) (I : L2.Inv X pins σ H s) (R : RM Z ι M H) (r : WsR Z ι H ws vs) (rv : Vals vs us) (ed : mapO (toD G.S M deepD) ws = some ds) (hu : us[i]? = some u)
    (hr : Reads h' u d bs) (hk : ∀ b o, s.heap.get? b = some o → h'.get? b = some o) (hw : ofD d = some w) : ∃ v, RelV v u ∧ WR Z ι H w v := by
  obtain ⟨v, hv, ru⟩ : ∃ v, vs[i]? = some v ∧ RelV v u := by
    clear ed r
    induction rv generalizing i with
    | nil => simp at hu
    | cons h t ih =>
      cases i with
      | zero => simp at hu; subst hu; exact ⟨_, rfl, h⟩
      | succ i => obtain ⟨v, h1, h2⟩ := ih (by simpa using hu); exact ⟨v, by simpa using h1, h2⟩
  obtain ⟨x, hx, wx⟩ := r.get2 hv
  obtain ⟨d', hd', td⟩ := mapO_at ed hx
  obtain ⟨as, r2⟩ := Dp.reads I d' v u (by rw [k.K]; exact toD_dp hS R _ wx td) ru
  have r3 : Reads h' u d' as := PyProof.Rows.Reads.keeps hk r2
  obtain ⟨e, _⟩ := PySem.Reads.unique r3 d bs hr
  subst e
  rw [ofD_toD _ td hw]
  exact ⟨v, ru, wx⟩
theorem max_two_data {A : Around} {E : Value → Shared → Prop} {P : Program} {w : World} {a b : Value} {x y : PyData} {as : List Addr} {Q : Value → Shared → Prop} (hh : A.handled = none) (hr : ReadsAll s.heap [a, b] [x, y] as) (ha : W.AlikeAll [x, y]) (hu : A.units + 1 + PyData.depthAll [x, y] < cLine)
    (h : ∀ (i : Nat) v h' tk bs, [a, b][i]? = some v → Reads h' v (W.maxD x [y]) bs → (∀ b o, s.heap.get? b = some o → h'.get? b = some o) → Q v { s with heap := h', toks := tk }) :
    wpAny (model P w) A (call (.builtin "max") [a, b]) Q E s := by
  have hname : (toString "max" ++ toString ".loop" : String) = "max.loop" := by decide
  refine call_function_tree F.kind_max F.plain_max F.entry_max (F.args_max2 _ _) ?_
  show wpAny _ A.in1 (Builtin.Builtins.bindParams "max" ["key", "default"] 0 ⟨[], []⟩ >>= _) _ _ s
  refine wpAny_bind (wpAny_of_eq (show Builtin.Builtins.bindParams "max" ["key", "default"] 0 ⟨[], []⟩ = pure [none, none] from rfl) ?_)
  show wpAny _ A.in1 (newTuple [a, b] >>= _) _ _ s
  refine wpAny_bind (wpAny_newObj_type ?_)
  have hT : (s.heap.push { cls := .type "tuple", data := .seq #[a, b] }).IsTuple s.heap.objs.size #[a, b] := ⟨_, Heap.get?_push_size _ rfl, rfl, 0, rfl⟩
  have kp : ∀ c o, s.heap.get? c = some o → (s.heap.push { cls := .type "tuple", data := .seq #[a, b] }).get? c = some o := fun _ _ e => Heap.get?_push_of_some _ e
  have hr2 : ReadsAll (s.heap.push { cls := .type "tuple", data := .seq #[a, b] }) (#[a, b] : Array Value).toList [x, y] as := PyProof.Rows.ReadsAll.keeps kp hr
  refine wpAny_bind (W.iter_tupleW (A := A.in1) (s := { s with heap := s.heap.push { cls := .type "tuple", data := .seq #[a, b] } }) hh hT fun s₂ e Wk st hfp hw hk => ?_)
  refine wpAny_bind (wpAny_newObj_type ?_)
  have hSf : s₂.heap.objs.size ∉ [(s.heap.push { cls := .type "tuple", data := .seq #[a, b] }).objs.size, s.heap.objs.size] := fun hm => Nat.lt_irrefl _ (hfp _ hm)
  rw [hname]
  have cmp := PySem.W.cmpIn_gt (prog := P) (w := w) (A := A.in1) (s := { s with heap := s.heap.push { cls := .type "tuple", data := .seq #[a, b] } }) hr2 ha (show A.units + 1 + _ < _ from hu)
  refine wpAny_pure ⟨plainId_quiet F.plain_max_loop _, PySem.codeAny_max_loop_firstH Wk _ hw _ cmp s₂.heap.objs.size hSf (PySem.fresh_in hk) _ (show 0 < 2 by decide) (fun b o e => Heap.get?_push_of_some _ (hk b o e)) (Wk.frame 0 s₂ _ s₂.toks st (Nat.le_refl _) fun b _ o e => Heap.get?_push_of_some _ e) (Heap.get?_push_size _ rfl) fun v s' hP hm => ?_⟩
  have hm2 := PySem.Moved.drop_new (tk := s₂.toks) hm (Nat.le_refl _)
  obtain ⟨h', tk, rfl, hk'⟩ := W.moved_old e rfl hm2
  obtain ⟨bs, r, _, _, _⟩ := W.readsAll_atA hr2 _ v hP
  have e2 := (W.argBest_fold (fun p q => W.dataLt q p) PyData.none x [y] 1 (Nat.le_refl _)).2
  exact h _ v h' tk bs (by simpa using hP) (PyProof.Rows.Reads.keeps hk' (by unfold W.maxD; have e3 : List.take 1 [y] = [y] := rfl; rw [e3] at e2; rw [← e2]; exact r)) fun b o e => hk' b o (kp b o e)
theorem prim_bi (b : Bi) (ws : List Wv) (M : Mem) : Prim (biW G b ws M) := by
  unfold biW
  split <;> first
    | exact Prim.ok
    | exact Prim.ok.chk
    | exact Prim.bad
    | exact Prim.ofO
    | exact prim_newL _ _
    | exact Prim.ofO.bind fun _ _ => Prim.ok
    | (split <;> first | exact Prim.ok | exact Prim.bad | exact Prim.ok.chk)
theorem biW_min1 (x : Wv) (M : Mem) : biW G .min [x] M = .ofO ((lstOf x M).bind fun ws => (mapO (toD G.S M deepD) ws).bind (bestOf false)) M := by cases x <;> rfl
theorem biW_max1 (x : Wv) (M : Mem) : biW G .max [x] M = .ofO ((lstOf x M).bind fun ws => (mapO (toD G.S M deepD) ws).bind (bestOf true)) M := by cases x <;> rfl
theorem best_list (k : XOk X Z) (hS : Z.S = G.S) {mx : Bool} {v : V} {u : Value} {w : Wv} {x : Wv} {Q : VK} (I : L2.Inv X pins σ H s) (R : RM Z ι M H) (hx : WR Z ι H x v) (ru : RelV v u)
    (e : ((lstOf x M).bind fun ws => (mapO (toD G.S M deepD) ws).bind (bestOf mx)) = some w) (h : rOut Z ι H (.ok w M) Q) : wpAny (model X.prog X.w) X.A (call (.builtin (if mx then "max" else "min")) [u]) (EP X pins σ Q) X.xe s := by
  obtain ⟨ws, e1, e⟩ := Option.bind_eq_some_iff.mp e
  obtain ⟨ds, e2, e⟩ := Option.bind_eq_some_iff.mp e
  obtain ⟨a, vs, rfl, h1, h2⟩ := lstOf_at R hx e1
  cases ru
  obtain ⟨its, rv, hl, hzz⟩ := I.list (SqL.of (K := X.K) h1)
  obtain ⟨d, r, rfl, b1, b2, b3⟩ := best_ok e
  obtain ⟨dp, hlen⟩ := mapO_dp hS R h2 e2
  obtain ⟨as, ra⟩ := Dp.readsAll I _ vs its (by rw [k.K]; exact dp) rv
  have hu : X.A.units + 1 + PyData.depthAll (d :: r) < cLine := by have := k.un; omega
  have fin : ∀ (i : Nat) v' h' tk bs, its.toArray[i]? = some v' → Reads h' v' (if mx then PySem.W.maxD d r else PySem.W.minD d r) bs → (∀ b o, s.heap.get? b = some o → h'.get? b = some o) → EP X pins σ Q v' { s with heap := h', toks := tk } := by
    intro i v' h' tk bs hv hr hk
    obtain ⟨y, ry, wy⟩ := best_rel hS k I R h2 rv e2 (by simpa using hv) hr hk b3
    exact ⟨y, H, I.kept hk, ry, h.val R wy⟩
  cases mx with
  | true => exact PySem.W.max_list_data (I.ok.hd k.calm) hl.isList (by simpa using ra) b1 hu fin
  | false => exact PySem.W.min_list_data (I.ok.hd k.calm) hl.isList (by simpa using ra) b1 hu fin
theorem cb_min (k : XOk X Z) (hS : Z.S = G.S) : CallR X (.builtin "min") (rN Z (biW G .min)) := by
  intro pins s σ H xs us Q I r h
  obtain ⟨ι, M, ws, R, wr, h⟩ := h
  cases wr with
  | nil => exact False.elim h
  | cons h1 t1 =>
    cases t1 with
    | nil =>
      rw [biW_min1] at h
      obtain ⟨w, e, h⟩ := rOut.ofO h
      obtain ⟨u, rfl, ru⟩ := vals1 r
      exact best_list (mx := false) k hS I R h1 ru e h
    | cons h2 t2 =>
      cases t2 with
      | cons h3 t3 => cases h1 <;> cases h2 <;> exact False.elim h
      | nil =>
        cases h1 with
        | int i =>
          cases h2 with
          | int j => exact call_min2 k.calm pins s σ H _ us Q I r ⟨i, j, rfl, rOut.val h R (.int _)⟩
          | _ => exact False.elim h
        | _ => exact False.elim h
theorem cb_max (k : XOk X Z) (hS : Z.S = G.S) : CallR X (.builtin "max") (rN Z (biW G .max)) := by
  intro pins s σ H xs us Q I r h
  obtain ⟨ι, M, ws, R, wr, h⟩ := h
  cases wr with
  | nil => exact False.elim h
  | cons h1 t1 =>
    cases t1 with
    | nil =>
      rw [biW_max1] at h
      obtain ⟨w, e, h⟩ := rOut.ofO h
      obtain ⟨u, rfl, ru⟩ := vals1 r
      exact best_list (mx := true) k hS I R h1 ru e h
    | cons h2 t2 =>
      cases t2 with
      | cons h3 t3 => cases h1 <;> cases h2 <;> exact False.elim h
      | nil =>
        cases h1 with
        | int i =>
          cases h2 with
          | int j => exact call_max2 k.calm pins s σ H _ us Q I r ⟨i, j, rfl, rOut.val h R (.int _)⟩
          | _ => exact False.elim h
        | tup ha ta =>
          cases h2 with
          | tup hb tb =>
            obtain ⟨w, e, hq⟩ := rOut.ofO h
            obtain ⟨ds, e2, e⟩ := Option.bind_eq_some_iff.mp e
            obtain ⟨d, rr, rfl, b1, b2, b3⟩ := best_ok e
            have wr2 := WsR.cons (WR.tup ha ta) (WsR.cons (WR.tup hb tb) WsR.nil)
            obtain ⟨dp, hlen⟩ := mapO_dp hS R wr2 e2
            obtain ⟨as, ra⟩ := Dp.readsAll I _ _ us (by rw [k.K]; exact dp) r
            have hu : X.A.units + 1 + PyData.depthAll (d :: rr) < cLine := by have := k.un; omega
            obtain ⟨u1, u2, rfl, r1, r2⟩ := vals2 r
            match rr, hlen with
            | [y], _ =>
              refine max_two_data (I.ok.hd k.calm) ra b1 hu fun i v' h' tk bs hv hr hk => ?_
              obtain ⟨y, ry, wy⟩ := best_rel hS k I R wr2 r e2 hv hr hk b3
              exact ⟨y, H, I.kept hk, ry, hq.val R wy⟩
            | [], hl => simp at hl
            | _ :: _ :: _, hl => simp at hl
          | _ => exact False.elim h
        | _ => exact False.elim h
end
end MP
end
section
set_option Elab.async false
set_option linter.all false
set_option maxRecDepth 100000
/-! MP10: dict(..), isinstance, methods of lists and dicts, stores. -/
namespace MP
open PySem PySem.Spec PyProof.Rows L2
section
variable {Z : Zt} {X : Cx} {G : Pg} {ι : List Addr} {H : Hp} {M : Mem} {pins : List (Addr × Obj)} {σ : L2.St} {s : Shared} {Wx : Wish}
/-! ### dict(..) -/
theorem pairs_rel (I : L2.Inv X pins σ H s) (k : XOk X Z) : ∀ {ws : List Wv} {vs : List V} {us : List Value} {ps : List (Wv × Wv)}, WsR Z ι H ws vs → Vals vs us → MP.pairs ws = some ps → (ps.all fun p => keyA p.1) = true →
    ∃ prs : List (Key × Value), PvR Z ι H ps prs ∧ us.length = prs.length ∧ ∀ (j : Nat) (q : Key × Value), prs[j]? = some q → ∃ (b : Addr) (u : Value), us[j]? = some (.ref b) ∧ IsTup s.heap b #[u, q.2] ∧ keyIs q.1 u = true
  | _, _, _, _, .nil, r, e, _ => by cases r; cases e; exact ⟨[], .nil, rfl, fun j q h => by simp at h⟩
  | _, _, _, _, .cons (w := w) h t, r, e, ka => by
    unfold MP.pairs mapO at e
    split at e
    · rename_i p ps' e1 e2
      cases e
      cases r with
      | cons r1 r2 =>
        rw [List.all_cons, Bool.and_eq_true] at ka
        obtain ⟨prs, i1, i2, i3⟩ := pairs_rel I k t r2 (show MP.pairs _ = some ps' from e2) ka.2
        cases h with
        | tup hs ht =>
          split at e1
          · rename_i a b heq
            cases heq
            cases e1
            obtain ⟨x, y, rfl, hx, hy⟩ := ht.two
            cases r1
            obtain ⟨its, rv, htu, _⟩ := I.tuple (by rw [k.K]; exact hs)
            obtain ⟨u1, u2, rfl, q1, q2⟩ := vals2 rv
            have ek := keyA_rel ka.1 hx
            subst ek
            refine ⟨(keyW a, u2) :: prs, .cons ⟨rfl, ka.1, y, q2, hy⟩ i1, by simp [i2], fun j q hj => ?_⟩
            cases j with
            | zero => simp at hj; subst hj; exact ⟨_, u1, rfl, by simpa using htu, kV_is (P := X.prog) (w := X.w) q1⟩
            | succ j =>
              obtain ⟨b', u', h1, h2, h3⟩ := i3 j q (by simpa using hj)
              exact ⟨b', u', by simpa using h1, h2, h3⟩
          · cases e1
        | _ => cases e1
    · cases e
theorem PvR.merged {ps : List (Wv × Wv)} {prs : List (Key × Value)} (h : PvR Z ι H ps prs) : ∀ {kvs : List (Wv × Wv)} {vs : List (Key × Value)}, PvR Z ι H kvs vs → (kvs.map (·.1)).Nodup → (kvs.all fun p => keyA p.1) = true →
    PvR Z ι H (dputs kvs ps) (merged vs prs) ∧ ((dputs kvs ps).map (·.1)).Nodup ∧ ((dputs kvs ps).all fun p => keyA p.1) = true ∧ (dputs kvs ps).length ≤ kvs.length + ps.length := by
  induction h with
  | nil => intro kvs vs h nd ka; exact ⟨h, nd, ka, Nat.le_refl _⟩
  | @cons p q ps prs h t ih =>
    intro kvs vs h2 nd ka
    obtain ⟨e1, k1, x, rx, wx⟩ := h
    have hp := h2.put k1 (u := q.2) nd rx wx
    rw [← e1] at hp
    obtain ⟨i1, i2, i3, i4⟩ := ih hp (dput_nodup nd) (dput_all ka k1)
    refine ⟨i1, i2, i3, ?_⟩
    have := dput_len kvs p.1 p.2
    simp only [List.length_cons]
    unfold dputs
    omega
theorem cb_dict (k : XOk X Z) : CallR X (.type "dict") (rN Z (biW G .dict)) := by
  intro pins s σ H xs us Q I r h
  obtain ⟨ι, M, ws, R, wr, h⟩ := h
  obtain ⟨w, v, rfl, rfl, hw⟩ := one_arg (fun ws M hn => by unfold biW; split <;> first | rfl | (rename_i z; simp_all) | simp_all) wr h
  have h2 : rOut Z ι H (match (lstOf w M).bind MP.pairs with
    | some ps => .chk ((ps.all fun p => keyA p.1) && lenOk ps.length) (.ok (.ref M.length) (M ++ [.dct false (dputs [] ps)]))
    | none => .bad) Q := h
  split at h2
  · rename_i ps e
    obtain ⟨c, h2⟩ := h2.chk
    rw [Bool.and_eq_true] at c
    obtain ⟨zs, e1, e2⟩ := Option.bind_eq_some_iff.mp e
    obtain ⟨a, vs, rfl, h1, h3⟩ := lstOf_at R hw e1
    obtain ⟨u, rfl, ru⟩ := vals1 r
    cases ru
    obtain ⟨its, rv, ⟨o, n, g1, g2, g3, g4⟩, hz⟩ := I.list (SqL.of (K := X.K) h1)
    obtain ⟨prs, p1, p2, p3⟩ := pairs_rel I k h3 rv e2 c.1
    have hl : prs.length ≤ sizeLine := by rw [← Paired.length p1]; exact of_decide_eq_true c.2
    refine L2.call_dict_pairs (I.ok.hd k.calm) g1 g2 g3 g4 (by simpa using p2) hl (fun j q hq => by simpa using p3 j q hq) fun h' tk dd hk => ?_
    obtain ⟨m1, m2, m3, m4⟩ := p1.merged (kvs := []) (vs := []) .nil List.nodup_nil rfl
    obtain ⟨o', es', ep', e1, e2, e3, e4, e5, e6⟩ := dd
    have hp : H s.heap.objs.size = none := I.hok.fresh (Nat.le_refl _)
    have ex := Ext.alloc (ho := DctO s.heap.objs.size o') ι hp
    refine ⟨.ref s.heap.objs.size, _, I.laid (a := s.heap.objs.size) (o := DctO s.heap.objs.size o') (t' := tk) hk (Nat.le_refl _) (DctR.ok_new e1), rfl, ?_⟩
    refine h2 (.ref s.heap.objs.size) _ (ι ++ [s.heap.objs.size]) ex (R.alloc hp ?_) (.ref (snoc_ix R _))
    refine ⟨_, es', ep', upd_same, e2, e3, beq_eq_false_iff_ne.mpr (Ne.symm (Nat.ne_of_lt I.big)), ?_, m2, .inl m3, ?_⟩
    · have := of_decide_eq_true c.2
      simp only [List.length_nil] at m4
      omega
    · refine pairs_back (P := X.prog) k.w.symm (fun e he => e4 e (Array.mem_toList_iff.mp he)) e5 ?_
      exact L2.Paired.mapP m1 fun p q z => ⟨z.1, z.2.1, let ⟨x, z1, z2⟩ := z.2.2; ⟨x, z1, z2.mono ex.le⟩⟩
  · exact False.elim h2
/-! ### isinstance -/
def kdT : Kd → String
  | .int => "int"
  | .bool => "bool"
  | .str => "str"
  | .tuple => "tuple"
  | .list => "list"
theorem isi_kit (I : L2.Inv X pins σ H s) (k : XOk X Z) (R : RM Z ι M H) {w : Wv} {v : V} {u : Value} {kd : Kd} {b : Bool} (hw : WR Z ι H w v) (ru : RelV v u) (e : isiW kd w M = some b) :
    ∃ (t : String) (P : Heap → Prop), PySem.W.KitX X.K u (.type t) P ∧ P s.heap ∧ u ≠ .builtin "__main__.__loader__#opaque" ∧ kitB t (kdT kd) = some b := by
  have lst : ∀ {a : Addr} {xs : List V}, SqL X.K H a xs → PySem.W.KitX X.K (.ref a) (.type "list") (fun h => ∃ o, h.get? a = some o ∧ o.cls = .type "list") ∧ (∃ o, s.heap.get? a = some o ∧ o.cls = .type "list") := fun {a xs} hq => by
    obtain ⟨its, rv, ⟨o, n, g1, g2, g3, g4⟩, hz⟩ := I.list hq
    exact ⟨PySem.W.kitx_list, o, g1, g2⟩
  cases hw with
  | non => cases ru; exact ⟨"NoneType", _, PySem.W.kitx_none, True.intro, fun z => (nomatch z), by cases kd <;> cases e <;> decide +kernel⟩
  | bl c => cases ru; exact ⟨"bool", _, PySem.W.kitx_bool, True.intro, fun z => (nomatch z), by cases kd <;> cases e <;> decide +kernel⟩
  | int i => obtain ⟨t, rfl⟩ := ru; exact ⟨"int", _, PySem.W.kitx_int, True.intro, fun z => (nomatch z), by cases kd <;> cases e <;> decide +kernel⟩
  | str x => obtain ⟨t, rfl⟩ := ru; exact ⟨"str", _, PySem.W.kitx_str, True.intro, fun z => (nomatch z), by cases kd <;> cases e <;> decide +kernel⟩
  | tup hs ht =>
    cases ru
    obtain ⟨its, rv, ⟨o, g1, g2, _⟩, _⟩ := I.tuple (by rw [k.K]; exact hs)
    exact ⟨"tuple", _, PySem.W.kitx_tuple, ⟨o, g1, g2⟩, fun z => (nomatch z), by cases kd <;> cases e <;> decide +kernel⟩
  | scr hs =>
    cases ru
    obtain ⟨g1, g2⟩ := lst (by rw [k.K]; exact hs.sq)
    exact ⟨"list", _, g1, g2, fun z => (nomatch z), by cases kd <;> cases e <;> decide +kernel⟩
  | ref hl =>
    cases ru
    rename_i l a
    cases hM : M[l]? with
    | none => cases kd <;> simp [isiW, hM] at e
    | some o =>
      cases o with
      | lst ws =>
        obtain ⟨vs, e1, e2⟩ := R.ob _ _ _ hM hl
        obtain ⟨g1, g2⟩ := lst (SqL.of (K := X.K) e1)
        exact ⟨"list", _, g1, g2, fun z => (nomatch z), by cases kd <;> simp only [isiW, hM] at e <;> cases e <;> decide +kernel⟩
      | dct z kvs =>
        obtain ⟨o, es, ep, h1, h2, h3, h4⟩ := R.ob _ _ _ hM hl
        exact ⟨"dict", _, PySem.W.kitx_dict, ⟨o, MP.Inv.dctO I h1, h2.1⟩, fun z => (nomatch z), by cases kd <;> simp only [isiW, hM] at e <;> cases e <;> decide +kernel⟩
      | ins c fs => cases kd <;> simp [isiW, hM] at e
/-- isinstance(e, T) -/
theorem se_isi (k : XOk X Z) {kd : Kd} {x : Str} {a : Expr} {f : Fv} {p q pos : Pos} (hg : Gl X "isinstance") (hm : X.mg "isinstance" = none) (hgx : Gl X x) (hmx : X.mg x = none) (hv : bootBuiltins x = some (.type (kdT kd))) (ha : PE X a (tE Z Wx f)) (hn : x ≠ "__name__") (hdb : (x == ("__debug__" : Str)) = false)
    (he : starEach [a, .Name x q] X.env = (false, eval a X.env) :: starEach [.Name x q] X.env) (he2 : starEach [.Name x q] X.env = (false, eval (.Name x q) X.env) :: starEach [] X.env) (hpl : (backTo pos (starEach [.Name x q] X.env)).any (·.1) = false) :
    PE X (.Call (.Name "isinstance" p) [a, .Name x q] [] pos) (tE Z Wx fun sw M => (f sw M).bind fun x M => .ofO ((isiW kd x M).map .bl) M) := by
  refine ⟨fun pins s σ H Q I ⟨ι, sw, M, sr, R, h⟩ => ?_⟩
  have hty : PE X (.Name x q) (tC (.ty (kdT kd))) := ⟨fun pins s σ H Q I h => ld_blt I hgx hmx hv ⟨.ty _, H, I, rfl, h⟩ hn hdb⟩
  refine wpAny_Call_Name_kw (ld_blt I hg hm (by rfl) ?_ (by decide) (by decide))
  have ht : tE Z Wx f σ H fun v H1 => ∃ ι1 M1 w b, RM Z ι1 M1 H1 ∧ WR Z ι1 H1 w v ∧ isiW kd w M1 = some b ∧ Q (.bl b) H1 := tE.seqE sr R h fun x M1 v H1 ι1 e1 R1 q1 s1 h1 => by
    obtain ⟨w, e, h1⟩ := h1.ofO
    obtain ⟨b, e2, rfl⟩ := Option.map_eq_some_iff.mp e
    exact ⟨ι1, M1, x, b, R1, q1, e2, h1.val R1 (.bl b)⟩
  have hA := (pa_cons ha (pa_cons hty pa_nil he2) he).run pos pins s σ H (fun vs H1 => ∃ v, vs = [v, .ty (kdT kd)] ∧ ∃ ι1 M1 w b, RM Z ι1 M1 H1 ∧ WR Z ι1 H1 w v ∧ isiW kd w M1 = some b ∧ Q (.bl b) H1) I ?_
  · refine PyProof.Rows.callWith_builtin1 (thn hA fun us s1 ⟨vs, H1, I1, r1, v, ev, ι1, M1, w, b, R1, q1, eb, qq⟩ => ?_) he hpl
    subst ev
    obtain ⟨u1, u2, rfl, r3, r2⟩ := vals2 r1
    cases (show u2 = Value.type (kdT kd) from r2)
    obtain ⟨t, P, g1, g2, g3, g4⟩ := isi_kit I1 k R1 q1 r3 eb
    exact PySem.W.kia_one g1 I1.kIn g2 (kit_ty g4) g3 fun tk => ⟨.bl b, H1, I1.tok tk, rfl, qq⟩
  · obtain ⟨ι0, sw0, M0, sr0, R0, h0⟩ := ht
    refine ⟨ι0, sw0, M0, sr0, R0, ?_⟩
    cases e : f sw0 M0 with
    | ok w M1 =>
      rw [e] at h0
      exact fun v H' ι' x R q => ⟨v, rfl, h0 v H' ι' x R q⟩
    | exc c M1 => rw [e] at h0; exact h0
    | bad => rw [e] at h0; exact h0
/-! ### methods of built-in types -/
def bmTy : Bm → String
  | .append => "list"
  | .get => "dict"
def bmId : Bm → String
  | .append => "list.append"
  | .get => "dict.get"
def bmNm : Bm → Str
  | .append => "append"
  | .get => "get"
theorem bm_type (I : L2.Inv X pins σ H s) (R : RM Z ι M H) {m : Bm} {w : Wv} {v : V} {u : Value} (hw : WR Z ι H w v) (ru : RelV v u) (e : bmT m w M = true) : s.TypeIs u (bmTy m) ∧ ∀ a, u = .ref a → ∃ ob, s.heap.get? a = some ob ∧ ob.dict = none := by
  cases hw with
  | ref hl =>
    rename_i l a
    cases ru
    cases m with
    | append =>
      simp only [bmT] at e
      split at e
      · rename_i ws hM
        obtain ⟨vs, e1, e2⟩ := R.ob _ _ _ hM hl
        exact tyV_is (X := X) I (show RelV (.ref a) (.ref a) from rfl) (.inl ⟨rfl, vs, SqL.of e1⟩)
      · cases e
    | get =>
      simp only [bmT] at e
      split at e
      · rename_i kvs hM
        have D := R.ob _ _ _ hM hl
        exact ⟨DctR.typeIs I D, DctR.noDict I D⟩
      · cases e
  | _ => cases m <;> cases e
theorem prim_bm (m : Bm) (x : Wv) (xs : List Wv) (M : Mem) : Prim (bmW m x xs M) := by
  unfold bmW
  split
  · split
    · split
      · exact Prim.ok.chk
      · exact Prim.bad
    · exact Prim.bad
  · split
    · split
      · exact Prim.ok.chk
      · exact Prim.ok.chk
      · exact Prim.bad
    · exact Prim.bad
  · exact Prim.bad
/-- what get gives: the value, or the default -/
theorem getD_rel {o : Option Wv} {ov : Option Value} {dw : Wv} {d : V} {u : Value} (h : match o with | some y => ∃ p, ov = some p ∧ ∃ x, RelV x p ∧ WR Z ι H y x | none => ov = none) (rd : RelV d u) (wd : WR Z ι H dw d) : ∃ x, RelV x (ov.getD u) ∧ WR Z ι H (o.getD dw) x := by
  cases o with
  | none => simp only at h; subst h; exact ⟨d, rd, wd⟩
  | some y => obtain ⟨p, rfl, x, h1, h2⟩ := h; exact ⟨x, h1, h2⟩
theorem DctR.get1 {a : Addr} {z : Bool} {kvs : List (Wv × Wv)} {kk : Wv} {x : V} {u : Value} {Q : Value → Shared → Prop} {E : Value → Shared → Prop} (I : L2.Inv X pins σ H s) (k : XOk X Z) (D : DctR Z ι H a z kvs) (h : keyOk kvs kk = true) (r : WR Z ι H kk x) (ru : RelV x u)
    (q : ∀ s' w' y, L2.Inv X pins σ H s' → RelV y w' → WR Z ι H ((dget kvs kk).getD .non) y → Q w' s') : wpAny (model X.prog X.w) X.A (call (.builtin "dict.get") [.ref a, u]) Q E s := by
  rcases keyOk_cases h with ⟨k1, k2⟩ | ⟨k1, k2⟩
  · obtain ⟨vs, dd, pv, hd⟩ := D.dictOf I k k2
    have ex := keyA_rel k1 r
    subst ex
    obtain ⟨y, g1, g2⟩ := getD_rel (u := .none) (pv.get k1) (show RelV .non .none from rfl) WR.non
    exact call_meetsIn PySem.F.slot_dict_get dd.typeIs PySem.F.entry_dict_get (PySem.F.args_dict_get_2 _ _) (meets_dict_get (mixKind X.prog X.w) a (kV_is ru) hd) ⟨_, dd.mapOf, q _ _ y (I.tok _) g1 g2⟩
  · obtain ⟨xs, dd, pv, hd⟩ := D.dictOfH I k k2
    obtain ⟨b, rfl⟩ := keyT_ref k1 r
    cases ru
    have g := pv.get k1
    obtain ⟨y, g1, g2⟩ := getD_rel (ov := (atKey xs (toNK kk)).map (·.2)) (o := dget kvs kk) (u := .none) (by
      cases e : dget kvs kk with
      | none => rw [e] at g; simp only at g ⊢; rw [g]; rfl
      | some y => rw [e] at g; obtain ⟨p, g, x, g1, g2⟩ := g; exact ⟨p.2, by rw [g]; rfl, x, g1, g2⟩) (show RelV .non .none from rfl) WR.non
    exact call_meetsIn PySem.F.slot_dict_get dd.typeIs PySem.F.entry_dict_get (PySem.F.args_dict_get_2 _ _) (meetsH_dict_get (nestedKind X.prog X.w) a b hd) ⟨room8 k, _, xs, keyT_is I k.K k1 r, dd, q _ _ y (I.tok _) g1 g2⟩
theorem DctR.get2 {a : Addr} {z : Bool} {kvs : List (Wv × Wv)} {kk dw : Wv} {x d : V} {u du : Value} {Q : Value → Shared → Prop} {E : Value → Shared → Prop} (I : L2.Inv X pins σ H s) (k : XOk X Z) (D : DctR Z ι H a z kvs) (h : keyOk kvs kk = true) (r : WR Z ι H kk x) (ru : RelV x u) (rd : WR Z ι H dw d) (rdu : RelV d du)
    (q : ∀ s' w' y, L2.Inv X pins σ H s' → RelV y w' → WR Z ι H ((dget kvs kk).getD dw) y → Q w' s') : wpAny (model X.prog X.w) X.A (call (.builtin "dict.get") [.ref a, u, du]) Q E s := by
  rcases keyOk_cases h with ⟨k1, k2⟩ | ⟨k1, k2⟩
  · obtain ⟨vs, dd, pv, hd⟩ := D.dictOf I k k2
    have ex := keyA_rel k1 r
    subst ex
    obtain ⟨y, g1, g2⟩ := getD_rel (u := du) (pv.get k1) rdu rd
    exact call_meetsIn PySem.F.slot_dict_get dd.typeIs PySem.F.entry_dict_get (PySem.F.args_dict_get_3 _ _ _) (meets_dict_get_default (mixKind X.prog X.w) a (kV_is ru) hd du) ⟨_, dd.mapOf, q _ _ y (I.tok _) g1 g2⟩
  · obtain ⟨xs, dd, pv, hd⟩ := D.dictOfH I k k2
    obtain ⟨b, rfl⟩ := keyT_ref k1 r
    cases ru
    have g := pv.get k1
    obtain ⟨y, g1, g2⟩ := getD_rel (ov := (atKey xs (toNK kk)).map (·.2)) (o := dget kvs kk) (u := du) (by
      cases e : dget kvs kk with
      | none => rw [e] at g; simp only at g ⊢; rw [g]; rfl
      | some y => rw [e] at g; obtain ⟨p, g, x, g1, g2⟩ := g; exact ⟨p.2, by rw [g]; rfl, x, g1, g2⟩) rdu rd
    exact call_meetsIn PySem.F.slot_dict_get dd.typeIs PySem.F.entry_dict_get (PySem.F.args_dict_get_3 _ _ _) (meetsH_dict_get_default (nestedKind X.prog X.w) a b hd du) ⟨room8 k, _, xs, keyT_is I k.K k1 r, dd, q _ _ y (I.tok _) g1 g2⟩
/-- a list that is told of, written -/
theorem lst_write {l : Nat} {a : Addr} {ws ws' : List Wv} {vs vs' : List V} (R : RM Z ι M H) (hM : M[l]? = some (.lst ws)) (hl : ι[l]? = some a) (e1 : H a = some (.lst vs)) (r : WsR Z ι H ws' vs') : Ext ι ι H (upd H a (.lst vs')) ∧ RM Z ι (M.set l (.lst ws')) (upd H a (.lst vs')) := by
  have ex : Ext ι ι H (upd H a (.lst vs')) := Ext.write R hl (fun ob φ e => by rw [e1] at e; cases e)
  exact ⟨ex, R.write hM hl e1 (fun ps z => by cases z) (fun q z => by cases z) ⟨vs', upd_same, r.mono ex.le⟩⟩
def rM (Z : Zt) (F : Wv → List Wv → Mem → Out Wv) : V → List V → Hp → VK → Prop := fun x xs H Q => ∃ ι M w ws, RM Z ι M H ∧ WR Z ι H w x ∧ WsR Z ι H ws xs ∧ rOut Z ι H (F w ws M) Q
theorem mt_bm (k : XOk X Z) (m : Bm) : MtR X (bmId m) (rM Z (bmW m)) := by
  intro pins s σ H x xs v us Q I rx rxs h
  obtain ⟨ι, M, w, ws, R, hw, hws, h⟩ := h
  cases hw with
  | ref hl =>
    rename_i l a
    cases m with
    | append =>
      simp only [bmW] at h
      split at h
      · rename_i zs hM
        obtain ⟨vs, e1, e2⟩ := R.ob _ _ _ hM hl
        split at h
        · rename_i y
          obtain ⟨x, rfl, hx⟩ := hws.one
          obtain ⟨c, h⟩ := h.chk
          have hz : vs.length < sizeLine := by
            have := of_decide_eq_true c
            rw [← e2.length]
            omega
          obtain ⟨ex, R2⟩ := lst_write R hM hl e1 (e2.append (.cons hx .nil))
          exact mt_append pins s σ H _ _ v us Q I rx rxs ⟨a, vs, x, rfl, rfl, e1, hz, h .non _ ι ex R2 .non⟩
        · exact False.elim h
      · exact False.elim h
    | get =>
      simp only [bmW] at h
      split at h
      · rename_i kvs hM
        have D := R.ob _ _ _ hM hl
        cases rx
        split at h
        · obtain ⟨x, rfl, hx⟩ := hws.one
          obtain ⟨c, h⟩ := h.chk
          obtain ⟨u, rfl, ru⟩ := vals1 rxs
          exact DctR.get1 I k D c hx ru fun s' w' y I' ry wy => ⟨y, H, I', ry, h.val R wy⟩
        · obtain ⟨x, y, rfl, hx, hy⟩ := hws.two
          obtain ⟨c, h⟩ := h.chk
          obtain ⟨u, u2, rfl, ru, ru2⟩ := vals2 rxs
          exact DctR.get2 I k D c hx ru hy ru2 fun s' w' y I' ry wy => ⟨y, H, I', ry, h.val R wy⟩
        · exact False.elim h
      · exact False.elim h
  | _ => cases m <;> exact False.elim h
theorem bm_pa (m : Bm) : PlainAttrs (bmTy m) := by
  cases m
  · exact PySem.F.plainAttrs_list
  · exact PySem.F.plainAttrs_dict
theorem bm_slot (m : Bm) : Slot (bmTy m) (bmNm m) (bmId m) := by
  cases m
  · exact PySem.F.slot_list_append
  · exact PySem.F.slot_dict_get
theorem bm_desc (m : Bm) : typeOf (.builtin (bmId m)) = pure (.type "method_descriptor") := by
  cases m
  · exact PySem.F.type_list_append
  · exact PySem.F.type_dict_get
theorem se_bm (k : XOk X Z) {m : Bm} {o e : Expr} {es : List Expr} {f : Fv} {g : Sw → Mem → Out (List Wv)} {apos cpos : Pos} (ho : PE X o (tE Z Wx f)) (ha : PA X (e :: es) (tA Z Wx g))
    (hbase : attributeBase o (bmNm m) X.env (eval o X.env) = eval o X.env)
    (hfew : ((backTo cpos (starEach (e :: es) X.env)).all (fun x => !x.1) && (backToKw cpos (keywordEach [] X.env)).all (fun x => x.1.isSome)
      && decide ((e :: es).length + ([] : List Keyword).length + (if ([] : List Keyword).isEmpty then 0 else 1) < 30)) = true)
    (hline : (apos.endLine == cpos.line) = true) (hs : starEach (e :: es) X.env = (false, eval e X.env) :: starEach es X.env) (hplain : (backTo cpos (starEach es X.env)).any (·.1) = false) :
    PE X (.Call (.Attribute o (bmNm m) apos) (e :: es) [] cpos) (tE Z Wx fun sw M => (f sw M).bind fun x M => .chk (bmT m x M) ((g sw M).bind fun ws M => bmW m x ws M)) := by
  refine ⟨fun pins s σ H Q I ⟨ι, sw, M, sr, R, h⟩ => ?_⟩
  have ht : tE Z Wx f σ H fun v H1 => ∃ ι1 M1 w, RM Z ι1 M1 H1 ∧ SR Z ι1 H1 sw σ ∧ WR Z ι1 H1 w v ∧ bmT m w M1 = true ∧ eOut Z Wx σ ι1 H1 ((g sw M1).bind fun ws M => bmW m w ws M) Q := tE.seqE sr R h fun x M1 v H1 ι1 e1 R1 q1 s1 h1 => by
    obtain ⟨c, h1⟩ := h1.chk
    exact ⟨ι1, M1, x, R1, s1, q1, c, h1⟩
  refine wpAny_Call_method_late hbase hfew hline rfl (thn (ho.run pins s σ H _ I ht) fun v s1 ⟨x, H1, I1, r1, ι1, M1, w, R1, sr1, q1, ty, h1⟩ => ?_)
  obtain ⟨h3, h4⟩ := bm_type I1 R1 q1 r1 ty
  refine ⟨bmTy m, bmId m, bm_pa m, bm_slot m, bm_desc m, h3, h4, ?_⟩
  have hA := ha.run cpos pins s1 σ H1 (fun xs H2 => rM Z (bmW m) x xs H2 Q) I1 (tA.seqE sr1 R1 h1 fun ws M2 vs H2 ι2 e2 R2 q2 s2 h2 => ⟨ι2, M2, w, ws, R2, q1.mono e2.le, q2, (prim_bm _ _ _ _).out h2⟩)
  rw [hs] at hA ⊢
  refine Calls.callWith_builtin (by show (false || (backTo cpos (starEach es X.env)).any (·.1)) = false; rw [hplain] <;> rfl) (Calls.evalArgs_plain ?_)
  exact thn hA fun us s2 ⟨vs, H2, I2, r2, q2⟩ => mt_bm k m pins s2 σ H2 x vs v us Q I2 r1 r2 q2
end
end MP
end
section
set_option Elab.async false
set_option linter.all false
set_option maxRecDepth 100000
/-! MP11: the rules for expressions, by the small Python's own syntax. -/
namespace MP
open PySem PySem.Spec PyProof.Rows L2

/-- what is wished of a refusal, as the hand layer has it -/
def wxO (Z : Zt) (Wx : Wish) : WX := fun cls _ σ H => ∃ c, cls = .ref (Z.exc c) ∧ Wx c σ H
structure Bx (X : Cx) (Z : Zt) (Wx : Wish) (G : Pg) : Prop extends XOk X Z where
  hS : Z.S = G.S
  nd : X.N.Nodup
  tk : Takes X (wxO Z Wx)
/-- a test -/
def evT (G : Pg) (C C1 : Nat → List Wv → Mem → Out Wv) (e : Ex) (σ : Sw) (M : Mem) : Out Bool := (evE G C C1 e σ M).bind fun x M => .ofO (truW G x M) M
abbrev TEx (Z : Zt) (Wx : Wish) (G : Pg) (C C1 : Nat → List Wv → Mem → Out Wv) (e : Ex) : TE := tE Z Wx (evE G C C1 e)
abbrev TAx (Z : Zt) (Wx : Wish) (G : Pg) (C C1 : Nat → List Wv → Mem → Out Wv) (e : El) : TA := tA Z Wx (evL G C C1 e)
abbrev TTx (Z : Zt) (Wx : Wish) (G : Pg) (C C1 : Nat → List Wv → Mem → Out Wv) (e : Ex) : TT := tT Z Wx (evT G C C1 e)
/-- a name of the def -/
def visB (sc : Scope) (x : Str) : Bool := match sc.names.lookup x with
  | some .local => true
  | some .cell => true
  | some .free => true
  | _ => false
def varB (N : List Str) (sc : Scope) (i : Nat) (x : Str) : Bool := decide (N[i]? = some x) && visB sc x && !(x == ("__debug__" : Str)) && !(x == ("__classdict__" : Str))
theorem varB_ok {N : List Str} {sc : Scope} {i : Nat} {x : Str} (h : varB N sc i x = true) : N[i]? = some x ∧ Vis sc x ∧ (x == ("__debug__" : Str)) = false ∧ (x == ("__classdict__" : Str)) = false := by
  unfold varB at h
  rw [Bool.and_eq_true, Bool.and_eq_true, Bool.and_eq_true] at h
  obtain ⟨⟨⟨h1, h2⟩, h3⟩, h4⟩ := h
  refine ⟨of_decide_eq_true h1, ?_, by simpa using h3, by simpa using h4⟩
  unfold visB at h2
  split at h2
  · rename_i e; exact .inl e
  · rename_i e; exact .inr (.inl e)
  · rename_i e; exact .inr (.inr e)
  · cases h2
/-- a global name -/
def gloB (env : Env) (x : Str) : Bool := decide (env.kindOf x = some .globalImplicit) && !(x == ("__debug__" : Str)) && decide (x ≠ "__name__")
theorem gloB_ok {X : Cx} {x : Str} (h : gloB X.env x = true) : Gl X x ∧ (x == ("__debug__" : Str)) = false ∧ x ≠ "__name__" := by
  unfold gloB at h
  rw [Bool.and_eq_true, Bool.and_eq_true] at h
  exact ⟨show X.env.kindOf x = some .globalImplicit from of_decide_eq_true h.1.1, by simpa using h.1.2, of_decide_eq_true h.2⟩
section
variable {X : Cx} {Z : Zt} {Wx : Wish} {G : Pg} {C C1 : Nat → List Wv → Mem → Out Wv} {a b c e : Expr} {es : List Expr} {ea eb ec : Ex} {el : El} {pos p p2 p3 : Pos}
theorem e_var (i : Nat) {x : Str} (h : varB X.N X.env.scope i x = true := by kernel_rfl) : PE X (.Name x pos) (TEx Z Wx G C C1 (.var i)) := by
  obtain ⟨h1, h2, h3, h4⟩ := varB_ok h
  have : evE G C C1 (.var i) = fun σ M => .ofO (getV i σ) M := by funext σ M; simp only [evE]
  rw [TEx, this]
  exact se_var h1 h2 h3 h4
theorem con_eq (w : Wv) : evE G C C1 (.con w) = fun _ M => .ok w M := by funext σ M; simp only [evE]
theorem e_int (i : Int) {j : Nat} : PE X (.Constant (.int i) j pos) (TEx Z Wx G C C1 (.con (.int i))) := by
  rw [TEx, con_eq]; exact se_con pe_int fun _ _ => .int i
theorem e_str (x : Str) {j : Nat} : PE X (.Constant (.str x) j pos) (TEx Z Wx G C C1 (.con (.str x))) := by
  rw [TEx, con_eq]; exact se_con pe_str fun _ _ => .str x
theorem e_bl (x : Bool) {j : Nat} : PE X (.Constant (.bool x) j pos) (TEx Z Wx G C C1 (.con (.bl x))) := by
  rw [TEx, con_eq]; exact se_con pe_bl fun _ _ => .bl x
theorem e_non {j : Nat} : PE X (.Constant .none j pos) (TEx Z Wx G C C1 (.con .non)) := by
  rw [TEx, con_eq]; exact se_con pe_non fun _ _ => .non
/-- a constant of the module -/
theorem e_glb {x : Str} {v : V} {u : Value} {w : Wv} (hc : G.con x = some w) (hm : X.mg x = some u) (r : RelV v u) (hw : ∀ ι H, WR Z ι H w v) (h : gloB X.env x = true := by kernel_rfl) : PE X (.Name x pos) (TEx Z Wx G C C1 (.glb x)) := by
  obtain ⟨h1, h2, h3⟩ := gloB_ok h
  have : evE G C C1 (.glb x) = fun _ M => .ok w M := by funext σ M; simp only [evE, hc]; rfl
  rw [TEx, this]
  exact se_con (pe_glob h1 hm r h2) hw
theorem a_nil : PA X [] (TAx Z Wx G C C1 .nil) := by
  have : evL G C C1 .nil = fun _ M => .ok [] M := by funext σ M; simp only [evL]
  rw [TAx, this]; exact sa_nil
theorem a_cons (ha : PE X a (TEx Z Wx G C C1 ea)) (hr : PA X es (TAx Z Wx G C C1 el)) (hs : starEach (a :: es) X.env = (false, eval a X.env) :: starEach es X.env := by rfl) : PA X (a :: es) (TAx Z Wx G C C1 (.cons ea el)) := by
  have : evL G C C1 (.cons ea el) = fun sw M => (evE G C C1 ea sw M).bind fun w M => (evL G C C1 el sw M).bind fun ws M => .ok (w :: ws) M := by funext σ M; simp only [evL]
  rw [TAx, this]; exact sa_cons ha hr hs
theorem e_tup {k : Nat} (ha : PA X es (TAx Z Wx G C C1 el)) : PE X (.Tuple es k pos) (TEx Z Wx G C C1 (.tup el)) := by
  have : evE G C C1 (.tup el) = fun sw M => (evL G C C1 el sw M).bind fun ws M => .chk (lenOk ws.length) (.ok (.tup ws) M) := by funext σ M; simp only [evE]
  rw [TEx, this]; exact se_tup ha
theorem e_lst (ha : PA X es (TAx Z Wx G C C1 el)) : PE X (.List es pos) (TEx Z Wx G C C1 (.lst el)) := by
  have : evE G C C1 (.lst el) = fun sw M => (evL G C C1 el sw M).bind fun ws M => .chk (lenOk ws.length) (.ok (.ref M.length) (M ++ [.lst ws])) := by funext σ M; simp only [evE]
  rw [TEx, this]; exact se_lst ha
theorem e_dict0 : PE X (.Dict [] [] pos) (TEx Z Wx G C C1 .dict0) := by
  have : evE G C C1 .dict0 = fun _ M => .ok (.ref M.length) (M ++ [.dct false []]) := by funext σ M; simp only [evE]
  rw [TEx, this]; exact se_dict0
theorem e_bin (k : Bx X Z Wx G) (o : Op) (ha : PE X a (TEx Z Wx G C C1 ea)) (hb : PE X b (TEx Z Wx G C C1 eb)) : PE X (.BinOp a (opOf o) b pos) (TEx Z Wx G C C1 (.bin o ea eb)) := by
  have : evE G C C1 (.bin o ea eb) = fun sw M => (evE G C C1 ea sw M).bind fun x M => (evE G C C1 eb sw M).bind fun y M => binW o x y M := by funext σ M; simp only [evE]
  rw [TEx, this]; exact se_bin (prim_bin o) (op_binW k.toXOk o) ha hb
theorem e_neg (ha : PE X a (TEx Z Wx G C C1 ea)) : PE X (.UnaryOp .USub a pos) (TEx Z Wx G C C1 (.neg ea)) := by
  have : evE G C C1 (.neg ea) = fun sw M => (evE G C C1 ea sw M).bind fun x M => .ofO ((toI x).map fun i => .int (-i)) M := by funext σ M; simp only [evE]
  rw [TEx, this]; exact se_un (fun _ _ => Prim.ofO) un_negW ha
theorem cmp_mark (o : Cm) (h : (o == .in_ || o == .nin) = false) (b : Expr) : behindInMarks (cmOf o) b = false := by
  cases o <;> first | exact nomark b | cases h
theorem e_cmp (k : Bx X Z Wx G) (o : Cm) (ha : PE X a (TEx Z Wx G C C1 ea)) (hb : PE X b (TEx Z Wx G C C1 eb)) (hm : behindInMarks (cmOf o) b = false := by kernel_rfl) : PE X (.Compare a [cmOf o] [b] pos) (TEx Z Wx G C C1 (.cmp o ea eb)) := by
  have : evE G C C1 (.cmp o ea eb) = fun sw M => (evE G C C1 ea sw M).bind fun x M => (evE G C C1 eb sw M).bind fun y M => cmpW G o x y M := by funext σ M; simp only [evE]
  rw [TEx, this]; exact se_cmp (prim_cmp o) (op_cmpW k.toXOk k.hS o) ha hb hm
theorem cmpW_bl {o : Cm} {x y r : Wv} {M M' : Mem} (h : cmpW G o x y M = .ok r M') : ∃ q, r = .bl q ∧ M' = M := by
  have g : ∀ z : Option Bool, ((Out.ofO z M).bind fun b M => .ok (.bl b) M) = .ok r M' → ∃ q, r = .bl q ∧ M' = M := fun z h => by
    cases z with
    | none => cases h
    | some q => cases h; exact ⟨q, rfl, rfl⟩
  exact g _ h
/-- a op b op c -/
theorem chain_read (k : Bx X Z Wx G) (o d : Cm) {σ : L2.St} {H : Hp} {Q : VK} (h : TEx Z Wx G C C1 (.cmp2 o d ea eb ec) σ H Q) :
    tChain (r2 Z (cmpW G o)) (r2 Z (cmpW G d)) (TEx Z Wx G C C1 ea) (TEx Z Wx G C C1 eb) (TEx Z Wx G C C1 ec) σ H Q := by
  obtain ⟨ι, sw, M, s, R, h⟩ := h
  simp only [evE] at h
  refine tE.seqE s R h fun x M1 v H1 ι1 e1 R1 q1 s1 h1 => tE.seqE s1 R1 h1 fun y M2 u H2 ι2 e2 R2 q2 s2 h2 => ?_
  refine ⟨ι2, M2, x, y, R2, q1.mono e2.le, q2, ?_⟩
  cases e : cmpW G o x y M2 with
  | exc c M' => exact absurd e (prim_cmp o x y M2 c M')
  | bad => rw [e] at h2; exact False.elim h2
  | ok r M3 =>
    obtain ⟨q, rfl, rfl⟩ := cmpW_bl e
    rw [e] at h2
    have h3 : eOut Z Wx σ ι2 H2 (if q = true then (evE G C C1 ec sw M3).bind fun z M => cmpW G d y z M else .ok (.bl q) M3) Q := h2
    intro w H3 ι3 e3 R3 q3
    cases q3
    refine ⟨q, rfl, ?_⟩
    cases q with
    | true =>
      rw [if_pos rfl] at h3 ⊢
      refine tE.seqE (s2.mono e3.le) R3 (h3.shift e3) fun z M4 z' H4 ι4 e4 R4 q4 s4 h4 => ⟨ι4, M4, y, z, R4, (q2.mono e3.le).mono e4.le, q4, (prim_cmp d y z M4).out h4⟩
    | false =>
      rw [if_neg Bool.false_ne_true] at h3 ⊢
      exact (h3.shift e3).val R3 (.bl false)
theorem e_cmp2 (k : Bx X Z Wx G) (o d : Cm) (ha : PE X a (TEx Z Wx G C C1 ea)) (hb : PE X b (TEx Z Wx G C C1 eb)) (hc : PE X c (TEx Z Wx G C C1 ec)) (hm : lastMarks [cmOf o, cmOf d] [b, c] = false := by kernel_rfl) :
    PE X (.Compare a [cmOf o, cmOf d] [b, c] pos) (TEx Z Wx G C C1 (.cmp2 o d ea eb ec)) :=
  (pe_chain (op_cmpW k.toXOk k.hS o) (op_cmpW k.toXOk k.hS d) ha hb hc hm).weak fun σ H Q h => chain_read k o d h
/-! ### truth -/
theorem truW_V (k : Bx X Z Wx G) {ι : List Addr} {H : Hp} {M : Mem} {w : Wv} {x : V} {b : Bool} (R : RM Z ι M H) (wr : WR Z ι H w x) (e : truW G w M = some b) : TruV X.K x H b := by
  rw [k.K]
  cases wr with
  | non => cases e; rfl
  | bl c => cases e; rfl
  | int i => cases e; rfl
  | str y =>
    simp only [truW] at e
    split at e
    · rename_i hz
      cases e
      refine ⟨hz, ?_⟩
      cases hq : y.length <;> simp <;> omega
    · cases e
  | tup h t =>
    cases e
    refine .inr (.inl ⟨_, h, ?_⟩)
    cases t <;> rfl
  | ref h =>
    simp only [truW] at e
    split at e
    · rename_i ws hw
      cases e
      obtain ⟨vs, h1, h2⟩ := R.ob _ _ _ hw h
      refine .inl ⟨vs, SqL.of h1, ?_⟩
      cases h2 <;> rfl
    · cases e
  | scr h =>
    cases e
    refine .inl ⟨_, h.sq, ?_⟩
    rw [k.hS]
    cases G.S <;> rfl
theorem e_one {op : BoolOp} {t : TE} (h : PE X a t) : PE X (.BoolOp op [a] pos) t := pe_one h
theorem e_and (k : Bx X Z Wx G) (ha : PE X a (TEx Z Wx G C C1 ea)) (hb : PE X (.BoolOp .And (b :: es) pos) (TEx Z Wx G C C1 eb)) : PE X (.BoolOp .And (a :: b :: es) pos) (TEx Z Wx G C C1 (.and ea eb)) :=
  (pe_andT ha hb).weak fun σ H Q ⟨ι, sw, M, s, R, h⟩ => by
    simp only [evE] at h
    refine tE.seqE s R h fun x M1 v H1 ι1 e1 R1 q1 s1 h1 => ?_
    obtain ⟨q, e, h1⟩ := h1.ofOb
    refine ⟨q, truW_V k R1 q1 e, ?_⟩
    cases q with
    | true => exact ⟨ι1, sw, M1, s1, R1, h1⟩
    | false => exact h1.val R1 q1
theorem e_or (k : Bx X Z Wx G) (ha : PE X a (TEx Z Wx G C C1 ea)) (hb : PE X (.BoolOp .Or (b :: es) pos) (TEx Z Wx G C C1 eb)) : PE X (.BoolOp .Or (a :: b :: es) pos) (TEx Z Wx G C C1 (.or ea eb)) :=
  (pe_orT ha hb).weak fun σ H Q ⟨ι, sw, M, s, R, h⟩ => by
    simp only [evE] at h
    refine tE.seqE s R h fun x M1 v H1 ι1 e1 R1 q1 s1 h1 => ?_
    obtain ⟨q, e, h1⟩ := h1.ofOb
    refine ⟨q, truW_V k R1 q1 e, ?_⟩
    cases q with
    | true => exact h1.val R1 q1
    | false => exact ⟨ι1, sw, M1, s1, R1, h1⟩
theorem e_not (k : Bx X Z Wx G) (ha : PE X a (TEx Z Wx G C C1 ea)) : PE X (.UnaryOp .Not a pos) (TEx Z Wx G C C1 (.not ea)) :=
  (pe_notT ha).weak fun σ H Q ⟨ι, sw, M, s, R, h⟩ => by
    simp only [evE] at h
    refine tE.seqE s R h fun x M1 v H1 ι1 e1 R1 q1 s1 h1 => ?_
    obtain ⟨w, e, h1⟩ := h1.ofO
    obtain ⟨q, e2, rfl⟩ := Option.map_eq_some_iff.mp e
    exact ⟨q, truW_V k R1 q1 e2, h1.val R1 (.bl _)⟩
/-! ### tests -/
theorem bOut.ofO {σ : L2.St} {ι : List Addr} {H : Hp} {M : Mem} {o : Option Bool} {Q : Bool → Hp → Prop} (h : bOut Z Wx σ ι H (.ofO o M) Q) : ∃ w, o = some w ∧ bOut Z Wx σ ι H (.ok w M) Q := by
  cases o with
  | some w => exact ⟨w, rfl, h⟩
  | none => exact False.elim h
theorem t_val (k : Bx X Z Wx G) (ha : PE X a (TEx Z Wx G C C1 ea)) (he : ∀ whole, isTrue a X.env whole = (do let v ← whole; standAt a.pos; holding [v] (truthy v)) := by intro _; rfl) : PT X a (TTx Z Wx G C C1 ea) :=
  (pt_truth ha he).weak fun σ H Q ⟨ι, sw, M, s, R, h⟩ => tE.seqB s R h fun x M1 v H1 ι1 e1 R1 q1 s1 h1 => by
    obtain ⟨q, e, h1⟩ := h1.ofO
    exact ⟨q, truW_V k R1 q1 e, h1 H1 ι1 (Ext.refl _ _) R1⟩
theorem t_cmp (k : Bx X Z Wx G) (o : Cm) (ha : PE X a (TEx Z Wx G C C1 ea)) (hb : PE X b (TEx Z Wx G C C1 eb)) (hm : behindInMarks (cmOf o) b = false := by kernel_rfl) : PT X (.Compare a [cmOf o] [b] pos) (TTx Z Wx G C C1 (.cmp o ea eb)) :=
  (pt_cmpR (op_cmpW k.toXOk k.hS o) ha hb hm).weak fun σ H Q ⟨ι, sw, M, s, R, h⟩ => by
    have e : evT G C C1 (.cmp o ea eb) sw M = (evE G C C1 ea sw M).bind fun x M => (evE G C C1 eb sw M).bind fun y M => (cmpW G o x y M).bind fun r M => .ofO (truW G r M) M := by
      unfold evT
      simp only [evE]
      cases evE G C C1 ea sw M with
      | ok w M1 =>
        simp only [Out.bind_ok]
        cases evE G C C1 eb sw M1 with
        | ok w M2 => simp only [Out.bind_ok]
        | exc c M2 => rfl
        | bad => rfl
      | exc c M1 => rfl
      | bad => rfl
    rw [e] at h
    refine tE.seqB s R h fun x M1 v H1 ι1 e1 R1 q1 s1 h1 => tE.seqB s1 R1 h1 fun y M2 u H2 ι2 e2 R2 q2 s2 h2 => ⟨ι2, M2, x, y, R2, q1.mono e2.le, q2, ?_⟩
    cases e : cmpW G o x y M2 with
    | exc c M' => exact absurd e (prim_cmp o x y M2 c M')
    | bad => rw [e] at h2; exact False.elim h2
    | ok r M3 =>
      obtain ⟨q, rfl, rfl⟩ := cmpW_bl e
      rw [e] at h2
      intro w H3 ι3 e3 R3 q3
      cases q3
      exact ⟨q, rfl, (h2.shift e3) H3 ι3 (Ext.refl _ _) R3⟩
theorem t_cmp2 (k : Bx X Z Wx G) (o d : Cm) (ha : PE X a (TEx Z Wx G C C1 ea)) (hb : PE X b (TEx Z Wx G C C1 eb)) (hc : PE X c (TEx Z Wx G C C1 ec)) (hm : lastMarks [cmOf o, cmOf d] [b, c] = false := by kernel_rfl) :
    PT X (.Compare a [cmOf o, cmOf d] [b, c] pos) (TTx Z Wx G C C1 (.cmp2 o d ea eb ec)) :=
  (pt_chain (op_cmpW k.toXOk k.hS o) (op_cmpW k.toXOk k.hS d) ha hb hc hm).weak fun σ H Q ⟨ι, sw, M, s, R, h⟩ => by
    refine chain_read k o d ⟨ι, sw, M, s, R, ?_⟩
    unfold evT at h
    cases e : evE G C C1 (.cmp2 o d ea eb ec) sw M with
    | bad => rw [e] at h; exact h
    | exc c M1 => rw [e] at h; exact h
    | ok w M1 =>
      rw [e] at h
      obtain ⟨q, e2, h⟩ := bOut.ofO h
      intro v H1 ι1 e1 R1 q1
      have hw : ∃ b, w = .bl b := by
        simp only [evE] at e
        cases ex : evE G C C1 ea sw M with
        | ok x Ma =>
          rw [ex] at e
          simp only [Out.bind_ok] at e
          cases ey : evE G C C1 eb sw Ma with
          | ok y Mb =>
            rw [ey] at e
            simp only [Out.bind_ok] at e
            cases ec' : cmpW G o x y Mb with
            | ok r Mc =>
              obtain ⟨q, rfl, rfl⟩ := cmpW_bl ec'
              rw [ec'] at e
              have e : (if q = true then (evE G C C1 ec sw Mc).bind fun z M => cmpW G d y z M else .ok (.bl q) Mc) = .ok w M1 := e
              cases q with
              | true =>
                rw [if_pos rfl] at e
                cases ez : evE G C C1 ec sw Mc with
                | ok z Md => rw [ez] at e; obtain ⟨q, rfl, _⟩ := cmpW_bl e; exact ⟨q, rfl⟩
                | exc _ _ => rw [ez] at e; cases e
                | bad => rw [ez] at e; cases e
              | false => rw [if_neg Bool.false_ne_true] at e; cases e; exact ⟨_, rfl⟩
            | exc _ _ => rw [ec'] at e; cases e
            | bad => rw [ec'] at e; cases e
          | exc _ _ => rw [ey] at e; cases e
          | bad => rw [ey] at e; cases e
        | exc _ _ => rw [ex] at e; cases e
        | bad => rw [ex] at e; cases e
      obtain ⟨bb, rfl⟩ := hw
      cases q1
      cases e2
      exact ⟨_, rfl, h H1 ι1 e1 R1⟩
theorem t_one {op : BoolOp} (ha : PT X a (TTx Z Wx G C C1 ea)) : PW X (.BoolOp op [a] pos) (TTx Z Wx G C C1 ea) := by
  cases op
  · exact pw_and1 ha
  · exact pw_or1 ha
theorem evT_and (sw : Sw) (M : Mem) : evT G C C1 (.and ea eb) sw M = (evT G C C1 ea sw M).bind fun c M => if c then evT G C C1 eb sw M else .ok false M := by
  unfold evT
  simp only [evE]
  cases evE G C C1 ea sw M with
  | ok w M1 =>
    simp only [Out.bind_ok]
    cases e : truW G w M1 with
    | none => rfl
    | some q =>
      cases q with
      | true => rfl
      | false => show Out.ofO (truW G w M1) M1 = _; rw [e]; rfl
  | exc c M1 => rfl
  | bad => rfl
theorem evT_or (sw : Sw) (M : Mem) : evT G C C1 (.or ea eb) sw M = (evT G C C1 ea sw M).bind fun c M => if c then .ok true M else evT G C C1 eb sw M := by
  unfold evT
  simp only [evE]
  cases evE G C C1 ea sw M with
  | ok w M1 =>
    simp only [Out.bind_ok]
    cases e : truW G w M1 with
    | none => rfl
    | some q =>
      cases q with
      | true => show Out.ofO (truW G w M1) M1 = _; rw [e]; rfl
      | false => rfl
  | exc c M1 => rfl
  | bad => rfl
theorem evT_not (sw : Sw) (M : Mem) : evT G C C1 (.not ea) sw M = (evT G C C1 ea sw M).bind fun c M => .ok (!c) M := by
  unfold evT
  simp only [evE]
  cases evE G C C1 ea sw M with
  | ok w M1 =>
    simp only [Out.bind_ok]
    cases e : truW G w M1 with
    | none => rfl
    | some q => rfl
  | exc c M1 => rfl
  | bad => rfl
theorem t_and (ha : PT X a (TTx Z Wx G C C1 ea)) (hb : PW X (.BoolOp .And (b :: es) pos) (TTx Z Wx G C C1 eb)) : PW X (.BoolOp .And (a :: b :: es) pos) (TTx Z Wx G C C1 (.and ea eb)) :=
  (pw_and ha hb).weak fun σ H Q ⟨ι, sw, M, s, R, h⟩ => by
    rw [evT_and] at h
    refine tT.seqB s R h fun q M1 H1 ι1 e1 R1 s1 h1 => ?_
    cases q with
    | true => exact ⟨ι1, sw, M1, s1, R1, h1⟩
    | false => exact h1 H1 ι1 (Ext.refl _ _) R1
theorem t_or (ha : PT X a (TTx Z Wx G C C1 ea)) (hb : PW X (.BoolOp .Or (b :: es) pos) (TTx Z Wx G C C1 eb)) : PW X (.BoolOp .Or (a :: b :: es) pos) (TTx Z Wx G C C1 (.or ea eb)) :=
  (pw_or ha hb).weak fun σ H Q ⟨ι, sw, M, s, R, h⟩ => by
    rw [evT_or] at h
    refine tT.seqB s R h fun q M1 H1 ι1 e1 R1 s1 h1 => ?_
    cases q with
    | true => exact h1 H1 ι1 (Ext.refl _ _) R1
    | false => exact ⟨ι1, sw, M1, s1, R1, h1⟩
theorem t_w (h : PW X a (TTx Z Wx G C C1 ea)) : PT X a (TTx Z Wx G C C1 ea) := h.pt
theorem t_not (ha : PT X a (TTx Z Wx G C C1 ea)) : PT X (.UnaryOp .Not a pos) (TTx Z Wx G C C1 (.not ea)) :=
  (pt_not ha).weak fun σ H Q ⟨ι, sw, M, s, R, h⟩ => by
    rw [evT_not] at h
    exact tT.seqB s R h fun q M1 H1 ι1 e1 R1 s1 h1 => h1 H1 ι1 (Ext.refl _ _) R1
theorem e_ife (hc : PT X c (TTx Z Wx G C C1 ec)) (ha : PE X a (TEx Z Wx G C C1 ea)) (hb : PE X b (TEx Z Wx G C C1 eb)) : PE X (.IfExp c a b pos) (TEx Z Wx G C C1 (.ife ec ea eb)) :=
  (pe_ifExp hc ha hb).weak fun σ H Q ⟨ι, sw, M, s, R, h⟩ => by
    have e : evE G C C1 (.ife ec ea eb) sw M = (evT G C C1 ec sw M).bind fun c M => if c then evE G C C1 ea sw M else evE G C C1 eb sw M := by
      unfold evT
      simp only [evE]
      cases evE G C C1 ec sw M with
      | ok w M1 => rfl
      | exc c M1 => rfl
      | bad => rfl
    rw [e] at h
    refine tT.seqE s R h fun q M1 H1 ι1 e1 R1 s1 h1 => ?_
    cases q with
    | true => exact ⟨ι1, sw, M1, s1, R1, h1⟩
    | false => exact ⟨ι1, sw, M1, s1, R1, h1⟩
/-! ### subscripts -/
theorem e_sub (k : Bx X Z Wx G) (ha : PE X a (TEx Z Wx G C C1 ea)) (hb : PE X b (TEx Z Wx G C C1 eb)) (hs : PlainIx b := by intro _ _; rfl) : PE X (.Subscript a b pos) (TEx Z Wx G C C1 (.sub ea eb)) := by
  have : evE G C C1 (.sub ea eb) = fun sw M => (evE G C C1 ea sw M).bind fun x M => (evE G C C1 eb sw M).bind fun y M => subW G x y M := by funext σ M; simp only [evE]
  rw [TEx, this]; exact se_ix prim_sub (ix_subW k.toXOk k.hS) ha hb hs
abbrev evO (G : Pg) (C C1 : Nat → List Wv → Mem → Out Wv) (e : Ex) (σ : Sw) (M : Mem) : Out (Option Int) := if e.isNo then .ok none M else (evE G C C1 e σ M).bind fun y M => .ofO ((toI y).map some) M
theorem o_no : PO X none (tO Z Wx (evO G C C1 .no)) := so_none
theorem o_some (ha : PE X a (TEx Z Wx G C C1 ea)) (hn : ea.isNo = false := by rfl) : PO X (some a) (tO Z Wx (evO G C C1 ea)) := by
  have : evO G C C1 ea = fun σ M => (evE G C C1 ea σ M).bind fun y M => .ofO ((toI y).map some) M := by funext σ M; unfold evO; rw [hn]; rfl
  rw [this]; exact so_some ha
theorem e_slc (k : Bx X Z Wx G) {lo hi : Option Expr} {l h : Ex} (ha : PE X a (TEx Z Wx G C C1 ea)) (hl : PO X lo (tO Z Wx (evO G C C1 l))) (hh : PO X hi (tO Z Wx (evO G C C1 h))) : PE X (.Subscript a (.Slice lo hi none p) pos) (TEx Z Wx G C C1 (.slc ea l h)) := by
  have : evE G C C1 (.slc ea l h) = fun sw M => (evE G C C1 ea sw M).bind fun x M => (evO G C C1 l sw M).bind fun l M => (evO G C C1 h sw M).bind fun h M => slcW x l h M := by funext σ M; simp only [evE]
  rw [TEx, this]; exact se_slc k.toXOk ha hl hh
theorem e_rev (k : Bx X Z Wx G) {kk : Nat} {p1 p2 p3 : Pos} (ha : PE X a (TEx Z Wx G C C1 ea)) : PE X (.Subscript a (.Slice none none (some (.UnaryOp .USub (.Constant (.int 1) kk p1) p2)) p3) pos) (TEx Z Wx G C C1 (.srev false ea)) := by
  have : evE G C C1 (.srev false ea) = fun sw M => (evE G C C1 ea sw M).bind fun x M => revW false x M := by funext σ M; simp only [evE]
  rw [TEx, this]; exact se_rev k.toXOk ha
theorem e_down (k : Bx X Z Wx G) {kk k2 : Nat} {p0 p1 p2 p3 : Pos} (ha : PE X a (TEx Z Wx G C C1 ea)) : PE X (.Subscript a (.Slice none (some (.Constant (.int 0) k2 p0)) (some (.UnaryOp .USub (.Constant (.int 1) kk p1) p2)) p3) pos) (TEx Z Wx G C C1 (.srev true ea)) := by
  have : evE G C C1 (.srev true ea) = fun sw M => (evE G C C1 ea sw M).bind fun x M => revW true x M := by funext σ M; simp only [evE]
  rw [TEx, this]; exact se_down k.toXOk ha
/-! ### built-ins, methods, isinstance -/
def biB : Bi → Bool
  | .tuple => false
  | .str => false
  | .int => false
  | .sset => false
  | _ => true
def biNm : Bi → Str
  | .len => "len"
  | .all => "all"
  | .any => "any"
  | .sum => "sum"
  | .min => "min"
  | .max => "max"
  | .sorted => "sorted"
  | .abs => "abs"
  | .list => "list"
  | .dict => "dict"
  | .tuple => "tuple"
  | .str => "str"
  | .int => "int"
  | .sset => "set"
def biV : Bi → Value
  | .len => .builtin "len"
  | .all => .builtin "all"
  | .any => .builtin "any"
  | .sum => .builtin "sum"
  | .min => .builtin "min"
  | .max => .builtin "max"
  | .sorted => .builtin "sorted"
  | .abs => .builtin "abs"
  | .list => .type "list"
  | .dict => .type "dict"
  | .tuple => .type "tuple"
  | .str => .type "str"
  | .int => .type "int"
  | .sset => .type "set"
theorem biV_boot (o : Bi) : bootBuiltins (biNm o) = some (biV o) := by cases o <;> kernel_rfl
theorem call_bi (k : XOk X Z) (hS : Z.S = G.S) (o : Bi) (h : biB o = true) : CallR X (biV o) (rN Z (biW G o)) := by
  cases o
  · exact cb_len k hS
  · exact cb_all k
  · exact cb_any k
  · exact cb_sum k
  · exact cb_min k hS
  · exact cb_max k hS
  · exact cb_sorted k hS
  · exact cb_abs
  · exact cb_list k hS
  · exact cb_dict k
  all_goals cases h
theorem e_bi (k : Bx X Z Wx G) (o : Bi) (hm : X.mg (biNm o) = none) (ha : PA X (e :: es) (TAx Z Wx G C C1 el)) (ho : biB o = true := by rfl) (hg : gloB X.env (biNm o) = true := by kernel_rfl)
    (he : starEach (e :: es) X.env = (false, eval e X.env) :: starEach es X.env := by rfl) (hpl : (backTo pos (starEach es X.env)).any (·.1) = false := by rfl) : PE X (.Call (.Name (biNm o) p) (e :: es) [] pos) (TEx Z Wx G C C1 (.bi o el)) := by
  obtain ⟨h1, h2, h3⟩ := gloB_ok hg
  have : evE G C C1 (.bi o el) = fun sw M => (evL G C C1 el sw M).bind fun ws M => biW G o ws M := by funext σ M; simp only [evE]
  rw [TEx, this]
  have hb := biV_boot o
  have hc := call_bi (G := G) k.toXOk k.hS o ho
  cases o
  · exact se_callB (prim_bi _) hc h1 hm hb ha h3 h2 he hpl
  · exact se_callB (prim_bi _) hc h1 hm hb ha h3 h2 he hpl
  · exact se_callB (prim_bi _) hc h1 hm hb ha h3 h2 he hpl
  · exact se_callB (prim_bi _) hc h1 hm hb ha h3 h2 he hpl
  · exact se_callB (prim_bi _) hc h1 hm hb ha h3 h2 he hpl
  · exact se_callB (prim_bi _) hc h1 hm hb ha h3 h2 he hpl
  · exact se_callB (prim_bi _) hc h1 hm hb ha h3 h2 he hpl
  · exact se_callB (prim_bi _) hc h1 hm hb ha h3 h2 he hpl
  · exact se_callTy (prim_bi _) hc h1 hm hb ha h3 h2 he hpl
  · exact se_callTy (prim_bi _) hc h1 hm hb ha h3 h2 he hpl
  all_goals cases ho
def kdNm : Kd → Str
  | .int => "int"
  | .bool => "bool"
  | .str => "str"
  | .tuple => "tuple"
  | .list => "list"
theorem kd_boot (o : Kd) : bootBuiltins (kdNm o) = some (.type (kdT o)) := by cases o <;> kernel_rfl
theorem e_isi (k : Bx X Z Wx G) (o : Kd) (hm : X.mg "isinstance" = none) (hmx : X.mg (kdNm o) = none) (ha : PE X a (TEx Z Wx G C C1 ea)) (hg : gloB X.env "isinstance" = true := by kernel_rfl) (hgx : gloB X.env (kdNm o) = true := by kernel_rfl)
    (he : starEach [a, .Name (kdNm o) p2] X.env = (false, eval a X.env) :: starEach [.Name (kdNm o) p2] X.env := by rfl) (he2 : starEach [.Name (kdNm o) p2] X.env = (false, eval (.Name (kdNm o) p2) X.env) :: starEach [] X.env := by rfl) (hpl : (backTo pos (starEach [.Name (kdNm o) p2] X.env)).any (·.1) = false := by rfl) :
    PE X (.Call (.Name "isinstance" p) [a, .Name (kdNm o) p2] [] pos) (TEx Z Wx G C C1 (.isi o ea)) := by
  obtain ⟨h1, h2, h3⟩ := gloB_ok hg
  obtain ⟨g1, g2, g3⟩ := gloB_ok hgx
  have : evE G C C1 (.isi o ea) = fun sw M => (evE G C C1 ea sw M).bind fun x M => .ofO ((isiW o x M).map .bl) M := by funext σ M; simp only [evE]
  rw [TEx, this]
  exact se_isi k.toXOk h1 hm g1 hmx (kd_boot o) ha g3 g2 he he2 hpl
theorem e_bm (k : Bx X Z Wx G) (m : Bm) {apos : Pos} (ho : PE X a (TEx Z Wx G C C1 ea)) (ha : PA X (e :: es) (TAx Z Wx G C C1 el))
    (hbase : attributeBase a (bmNm m) X.env (eval a X.env) = eval a X.env := by rfl)
    (hfew : ((backTo pos (starEach (e :: es) X.env)).all (fun x => !x.1) && (backToKw pos (keywordEach [] X.env)).all (fun x => x.1.isSome)
      && decide ((e :: es).length + ([] : List Keyword).length + (if ([] : List Keyword).isEmpty then 0 else 1) < 30)) = true := by rfl)
    (hline : (apos.endLine == pos.line) = true := by rfl) (hs : starEach (e :: es) X.env = (false, eval e X.env) :: starEach es X.env := by rfl) (hplain : (backTo pos (starEach es X.env)).any (·.1) = false := by rfl) :
    PE X (.Call (.Attribute a (bmNm m) apos) (e :: es) [] pos) (TEx Z Wx G C C1 (.bm m ea el)) := by
  have : evE G C C1 (.bm m ea el) = fun sw M => (evE G C C1 ea sw M).bind fun x M => .chk (bmT m x M) ((evL G C C1 el sw M).bind fun ws M => bmW m x ws M) := by funext σ M; simp only [evE]
  rw [TEx, this]
  exact se_bm k.toXOk ho ha hbase hfew hline hs hplain
end
end MP
end
section
set_option Elab.async false
set_option linter.all false
set_option maxRecDepth 100000
/-! MP12: attributes, calls, methods, instances made. -/
namespace MP
open PySem PySem.Spec PyProof.Rows L2

/-- a def's end -/
def cOut (Z : Zt) (ι : List Addr) (H : Hp) (r : Out Wv) (Q : VK) (E : XK) : Prop := match r with
  | .ok w M => ∀ v H' ι', Ext ι ι' H H' → RM Z ι' M H' → WR Z ι' H' w v → Q v H'
  | .exc c M => ∀ H' ι' d, Ext ι ι' H H' → RM Z ι' M H' → E (.ref (Z.exc c)) d H'
  | .bad => False
/-- a def's promise: what the small Python reckons -/
def spI (Z : Zt) (F : List Wv → Mem → Out Wv) : Sp := fun vs H Q E => ∃ ι M ws, RM Z ι M H ∧ WsR Z ι H ws vs ∧ cOut Z ι H (F ws M) Q E
/-- a callee -/
structure Cal (P : Program) (w : World) (K : PySem.W.Frag) (mg : Str → Option Value) (base : Heap) (A : Around) (Z : Zt) (F : List Wv → Mem → Out Wv) (f : Addr) (dws : List Wv) : Prop where
  ex : ∃ n fd ps ds dvs, FnOk P w K mg base (L2.CX P w) n f fd ps (spI Z F) ∧ Room n A ∧ Binds K fd ps ds ∧ Vals dvs ds ∧ ∀ ι H, WsR Z ι H dws dvs
/-- .. by a name of the module -/
structure CalG (P : Program) (w : World) (K : PySem.W.Frag) (mg : Str → Option Value) (base : Heap) (A : Around) (Z : Zt) (F : List Wv → Mem → Out Wv) (x : Str) (dws : List Wv) : Prop where
  ex : ∃ f, mg x = some (.ref f) ∧ PySem.W.keepIn K (.ref f) = true ∧ Cal P w K mg base A Z F f dws
section
variable {X : Cx} {Z : Zt} {Wx : Wish} {G : Pg} {C C1 : Nat → List Wv → Mem → Out Wv} {a b c e : Expr} {es : List Expr} {ea eb ec : Ex} {el : El} {pos p p2 p3 apos : Pos}
variable {pins : List (Addr × Obj)} {σ : L2.St} {H : Hp} {s : Shared} {ι : List Addr} {M : Mem} {Q : VK}
theorem FsR.look {fs : List (Str × Wv)} {vs : List (Str × V)} {f : Str} (r : FsR Z ι H fs vs) : (∀ w, fs.lookup f = some w → ∃ v, vs.lookup f = some v ∧ WR Z ι H w v) ∧ (fs.lookup f = none → vs.lookup f = none) := by
  induction r with
  | nil => exact ⟨fun w h => (by cases h), fun _ => rfl⟩
  | @cons p q ps qs h t ih =>
    obtain ⟨n1, w1⟩ := p
    obtain ⟨n2, v2⟩ := q
    obtain ⟨e, hw⟩ := h
    simp only at e hw
    subst e
    simp only [List.lookup_cons]
    cases hc : f == n1 with
    | true => exact ⟨fun w h => (by cases h; exact ⟨v2, rfl, hw⟩), fun h => (by cases h)⟩
    | false => exact ih
theorem FsR.put {fs : List (Str × Wv)} {vs : List (Str × V)} {f : Str} {w : Wv} {v : V} (r : FsR Z ι H fs vs) (hw : WR Z ι H w v) : FsR Z ι H (MP.putF f w fs) (L2.putF f v vs) := by
  induction r with
  | nil => exact .cons ⟨rfl, hw⟩ .nil
  | @cons p q ps qs h t ih =>
    obtain ⟨n1, w1⟩ := p
    obtain ⟨n2, v2⟩ := q
    obtain ⟨e, hw1⟩ := h
    simp only at e hw1
    subst e
    unfold MP.putF L2.putF
    by_cases hc : n1 = f
    · subst hc
      rw [if_pos rfl, if_pos rfl]
      exact .cons ⟨rfl, hw⟩ t
    · rw [if_neg hc, if_neg hc]
      exact .cons ⟨rfl, hw1⟩ ih
/-- the classes may have an attribute of that name -/
def AtOk (Z : Zt) (G : Pg) (f : Str) : Prop := ∀ c k, G.cls c = some k → Cls Z.K (Z.cls c) ∧ NoAttr Z.K (Z.cls c) f
theorem attr_at {x : Wv} {v : V} {f : Str} {w : Wv} {M1 : Mem} (R : RM Z ι M H) (hx : WR Z ι H x v) (h : attrW G x f M = .ok w M1) : M1 = M ∧ ∃ l c fs a dx vs u, x = .ref l ∧ v = .ref a ∧ M[l]? = some (.ins c fs) ∧ ι[l]? = some a ∧ (G.cls c).isSome = true ∧ H a = some (.ins (Z.cls c) dx vs) ∧ FsR Z ι H fs vs ∧ vs.lookup f = some u ∧ WR Z ι H w u := by
  cases hx with
  | ref hl =>
    rename_i l a
    simp only [attrW] at h
    split at h
    · rename_i c fs hM
      cases hc : (G.cls c).isSome with
      | false => rw [hc] at h; cases h
      | true =>
        rw [hc] at h
        have h : Out.ofO (fs.lookup f) M = .ok w M1 := h
        cases e : fs.lookup f with
        | none => rw [e] at h; cases h
        | some y =>
          rw [e] at h
          cases h
          obtain ⟨dx, vs, h1, h2⟩ := R.ob _ _ _ hM hl
          obtain ⟨u, g1, g2⟩ := h2.look.1 _ e
          exact ⟨rfl, l, c, fs, a, dx, vs, u, rfl, rfl, hM, hl, hc, h1, h2, g1, g2⟩
    · cases h
  | _ => cases h
theorem prim_attr (x : Wv) (f : Str) (M : Mem) : Prim (attrW G x f M) := by
  unfold attrW
  split
  · split
    · exact Prim.ofO.chk
    · exact Prim.bad
  · exact Prim.bad
theorem e_attr (k : Bx X Z Wx G) {f : Str} (hf : AtOk Z G f) (ha : PE X a (TEx Z Wx G C C1 ea)) (hb : attributeBase a f X.env (eval a X.env) = eval a X.env := by rfl) : PE X (.Attribute a f pos) (TEx Z Wx G C C1 (.attr ea f)) := by
  have : evE G C C1 (.attr ea f) = fun sw M => (evE G C C1 ea sw M).bind fun x M => attrW G x f M := by funext σ M; simp only [evE]
  rw [TEx, this]
  refine (pe_fld ha hb).weak fun σ H Q ⟨ι, sw, M, s, R, h⟩ => tE.seqE s R h fun x M1 v H1 ι1 e1 R1 q1 s1 h1 => ?_
  have h2 := (prim_attr x f M1).out h1
  cases e : attrW G x f M1 with
  | ok w M2 =>
    obtain ⟨rfl, l, c, fs, a, dx, vs, u, rfl, rfl, hM, hl, hc, h3, h4, h5, h6⟩ := attr_at R1 q1 e
    rw [e] at h2
    obtain ⟨kk, hk⟩ := Option.isSome_iff_exists.mp hc
    obtain ⟨g1, g2⟩ := hf c kk hk
    rw [← k.K] at g1 g2
    exact ⟨a, Z.cls c, dx, vs, u, rfl, h3, g1, g2, h5, h2.val R1 h6⟩
  | exc c M2 => rw [e] at h2; exact False.elim h2
  | bad => rw [e] at h2; exact False.elim h2
/-! ### calls -/
theorem run_cal (k : Bx X Z Wx G) {F : List Wv → Mem → Out Wv} {f : Addr} {fd : FuncData} {ps : List Str} {n : Nat} {args : Args} {us : List Value} {vs : List V} {ws : List Wv} {ι : List Addr}
    (Fn : FnOk X.prog X.w X.K X.mg X.base (L2.CX X.prog X.w) n f fd ps (spI Z F)) (hr : Room n X.A) (I : L2.Inv X pins σ H s) (hb : BindsTo s fd args (ps.zip us)) (rv : Vals vs us) (R : RM Z ι M H) (wr : WsR Z ι H ws vs) (h : eOut Z Wx σ ι H (F ws M) Q) :
    codeAny (model X.prog X.w) X.A (.call (.ref f) args) (fun r s' => match r with | .ok (.ret u) => EP X pins σ Q u s' | .ok _ => False | .error e => X.xe e s') s := by
  refine codeAny_mono (Fn.run X.A X.stack s H args us vs Q (WE (wxO Z Wx) σ) hr I.env0 hb rv ⟨ι, M, ws, R, wr, ?_⟩) fun r s' hq => ?_
  · cases e : F ws M with
    | ok w M1 => rw [e] at h; exact h
    | exc c M1 => rw [e] at h; exact fun H' ι' d x R => ⟨c, rfl, h H' ι' x R⟩
    | bad => rw [e] at h; exact h
  · cases r with
    | error e => exact passAt k.tk σ pins H s e s' I hq
    | ok fl =>
      cases fl with
      | ret u => exact I.after hq
      | next => exact False.elim hq
      | brk => exact False.elim hq
      | cont => exact False.elim hq
theorem call_len {F : List Wv → Mem → Out Wv} {f : Addr} {fd : FuncData} {ps : List Str} {n : Nat} {vs : List V} {ws : List Wv} {P : Program} {w : World} {K : PySem.W.Frag} {mg : Str → Option Value} {base : Heap}
    (Fn : FnOk P w K mg base (L2.CX P w) n f fd ps (spI Z F)) (R : RM Z ι M H) (wr : WsR Z ι H ws vs) (h : eOut Z Wx σ ι H (F ws M) Q) : vs.length = ps.length := by
  refine Fn.len vs H (fun _ _ => True) (fun _ _ _ => True) ⟨ι, M, ws, R, wr, ?_⟩
  cases e : F ws M with
  | ok w M1 => exact fun _ _ _ _ _ _ => trivial
  | exc c M1 => exact fun _ _ _ _ _ => trivial
  | bad => rw [e] at h; exact h
theorem run_calD (k : Bx X Z Wx G) {F : List Wv → Mem → Out Wv} {f : Addr} {dws ws : List Wv} {us : List Value} {vs : List V} {ι : List Addr} (c : Cal X.prog X.w X.K X.mg X.base X.A Z F f dws) (I : L2.Inv X pins σ H s) (rv : Vals vs us) (R : RM Z ι M H) (wr : WsR Z ι H ws vs)
    (h : eOut Z Wx σ ι H (F (ws ++ dws) M) Q) : wpAny (model X.prog X.w) X.A (call (.ref f) us) (EP X pins σ Q) X.xe s := by
  obtain ⟨n, fd, ps, ds, dvs, Fn, hr, hb, hd, hw⟩ := c.ex
  have wr2 := wr.append (hw ι H)
  have r2 : Vals (vs ++ dvs) (us ++ ds) := rv.append hd
  have hl : (us ++ ds).length = ps.length := by rw [← r2.length]; exact call_len Fn R wr2 h
  refine wpAny_call (codeAny_mono (run_cal k Fn hr I (hb s us I.kIn hl) r2 R wr2 h) fun r s' hq => ?_)
  cases r with
  | error e => exact hq
  | ok fl => cases fl <;> exact hq
theorem e_call (k : Bx X Z Wx G) {i : Nat} {x : Str} {dws : List Wv} (c : CalG X.prog X.w X.K X.mg X.base X.A Z (C i) x dws) (ha : PA X (e :: es) (TAx Z Wx G C C1 el)) (hg : gloB X.env x = true := by kernel_rfl)
    (he : starEach (e :: es) X.env = (false, eval e X.env) :: starEach es X.env := by rfl) (hpl : (backTo pos (starEach es X.env)).any (·.1) = false := by rfl) : PE X (.Call (.Name x p) (e :: es) [] pos) (TEx Z Wx G C C1 (.call i el dws)) := by
  obtain ⟨h1, h2, h3⟩ := gloB_ok hg
  obtain ⟨f, hm, hk, cc⟩ := c.ex
  refine ⟨fun pins s σ H Q I ⟨ι, sw, M, sr, R, h⟩ => ?_⟩
  simp only [evE] at h
  refine wpAny_Call_Name_kw (ld_glob I h1 hm ?_ h2)
  refine PySem.W.callWith_K (h₀ := X.base) I.ok.mod.kin hk (thn (ha.run pos pins s σ H (fun vs H1 => ∃ ι1 M1 ws, RM Z ι1 M1 H1 ∧ WsR Z ι1 H1 ws vs ∧ eOut Z Wx σ ι1 H1 (C i (ws ++ dws) M1) Q) I (tA.seqE sr R h fun ws M1 vs H1 ι1 e1 R1 q1 s1 h1 => ⟨ι1, M1, ws, R1, q1, h1⟩)) fun us s1 ⟨vs, H1, I1, r, ι1, M1, ws, R1, q1, h1⟩ => ⟨I1.kIn, ?_⟩) he hpl
  exact run_calD k cc I1 r R1 q1 h1
/-- f(): no arguments -/
theorem e_call0 (k : Bx X Z Wx G) {i : Nat} {x : Str} {dws : List Wv} (c : CalG X.prog X.w X.K X.mg X.base X.A Z (C i) x dws) (hg : gloB X.env x = true := by kernel_rfl) : PE X (.Call (.Name x p) [] [] pos) (TEx Z Wx G C C1 (.call i .nil dws)) := by
  obtain ⟨h1, h2, h3⟩ := gloB_ok hg
  obtain ⟨f, hm, hk, cc⟩ := c.ex
  refine ⟨fun pins s σ H Q I ⟨ι, sw, M, sr, R, h⟩ => ?_⟩
  simp only [evE, evL] at h
  refine wpAny_Call_Name_kw (ld_glob I h1 hm ?_ h2)
  exact PySem.W.callWith_K0 I.kIn hk (run_calD (us := []) k cc I .nil R .nil h)
/-- one keyword, the last parameter -/
structure CalK (P : Program) (w : World) (K : PySem.W.Frag) (mg : Str → Option Value) (base : Heap) (A : Around) (Z : Zt) (F : List Wv → Mem → Out Wv) (x : Str) (m : Nat) (y : Str) : Prop where
  ex : ∃ f n fd ps, mg x = some (.ref f) ∧ PySem.W.keepIn K (.ref f) = true ∧ FnOk P w K mg base (L2.CX P w) n f fd ps (spI Z F) ∧ Room n A ∧ ps.length = m + 1 ∧
    ∀ (s : Shared) (us : List Value) (u : Value), K.In s.heap → us.length = m → BindsTo s fd ⟨us, [(y, u)]⟩ (ps.zip (us ++ [u]))
theorem e_callk (k : Bx X Z Wx G) {i m : Nat} {x y : Str} (c : CalK X.prog X.w X.K X.mg X.base X.A Z (C i) x m y) {kpos : Pos} (ha : PA X (e :: es) (TAx Z Wx G C C1 el)) (hk : PE X a (TEx Z Wx G C C1 ea)) (hg : gloB X.env x = true := by kernel_rfl)
    (hall : (backToKw pos (keywordEach [⟨some y, a, kpos⟩] X.env)).all (·.1.isSome) = true := by rfl) (hks : (backToKw pos (keywordEach [⟨some y, a, kpos⟩] X.env)).filterMap (·.1) = [y] := by rfl)
    (he : starEach (e :: es) X.env = (false, eval e X.env) :: starEach es X.env := by rfl)
    (hpl : ((backTo pos (starEach (e :: es) X.env)).any (·.1) || (backToKw pos (keywordEach [⟨some y, a, kpos⟩] X.env)).any (·.1.isNone)) = false := by rfl) :
    PE X (.Call (.Name x p) (e :: es) [⟨some y, a, kpos⟩] pos) (TEx Z Wx G C C1 (.callk i el ea)) := by
  obtain ⟨h1, h2, h3⟩ := gloB_ok hg
  obtain ⟨f, n, fd, ps, hm, hkp, Fn, hr, hpl', hb⟩ := c.ex
  refine ⟨fun pins s σ H Q I ⟨ι, sw, M, sr, R, h⟩ => ?_⟩
  simp only [evE] at h
  refine wpAny_Call_Name_kw (ld_glob I h1 hm ?_ h2)
  refine PySem.W.callWith_KW (h₀ := X.base) I.ok.mod.kin hkp hall (thn (ha.run pos pins s σ H (fun vs H1 => ∃ ι1 M1 ws, RM Z ι1 M1 H1 ∧ SR Z ι1 H1 sw σ ∧ WsR Z ι1 H1 ws vs ∧ eOut Z Wx σ ι1 H1 ((evE G C C1 ea sw M1).bind fun w M => C i (ws ++ [w]) M) Q) I
    (tA.seqE sr R h fun ws M1 vs H1 ι1 e1 R1 q1 s1 h1 => ⟨ι1, M1, ws, R1, s1, q1, h1⟩)) fun us s1 ⟨vs, H1, I1, r, ι1, M1, ws, R1, sr1, q1, h1⟩ => ?_) hpl he
  have pk : PK X [⟨some y, a, kpos⟩] (tCons (TEx Z Wx G C C1 ea) tNil) := pk_cons hk pk_nil
  refine thn (pk.run pos pins s1 σ H1 (fun zs H2 => ∃ z ι2 M2 w, zs = [z] ∧ RM Z ι2 M2 H2 ∧ WsR Z ι2 H2 (ws ++ [w]) (vs ++ [z]) ∧ eOut Z Wx σ ι2 H2 (C i (ws ++ [w]) M2) Q) I1
    (tE.seqE sr1 R1 h1 fun w M2 z H2 ι2 e2 R2 q2 s2 h2 => ⟨z, ι2, M2, w, rfl, R2, (q1.mono e2.le).append (.cons q2 .nil), h2⟩)) fun zs s2 ⟨zv, H2, I2, rz, z, ι2, M2, w, ez, R2, q2, h2⟩ => ⟨I2.kIn, ?_⟩
  subst ez
  obtain ⟨u, rfl, ru⟩ := vals1 rz
  rw [hks]
  have hl : (vs ++ [z]).length = ps.length := call_len Fn R2 q2 h2
  have hlm : us.length = m := by
    have := r.length
    rw [List.length_append, List.length_singleton] at hl
    omega
  refine wpAny_call (codeAny_mono (run_cal k Fn hr I2 (hb s2 us u I2.kIn hlm) (r.append (.cons ru .nil)) R2 q2 h2) fun r s' hq => ?_)
  cases r with
  | error e => exact hq
  | ok fl => cases fl <;> exact hq
/-! ### methods -/
/-- o.m(..): for each class that has it -/
def MetOk (P : Program) (w : World) (K : PySem.W.Frag) (mg : Str → Option Value) (base : Heap) (A : Around) (Z : Zt) (G : Pg) (C : Nat → List Wv → Mem → Out Wv) (m : Str) (dws : List Wv) : Prop :=
  ∀ c k i, G.cls c = some k → k.meths.lookup m = some i → ∃ f, Cls K (Z.cls c) ∧ Meth K (Z.cls c) m f ∧ Cal P w K mg base A Z (C i) f dws
theorem metW_at {x : Wv} {v : V} {m : Str} {i : Nat} (R : RM Z ι M H) (hx : WR Z ι H x v) (h : metW G m x M = some i) : ∃ c a dx vs kk, v = .ref a ∧ G.cls c = some kk ∧ kk.meths.lookup m = some i ∧ H a = some (.ins (Z.cls c) dx vs) ∧ vs.lookup m = none := by
  cases hx with
  | ref hl =>
    rename_i l a
    cases hM : M[l]? with
    | none => simp [metW, hM] at h
    | some o =>
      cases o with
      | ins c fs =>
        cases hc : G.cls c with
        | none => simp [metW, hM, hc] at h
        | some kk =>
          cases hm : kk.meths.lookup m with
          | none => simp [metW, hM, hc, hm] at h
          | some i' =>
            by_cases hn : fs.lookup m = none
            · simp [metW, hM, hc, hm, hn] at h
              subst h
              obtain ⟨dx, vs, h1, h2⟩ := R.ob _ _ _ hM hl
              exact ⟨c, a, dx, vs, kk, rfl, hc, hm, h1, h2.look.2 hn⟩
            · simp [metW, hM, hc, hm, hn] at h
      | lst ws' => simp [metW, hM] at h
      | dct ws' => simp [metW, hM] at h
  | _ => cases h
theorem e_meth {pl : Sem Bool} (k : Bx X Z Wx G) {m : Str} {dws : List Wv} (mo : MetOk X.prog X.w X.K X.mg X.base X.A Z G C m dws) (ho : PE X a (TEx Z Wx G C C1 ea)) (ha : PA X (e :: es) (TAx Z Wx G C C1 el))
    (hst : starEach (e :: es) X.env = (false, eval e X.env) :: starEach es X.env := by rfl) (hpl : (backTo pos (starEach es X.env)).any (·.1) = false := by rfl)
    (ht : eval (.Call (.Attribute a m apos) (e :: es) [] pos) X.env = (do
      let ov ← eval a X.env
      standAt apos.atName
      let (f, first) ← holding [ov] (getMethod ov m pl)
      callWith pos f first (backTo pos (starEach (e :: es) X.env)) (backToKw pos (keywordEach [] X.env))) := by rfl) :
    PE X (.Call (.Attribute a m apos) (e :: es) [] pos) (TEx Z Wx G C C1 (.meth m ea el dws)) := by
  refine ⟨fun pins s σ H Q I ⟨ι, sw, M, sr, R, h⟩ => ?_⟩
  simp only [evE] at h
  refine PySem.W.methodCall_KW (pl := pl) (thn (ho.run pins s σ H (fun v H1 => ∃ ι1 M1 x i, RM Z ι1 M1 H1 ∧ SR Z ι1 H1 sw σ ∧ WR Z ι1 H1 x v ∧ metW G m x M1 = some i ∧ eOut Z Wx σ ι1 H1 ((evL G C C1 el sw M1).bind fun ws M => C i (x :: (ws ++ dws)) M) Q) I
    (tE.seqE sr R h fun x M1 v H1 ι1 e1 R1 q1 s1 h1 => by
      obtain ⟨i, ei, h1⟩ := h1.ofOb
      exact ⟨ι1, M1, x, i, R1, s1, q1, ei, h1⟩)) fun u s1 ⟨v, H1, I1, rx, ι1, M1, x, i, R1, sr1, q1, ei, h1⟩ => ?_) ht
  obtain ⟨c, aa, dx, vs, kk, rfl, g1, g2, g3, g4⟩ := metW_at R1 q1 ei
  obtain rfl : u = Value.ref aa := rx
  obtain ⟨f, c1, c2, cc⟩ := mo c kk i g1 g2
  refine getmeth_ok I1 g3 c1 c2 g4 ?_
  refine PySem.W.callWith_K (first := [.ref aa]) (h₀ := X.base) I.ok.mod.kin c2.kp (thn (ha.run pos pins s1 σ H1 (fun vs H2 => ∃ ι2 M2 ws, RM Z ι2 M2 H2 ∧ WsR Z ι2 H2 (x :: ws) (.ref aa :: vs) ∧ eOut Z Wx σ ι2 H2 (C i (x :: ws ++ dws) M2) Q) I1
    (tA.seqE sr1 R1 h1 fun ws M2 vs H2 ι2 e2 R2 q2 s2 h2 => ⟨ι2, M2, ws, R2, .cons (q1.mono e2.le) q2, h2⟩)) fun us s2 ⟨vs, H2, I2, r, ι2, M2, ws, R2, q2, h2⟩ => ⟨I2.kIn, ?_⟩) hst hpl
  exact run_calD (us := .ref aa :: us) (vs := .ref aa :: vs) k cc I2 (.cons rfl r) R2 q2 h2
theorem e_meth0 {pl : Sem Bool} (k : Bx X Z Wx G) {m : Str} {dws : List Wv} (mo : MetOk X.prog X.w X.K X.mg X.base X.A Z G C m dws) (ho : PE X a (TEx Z Wx G C C1 ea))
    (ht : eval (.Call (.Attribute a m apos) [] [] pos) X.env = (do
      let ov ← eval a X.env
      standAt apos.atName
      let (f, first) ← holding [ov] (getMethod ov m pl)
      callWith pos f first (backTo pos (starEach [] X.env)) (backToKw pos (keywordEach [] X.env))) := by rfl) :
    PE X (.Call (.Attribute a m apos) [] [] pos) (TEx Z Wx G C C1 (.meth m ea .nil dws)) := by
  refine ⟨fun pins s σ H Q I ⟨ι, sw, M, sr, R, h⟩ => ?_⟩
  simp only [evE, evL, Out.bind_ok] at h
  refine PySem.W.methodCall_KW (pl := pl) (thn (ho.run pins s σ H (fun v H1 => ∃ ι1 M1 x i, RM Z ι1 M1 H1 ∧ WR Z ι1 H1 x v ∧ metW G m x M1 = some i ∧ eOut Z Wx σ ι1 H1 (C i (x :: ([] ++ dws)) M1) Q) I
    (tE.seqE sr R h fun x M1 v H1 ι1 e1 R1 q1 s1 h1 => by
      obtain ⟨i, ei, h1⟩ := h1.ofOb
      exact ⟨ι1, M1, x, i, R1, q1, ei, h1⟩)) fun u s1 ⟨v, H1, I1, rx, ι1, M1, x, i, R1, q1, ei, h1⟩ => ?_) ht
  obtain ⟨c, aa, dx, vs, kk, rfl, g1, g2, g3, g4⟩ := metW_at R1 q1 ei
  obtain rfl : u = Value.ref aa := rx
  obtain ⟨f, c1, c2, cc⟩ := mo c kk i g1 g2
  refine getmeth_ok I1 g3 c1 c2 g4 ?_
  exact PySem.W.callWith_K0 (first := [.ref aa]) I1.kIn c2.kp (run_calD (us := [.ref aa]) (vs := [.ref aa]) k cc I1 (.cons rfl .nil) R1 (.cons q1 .nil) h1)
/-! ### instances made -/
structure MakOk (P : Program) (w : World) (K : PySem.W.Frag) (mg : Str → Option Value) (base : Heap) (A : Around) (Z : Zt) (G : Pg) (C1 : Nat → List Wv → Mem → Out Wv) (x : Str) (c : Nat) : Prop where
  ex : ∃ kk f n fd ps, G.cls c = some kk ∧ mg x = some (.ref (Z.cls c)) ∧ Mk K (Z.cls c) f ∧ FnOk P w K mg base (L2.CX P w) n f fd ps (spI Z (C1 kk.init)) ∧ Room (n + 1) A ∧ Binds K fd ps []
theorem run_mak (k : Bx X Z Wx G) {x : Str} {c : Nat} {ws : List Wv} {us : List Value} {vs : List V} {ι : List Addr} (mk : MakOk X.prog X.w X.K X.mg X.base X.A Z G C1 x c) (I : L2.Inv X pins σ H s) (rv : Vals vs us) (R : RM Z ι M H) (wr : WsR Z ι H ws vs)
    (h : eOut Z Wx σ ι H (newW G C1 c ws M) Q) : wpAny (model X.prog X.w) X.A (call (.ref (Z.cls c)) us) (EP X pins σ Q) X.xe s := by
  obtain ⟨kk, f, n, fd, ps, hc, hm, mk, Fn, hr, hb⟩ := mk.ex
  have h : eOut Z Wx σ ι H ((C1 kk.init (.ref M.length :: ws) (M ++ [.ins c []])).bind fun w M' => .chk (decide (w = .non)) (.ok (.ref M.length) M')) Q := by
    unfold newW at h
    rw [hc] at h
    exact h
  -- the new instance
  have f1 : H s.heap.objs.size = none := I.hok.fresh (Nat.le_refl _)
  have f2 : H (s.heap.objs.size + 1) = none := I.hok.fresh (Nat.le_succ _)
  have ne : s.heap.objs.size + 1 ≠ s.heap.objs.size := Nat.ne_of_gt (Nat.lt_succ_self _)
  have I2 := Inv.made (C := Z.cls c) I
  have x1 : Ext ι ι H (upd H s.heap.objs.size (.own (s.heap.objs.size + 1))) := Ext.fresh ι f1
  have R1 : RM Z ι M (upd H s.heap.objs.size (.own (s.heap.objs.size + 1))) := R.fresh f1
  have f3 : upd H s.heap.objs.size (.own (s.heap.objs.size + 1)) (s.heap.objs.size + 1) = none := by rw [upd_ne ne]; exact f2
  have x2 : Ext ι (ι ++ [s.heap.objs.size + 1]) (upd H s.heap.objs.size (.own (s.heap.objs.size + 1))) (upd (upd H s.heap.objs.size (.own (s.heap.objs.size + 1))) (s.heap.objs.size + 1) (.ins (Z.cls c) s.heap.objs.size [])) := Ext.alloc ι f3
  have R2 : RM Z (ι ++ [s.heap.objs.size + 1]) (M ++ [.ins c []]) (upd (upd H s.heap.objs.size (.own (s.heap.objs.size + 1))) (s.heap.objs.size + 1) (.ins (Z.cls c) s.heap.objs.size [])) := R1.alloc f3 ⟨s.heap.objs.size, [], upd_same, .nil⟩
  have x3 := x1.trans x2
  have wr2 : WsR Z (ι ++ [s.heap.objs.size + 1]) (upd (upd H s.heap.objs.size (.own (s.heap.objs.size + 1))) (s.heap.objs.size + 1) (.ins (Z.cls c) s.heap.objs.size [])) (.ref M.length :: ws) (.ref (s.heap.objs.size + 1) :: vs) := .cons (.ref (snoc_ix R1 _)) (wr.mono x3.le)
  have r2 : Vals (V.ref (s.heap.objs.size + 1) :: vs) (Value.ref (s.heap.objs.size + 1) :: us) := .cons rfl rv
  have h2 : eOut Z Wx σ (ι ++ [s.heap.objs.size + 1]) (upd (upd H s.heap.objs.size (.own (s.heap.objs.size + 1))) (s.heap.objs.size + 1) (.ins (Z.cls c) s.heap.objs.size [])) (C1 kk.init (.ref M.length :: ws) (M ++ [.ins c []])) (fun v H2 => v = .non ∧ Q (.ref (s.heap.objs.size + 1)) H2) := by
    have h3 := h.shift x3
    cases e : C1 kk.init (.ref M.length :: ws) (M ++ [.ins c []]) with
    | ok w M3 =>
      rw [e] at h3
      obtain ⟨qn, h3⟩ := eOut.chk h3
      have qn := of_decide_eq_true qn
      subst qn
      intro v H4 ι4 x4 R4 q4
      cases q4
      exact ⟨rfl, h3 _ H4 ι4 x4 R4 (.ref (x4.le.ix _ _ (snoc_ix R1 _)))⟩
    | exc q M3 => rw [e] at h3; exact h3
    | bad => rw [e] at h3; exact h3
  have hl : (Value.ref (s.heap.objs.size + 1) :: us).length = ps.length := by rw [← r2.length]; exact call_len Fn R2 wr2 h2
  have hb2 := hb _ (Value.ref (s.heap.objs.size + 1) :: us) I2.kIn (by rw [List.append_nil]; exact hl)
  rw [List.append_nil] at hb2
  refine wpAny_call (make_map (f := f) I.kIn mk.makes mk.init (beq_iff_eq.mp mk.fn) (codeAny_mono (Fn.run _ X.stack _ _ ⟨Value.ref (s.heap.objs.size + 1) :: us, []⟩ (Value.ref (s.heap.objs.size + 1) :: us) _ (fun v H2 => v = .non ∧ Q (.ref (s.heap.objs.size + 1)) H2) (WE (wxO Z Wx) σ) (hr.make (Z.cls c) us [])
    (I2.env0.make (Z.cls c) us []) hb2 r2 ⟨_, _, _, R2, wr2, ?_⟩) fun r s' hq' => ?_))
  · cases e : C1 kk.init (.ref M.length :: ws) (M ++ [.ins c []]) with
    | ok w M1 => rw [e] at h2; exact h2
    | exc q M1 => rw [e] at h2; exact fun H' ι' d x R => ⟨q, rfl, h2 H' ι' x R⟩
    | bad => rw [e] at h2; exact h2
  · cases r with
    | error e => exact passAt k.tk σ pins _ _ e s' I2 hq'
    | ok fl =>
      cases fl with
      | ret u =>
        obtain ⟨v, H', I3, rv, ev, q3⟩ := I2.after hq'
        subst ev
        exact ⟨rv, ⟨V.ref (s.heap.objs.size + 1), H', I3, rfl, q3⟩⟩
      | next => exact False.elim hq'
      | brk => exact False.elim hq'
      | cont => exact False.elim hq'
theorem e_new (k : Bx X Z Wx G) {x : Str} {c : Nat} (mk : MakOk X.prog X.w X.K X.mg X.base X.A Z G C1 x c) (ha : PA X (e :: es) (TAx Z Wx G C C1 el)) (hg : gloB X.env x = true := by kernel_rfl)
    (he : starEach (e :: es) X.env = (false, eval e X.env) :: starEach es X.env := by rfl) (hpl : (backTo pos (starEach es X.env)).any (·.1) = false := by rfl) : PE X (.Call (.Name x p) (e :: es) [] pos) (TEx Z Wx G C C1 (.new c el)) := by
  obtain ⟨h1, h2, h3⟩ := gloB_ok hg
  obtain ⟨kk, f, n, fd, ps, hc, hm, mk', _⟩ := mk.ex
  refine ⟨fun pins s σ H Q I ⟨ι, sw, M, sr, R, h⟩ => ?_⟩
  simp only [evE] at h
  refine wpAny_Call_Name_kw (ld_glob I h1 hm ?_ h2)
  refine PySem.W.callWith_K (h₀ := X.base) I.ok.mod.kin mk'.kp (thn (ha.run pos pins s σ H (fun vs H1 => ∃ ι1 M1 ws, RM Z ι1 M1 H1 ∧ WsR Z ι1 H1 ws vs ∧ eOut Z Wx σ ι1 H1 (newW G C1 c ws M1) Q) I (tA.seqE sr R h fun ws M1 vs H1 ι1 e1 R1 q1 s1 h1 => ⟨ι1, M1, ws, R1, q1, h1⟩)) fun us s1 ⟨vs, H1, I1, r, ι1, M1, ws, R1, q1, h1⟩ => ⟨I1.kIn, ?_⟩) he hpl
  exact run_mak k mk I1 r R1 q1 h1
theorem e_new0 (k : Bx X Z Wx G) {x : Str} {c : Nat} (mk : MakOk X.prog X.w X.K X.mg X.base X.A Z G C1 x c) (hg : gloB X.env x = true := by kernel_rfl) : PE X (.Call (.Name x p) [] [] pos) (TEx Z Wx G C C1 (.new c .nil)) := by
  obtain ⟨h1, h2, h3⟩ := gloB_ok hg
  obtain ⟨kk, f, n, fd, ps, hc, hm, mk', _⟩ := mk.ex
  refine ⟨fun pins s σ H Q I ⟨ι, sw, M, sr, R, h⟩ => ?_⟩
  simp only [evE, evL] at h
  refine wpAny_Call_Name_kw (ld_glob I h1 hm ?_ h2)
  exact PySem.W.callWith_K0 I.kIn mk'.kp (run_mak (us := []) k mk I .nil R .nil h)
end
end MP
end
section
set_option Elab.async false
set_option linter.all false
set_option maxRecDepth 100000
/-! MP13: what loops walk. -/
namespace MP
open PySem PySem.Spec PyProof.Rows L2

/-! ### a locked dict, walked -/
def ItK (d : Addr) (o : Obj) (es : Array DictEntry) : L2.It :=
  ⟨fun i H => H d = some (lkO true d o) ∧ ∃ en x, es[i]? = some en ∧ RelV x en.key, fun i H x H' => H' = H ∧ ∃ en, es[i]? = some en ∧ RelV x en.key, fun i H => H d = some (lkO true d o) ∧ es.size ≤ i⟩
def ItV (d : Addr) (o : Obj) (es : Array DictEntry) : L2.It :=
  ⟨fun i H => H d = some (lkO true d o) ∧ ∃ en x, es[i]? = some en ∧ RelV x en.val, fun i H x H' => H' = H ∧ ∃ en, es[i]? = some en ∧ RelV x en.val, fun i H => H d = some (lkO true d o) ∧ es.size ≤ i⟩
def ItI (d : Addr) (o : Obj) (es : Array DictEntry) : L2.It :=
  ⟨fun i H => H d = some (lkO true d o) ∧ ∃ en x y, es[i]? = some en ∧ RelV x en.key ∧ RelV y en.val, fun i H x H' => ∃ T en k v, es[i]? = some en ∧ RelV k en.key ∧ RelV v en.val ∧ x = .ref T ∧ H T = none ∧ H' = upd H T (.tup [k, v]), fun i H => H d = some (lkO true d o) ∧ es.size ≤ i⟩
section
variable {P : Program} {w : World} {K : PySem.W.Frag} {tg : Expr} {d : Addr} {o : Obj} {es : Array DictEntry} {ep : Nat}
theorem es_at {i : Nat} {en : DictEntry} (h : es[i]? = some en) : ∃ hi : i < es.size, es[i] = en := by
  obtain ⟨hi, e⟩ := Array.getElem?_eq_some_iff.mp h
  exact ⟨hi, e⟩
theorem turnK (it : Addr) (hx : o.ExactDict) (hod : o.data = .dict es ep) : Turn P w K tg (ItK d o es) [it] it (fun i h => h.IsKeyIter it d i es.size ep) where
  mem := by simp
  obj := fun i h st b hb => by
    have e : b = it := by simpa using hb
    subst e
    obtain ⟨oi, e, c, dd⟩ := st
    exact ⟨oi, e, fun v z => by rw [dd] at z; cases z⟩
  keep := fun i h h' st k => st.at fun oi e => k it (by simp) oi e
  item := by
    intro X hP hw hK hc i pins s σ H E I hf st hg
    subst hP hw hK
    obtain ⟨hd, en, x, hen, rx⟩ := hg
    obtain ⟨f0, f1, f2, f3, f4, f5⟩ := hf it (by simp)
    have hgd := MP.Inv.dctO I hd
    obtain ⟨hi, rfl⟩ := es_at hen
    refine wpAny_pyNext_keys_item_raw st ⟨o, hgd, hx, hod⟩ hi fun h' st' sb => ?_
    have I1 : L2.Inv X pins σ H { s with heap := h' } := I.turned (t' := s.toks) (fun b ob hb e => (sb.2 b hb).trans e) f0 f1 f3 f4 f5
    obtain ⟨oi, e, c, dd⟩ := id st'
    exact ⟨_, rfl, go_of (s := { s with heap := h' }) e c dd (by decide) ⟨x, H, I1, rx, ⟨rfl, _, hen, rx⟩, st', fun b hb => (hf b hb).1⟩⟩
  done := by
    intro X hP hw hK hc i pins s σ H E I hf st hg
    subst hP hw hK
    obtain ⟨hd, hi⟩ := hg
    obtain ⟨f0, f1, f2, f3, f4, f5⟩ := hf it (by simp)
    have hgd := MP.Inv.dctO I hd
    exact wpAny_pyNext_keys_end_raw (I.ok.hd hc) st ⟨o, hgd, hx, hod⟩ hi fun h' eb => ⟨rfl, I.turned (t' := s.toks) (fun b ob hb e => eb b ob hb e) f0 f1 f3 f4 f5⟩
  self := fun A i s Q E st h => wpAny_pyIter_keyiter st h
theorem turnV (it : Addr) (hx : o.ExactDict) (hod : o.data = .dict es ep) : Turn P w K tg (ItV d o es) [it] it (fun i h => h.IsValIter it d i es.size ep) where
  mem := by simp
  obj := fun i h st b hb => by
    have e : b = it := by simpa using hb
    subst e
    obtain ⟨oi, e, c, dd⟩ := st
    exact ⟨oi, e, fun v z => by rw [dd] at z; cases z⟩
  keep := fun i h h' st k => st.at fun oi e => k it (by simp) oi e
  item := by
    intro X hP hw hK hc i pins s σ H E I hf st hg
    subst hP hw hK
    obtain ⟨hd, en, x, hen, rx⟩ := hg
    obtain ⟨f0, f1, f2, f3, f4, f5⟩ := hf it (by simp)
    have hgd := MP.Inv.dctO I hd
    obtain ⟨hi, rfl⟩ := es_at hen
    refine wpAny_pyNext_values_item_raw st ⟨o, hgd, hx, hod⟩ hi fun h' st' sb => ?_
    have I1 : L2.Inv X pins σ H { s with heap := h' } := I.turned (t' := s.toks) (fun b ob hb e => (sb.2 b hb).trans e) f0 f1 f3 f4 f5
    obtain ⟨oi, e, c, dd⟩ := id st'
    exact ⟨_, rfl, go_of (s := { s with heap := h' }) e c dd (by decide) ⟨x, H, I1, rx, ⟨rfl, _, hen, rx⟩, st', fun b hb => (hf b hb).1⟩⟩
  done := by
    intro X hP hw hK hc i pins s σ H E I hf st hg
    subst hP hw hK
    obtain ⟨hd, hi⟩ := hg
    obtain ⟨f0, f1, f2, f3, f4, f5⟩ := hf it (by simp)
    have hgd := MP.Inv.dctO I hd
    exact wpAny_pyNext_values_end_raw (I.ok.hd hc) st ⟨o, hgd, hx, hod⟩ hi fun h' eb => ⟨rfl, I.turned (t' := s.toks) (fun b ob hb e => eb b ob hb e) f0 f1 f3 f4 f5⟩
  self := fun A i s Q E st h => wpAny_pyIter_valiter st h
theorem turnI {elts : List Expr} {kk : Nat} {tpos : Pos} (it : Addr) (hx : o.ExactDict) (hod : o.data = .dict es ep) : Turn P w K (.Tuple elts kk tpos) (ItI d o es) [it] it (fun i h => ∃ ok ov, IsItemIter h it d i es.size ep ok ov) where
  mem := by simp
  obj := fun i h st b hb => by
    have e : b = it := by simpa using hb
    subst e
    obtain ⟨ok, ov, e⟩ := st
    exact ⟨_, e, fun v z => nomatch z⟩
  keep := fun i h h' st k => let ⟨ok, ov, e⟩ := st; ⟨ok, ov, k it (by simp) _ e⟩
  item := by
    intro X hP hw hK hc i pins s σ H E I hf st hg
    subst hP hw hK
    obtain ⟨hd, en, x, y, hen, rx, ry⟩ := hg
    have hgd := MP.Inv.dctO I hd
    obtain ⟨hi, rfl⟩ := es_at hen
    obtain ⟨ok, ov, he⟩ := st
    have hlt : it < s.heap.objs.size := Heap.lt_size he
    refine wpAny_pyNext_items_item_raw he ⟨o, hgd, hx, hod⟩ hi fun h' ho hT hz hk => ?_
    refine ⟨_, rfl, wpAny_letOwnedTupleGo_items (s := { s with heap := h' }) ho fun h'' he' sb => ?_⟩
    have hT2 : h''.get? s.heap.objs.size = some { cls := .type "tuple", data := .seq #[es[i].key, es[i].val] } := (sb.2 _ (Nat.ne_of_gt hlt)).trans hT
    have new : ObjOk X.prog X.w (upd H s.heap.objs.size (.tup [x, y])) h'' s.heap.objs.size (.tup [x, y]) :=
      ⟨by show 2 ≤ sizeLine; decide, [es[i].key, es[i].val], .cons rx (.cons ry .nil), ⟨_, hT2, rfl, _, rfl⟩⟩
    have I1 : L2.Inv X pins σ (upd H s.heap.objs.size (.tup [x, y])) { s with heap := h'' } :=
      I.turnedNew (t' := s.toks) (ch := [it]) (fun b ob hb e => (sb.2 b (by simpa using hb)).trans (hk b ob (by simpa using hb) e)) hf (Nat.le_refl _) new
    refine ⟨.ref s.heap.objs.size, _, I1, rfl, ⟨_, _, x, y, hen, rx, ry, rfl, I.hok.fresh (Nat.le_refl _), rfl⟩, ⟨_, _, he'⟩, fun b hb => ?_⟩
    have e : b = it := by simpa using hb
    rw [e, upd_ne (Nat.ne_of_lt hlt)]
    exact (hf it (by simp)).1
  done := by
    intro X hP hw hK hc i pins s σ H E I hf st hg
    subst hP hw hK
    obtain ⟨hd, hi⟩ := hg
    obtain ⟨f0, f1, f2, f3, f4, f5⟩ := hf it (by simp)
    have hgd := MP.Inv.dctO I hd
    obtain ⟨ok, ov, he⟩ := st
    exact wpAny_pyNext_items_end_raw (I.ok.hd hc) he ⟨o, hgd, hx, hod⟩ hi fun h' eb => ⟨rfl, I.turned (t' := s.toks) (fun b ob hb e => eb b ob hb e) f0 f1 f3 f4 f5⟩
  self := fun A i s Q E st h => let ⟨_, _, e⟩ := st; PySem.W.kcp_self e h
end

/-! ### locks -/
/-- the heap without the lock -/
def ulH (dl : Option (Addr × Obj)) (H : Hp) : Hp := match dl with
  | none => H
  | some (d, o) => upd H d (DctO d o)
def UlOk (X : Cx) (dl : Option (Addr × Obj)) (H : Hp) : Prop := match dl with
  | none => True
  | some (d, o) => H d = some (lkO true d o) ∧ ∀ o' u', X.H_0 d ≠ some (.frz o' u')
/-- refusals out of a walk -/
def lkW (X : Cx) (Wx : Wish) : Wish := fun c σ H => ∃ dl, UlOk X dl H ∧ Wx c σ (ulH dl H)
theorem inv_ul {X : Cx} {pins : List (Addr × Obj)} {σ : L2.St} {H : Hp} {s : Shared} {dl : Option (Addr × Obj)} (I : L2.Inv X pins σ H s) (u : UlOk X dl H) : L2.Inv X pins σ (ulH dl H) s := by
  cases dl with
  | none => exact I
  | some p => exact I.unlock u.1 u.2
theorem takes_lk {X : Cx} {Z : Zt} {Wx : Wish} (tk : Takes X (wxO Z Wx)) : Takes X (wxO Z (lkW X Wx)) := fun u s' ⟨a, B, sI, pins, σ, H, cls, d, e, I, nb, up, sky, na, os, ag, c, ec, dl, uo, w⟩ => by
  refine tk u s' ⟨a, B, sI, pins, σ, ulH dl H, cls, d, e, inv_ul I uo, nb, up, sky, ?_, os, ag, c, ec, w⟩
  cases dl with
  | none => exact na
  | some p =>
    have ne : a ≠ p.1 := fun z => by
      have := uo.1
      rw [← z, na] at this
      cases this
    show upd H p.1 (DctO p.1 p.2) a = none
    rw [upd_ne ne]
    exact na
theorem Bx.lk {X : Cx} {Z : Zt} {Wx : Wish} {G : Pg} (k : Bx X Z Wx G) : Bx X Z (lkW X Wx) G := ⟨k.toXOk, k.hS, k.nd, takes_lk k.tk⟩
/-- which of the walked is locked -/
def LkS (X : Cx) (Z : Zt) (ι : List Addr) (H : Hp) (ps : List (Nat × Ob)) (dl : Option (Addr × Obj)) : Prop := match dl with
  | none => ∀ M, lockM ps M = M ∧ unlkM ps M = M
  | some (d, o) => ∃ l kvs, ps = [(l, .dct false kvs)] ∧ ι[l]? = some d ∧ DctR Z ι H d true kvs ∧ H d = some (lkO true d o) ∧ ∀ o' u', X.H_0 d ≠ some (.frz o' u')
/-- a walk begins: from the heap H, memory M, to the locked heap -/
structure Lk (X : Cx) (Z : Zt) (ι ι1 : List Addr) (H H1 : Hp) (M : Mem) (ps : List (Nat × Ob)) (dl : Option (Addr × Obj)) : Prop where
  ext : Ext ι ι1 H (ulH dl H1)
  rm : RM Z ι1 (lockM ps M) H1
  lk : LkS X Z ι1 H1 ps dl
section
variable {X : Cx} {Z : Zt} {ι ι1 ι2 : List Addr} {H H1 H2 : Hp} {M M2 : Mem} {ps : List (Nat × Ob)} {dl : Option (Addr × Obj)}
theorem Lk.le (L : Lk X Z ι ι1 H H1 M ps dl) : Le ι ι1 H H1 := by
  cases dl with
  | none => exact L.ext.le
  | some p =>
    obtain ⟨l, kvs, e, hl, D, hd, nf⟩ := L.lk
    refine ⟨L.ext.le.ix, fun a o h i => ?_⟩
    have := L.ext.le.imm a o h i
    have ne : a ≠ p.1 := fun z => by
      rw [z] at this
      have e2 : upd H1 p.1 (DctO p.1 p.2) p.1 = some o := this
      rw [upd_same] at e2
      cases e2
      exact lkO_noI false p.1 p.2 i
    have e2 : upd H1 p.1 (DctO p.1 p.2) a = some o := this
    rw [upd_ne ne] at e2
    exact e2
/-- .. and ends -/
theorem Lk.un (L : Lk X Z ι ι1 H H1 M ps dl) (e : Ext ι1 ι2 H1 H2) (R : RM Z ι2 M2 H2) : Ext ι ι2 H (ulH dl H2) ∧ RM Z ι2 (unlkM ps M2) (ulH dl H2) ∧ Le ι2 ι2 H2 (ulH dl H2) ∧ UlOk X dl H2 := by
  cases dl with
  | none =>
    rw [(L.lk M2).2]
    exact ⟨L.ext.trans e, R, (Ext.refl ι2 H2).le, trivial⟩
  | some p =>
    obtain ⟨d, o⟩ := p
    obtain ⟨l, kvs, ep, hl, D, hd, nf⟩ := L.lk
    have hd2 : H2 d = some (lkO true d o) := e.frz d o _ hd
    have hl2 : ι2[l]? = some d := e.le.ix l d hl
    have hlt : l < M2.length := by rw [← R.len]; exact (List.getElem?_eq_some_iff.mp hl2).1
    have hM2 : M2[l]? = some M2[l] := by simp [hlt]
    have le2 : Le ι2 ι2 H2 (upd H2 d (DctO d o)) := Le.write R hl2
    refine ⟨?_, ?_, le2, hd2, nf⟩
    · obtain ⟨κ, rfl, hκ⟩ := L.ext.pre
      obtain ⟨κ2, rfl, hκ2⟩ := e.pre
      have E := L.ext
      refine ⟨⟨κ ++ κ2, by simp, fun x hx => ?_⟩, fun x q h nt hx => ?_, fun x ob φ h => ?_, fun x h => ?_⟩
      · rcases List.mem_append.mp hx with z | z
        · exact hκ x z
        · refine E.dom x ?_
          have h1 := hκ2 x z
          have ne : x ≠ d := fun z => by rw [z] at h1; exact h1 _ hd (lkO_noT true d o)
          intro q e n
          have e : upd H1 d (DctO d o) x = some q := e
          rw [upd_ne ne] at e
          exact h1 q e n
      · have h1 : upd H1 d (DctO d o) x = some q := E.frm x q h nt hx
        show upd H2 d (DctO d o) x = some q
        by_cases hxd : x = d
        · rw [hxd, upd_same] at h1 ⊢; exact h1
        · rw [upd_ne hxd] at h1 ⊢
          refine e.frm x q h1 nt ?_
          rcases hx with z | z
          · refine .inl fun hm => ?_
            rcases List.mem_append.mp hm with y | y
            · exact z y
            · exact hκ x y q h nt
          · exact .inr z
      · have h1 : upd H1 d (DctO d o) x = some (.frz ob (.ext φ)) := E.frz x ob φ h
        show upd H2 d (DctO d o) x = some (.frz ob (.ext φ))
        by_cases hxd : x = d
        · rw [hxd, upd_same] at h1; cases h1
        · rw [upd_ne hxd] at h1 ⊢
          exact e.frz x ob φ h1
      · have h : Vac (upd H2 d (DctO d o)) x := h
        have hxd : x ≠ d := fun z => by rw [z] at h; exact h.upd_self (lkO_noT false d o)
        have h1 := e.dom x (h.upd_ne hxd)
        refine E.dom x fun q e n => ?_
        have e : upd H1 d (DctO d o) x = some q := e
        rw [upd_ne hxd] at e
        exact h1 q e n
    · rw [ep]
      show RM Z ι2 (M2.set l (.dct false kvs)) (upd H2 d (DctO d o))
      refine R.write hM2 hl2 hd2 (lkO_noT true d o) (fun q z => by cases z) ?_
      obtain ⟨o', es', ep', h1, h2, h3, h4, h5, h6, h7, h8⟩ := D
      have eo : o' = o := by rw [hd] at h1; cases h1; rfl
      subst eo
      have le12 : Le ι1 ι2 H1 (upd H2 d (DctO d o')) := ⟨fun l a h => e.le.ix l a h, fun a q h i => le2.imm a q (e.le.imm a q h i) i⟩
      exact ⟨o', es', ep', upd_same, h2, h3, h4, h5, h6, h7, L2.Paired.mapP h8 fun _ _ z => z.mono le12⟩
/-- no dict -/
theorem LkS.nil : LkS X Z ι H [] none := fun M => ⟨rfl, rfl⟩
theorem LkS.lst {l : Nat} {ws : List Wv} : LkS X Z ι H [(l, .lst ws)] none := fun M => ⟨rfl, rfl⟩
theorem LkS.old {l : Nat} {kvs : List (Wv × Wv)} : LkS X Z ι H [(l, .dct true kvs)] none := fun M => ⟨rfl, rfl⟩
theorem Lk.none (R : RM Z ι M H) (h : LkS X Z ι H ps none) : Lk X Z ι ι H H M ps none := ⟨Ext.refl ι H, by rw [(h M).1]; exact R, h⟩
/-- a dict is locked -/
theorem Lk.new {pins : List (Addr × Obj)} {σ : L2.St} {s : Shared} {l : Nat} {a : Addr} {kvs : List (Wv × Wv)} (I : L2.Inv X pins σ H s) (R : RM Z ι M H) (hM : M[l]? = some (.dct false kvs)) (hl : ι[l]? = some a) :
    ∃ o es ep, o.ExactDict ∧ o.data = .dict es ep ∧ (a == sysModules) = false ∧ L2.Inv X pins σ (upd H a (lkO true a o)) s ∧ Lk X Z ι ι H (upd H a (lkO true a o)) M [(l, .dct false kvs)] (some (a, o)) ∧ Paired (EnR Z ι (upd H a (lkO true a o))) kvs es.toList := by
  obtain ⟨o, es, ep, h1, h2, h3, h4, h5, h6, h7, h8⟩ := R.ob _ _ _ hM hl
  have h1 : H a = some (DctO a o) := h1
  obtain ⟨od, I2⟩ := I.lock h1 trivial
  have eo : od = o := by
    have q1 := MP.Inv.dctO (z := false) I h1
    have q2 := (I2.hok a _ upd_same).1
    rw [q1] at q2
    exact (Option.some.inj q2).symm
  subst eo
  have le : Le ι ι H (upd H a (lkO true a od)) := Le.write R hl
  have D : DctR Z ι (upd H a (lkO true a od)) a true kvs := ⟨od, es, ep, upd_same, h2, h3, h4, h5, h6, h7, L2.Paired.mapP h8 fun _ _ z => z.mono le⟩
  have nf := I.nofrz h1 trivial
  have back : upd (upd H a (lkO true a od)) a (DctO a od) = H := by
    funext b
    by_cases hb : b = a
    · rw [hb, upd_same, h1]
    · rw [upd_ne hb, upd_ne hb]
  refine ⟨od, es, ep, h2, h3, h4, I2, ⟨?_, ?_, l, kvs, rfl, hl, D, upd_same, nf⟩, L2.Paired.mapP h8 fun _ _ z => z.mono le⟩
  · show Ext ι ι H (upd (upd H a (lkO true a od)) a (DctO a od))
    rw [back]
    exact Ext.refl ι H
  · show RM Z ι (M.set l (.dct true kvs)) (upd H a (lkO true a od))
    exact R.write hM hl h1 (lkO_noT false a od) (fun q => dctO_noC od a q ⟨es, ep, h3⟩) D
end
end MP
end
section
set_option Elab.async false
set_option linter.all false
set_option maxRecDepth 100000
/-! MP14: iterators, targets. -/
namespace MP
open PySem PySem.Spec PyProof.Rows L2

/-- J walks the items xs, as long as ps stays -/
structure Wk (Z : Zt) (ι0 : List Addr) (H0 : Hp) (J : L2.It) (xs : List Wv) (ps : List (Nat × Ob)) : Prop where
  go : ∀ i ι H M, Ext ι0 ι H0 H → RM Z ι M H → stays ps M = true → i < xs.length → J.go i H
  yld : ∀ i ι H M x H', Ext ι0 ι H0 H → RM Z ι M H → stays ps M = true → i < xs.length → J.yld i H x H' → ∃ w, xs[i]? = some w ∧ Ext ι ι H H' ∧ RM Z ι M H' ∧ WR Z ι H' w x
  stop : ∀ ι H M, Ext ι0 ι H0 H → RM Z ι M H → stays ps M = true → J.stop xs.length H
def iOut (X : Cx) (Z : Zt) (Wx : Wish) (σ : L2.St) (ι : List Addr) (H : Hp) (r : Out (List Wv × List (Nat × Ob))) (R : L2.It → Hp → Prop) : Prop := match r with
  | .ok (xs, ps) M => ∀ J H1 ι1 dl, Lk X Z ι ι1 H H1 M ps dl → Wk Z ι1 H1 J xs ps → R J H1
  | .exc c M => ∀ H' ι', Ext ι ι' H H' → RM Z ι' M H' → Wx c σ H'
  | .bad => False
def tI (X : Cx) (Z : Zt) (Wx : Wish) (f : Sw → Mem → Out (List Wv × List (Nat × Ob))) : TI := fun σ H R => ∃ ι sw M, SR Z ι H sw σ ∧ RM Z ι M H ∧ iOut X Z Wx σ ι H (f sw M) R
theorem _root_.L2.PI.weak {X : Cx} {tg e : Expr} {t t' : TI} (h : PI X tg e t) (w : ∀ σ H Q, t' σ H Q → t σ H Q) : PI X tg e t' := ⟨fun pins s σ H R I q => h.run pins s σ H R I (w σ H R q)⟩
section
variable {X : Cx} {Z : Zt} {Wx : Wish} {G : Pg} {C C1 : Nat → List Wv → Mem → Out Wv} {a b c e tg : Expr} {es : List Expr} {ea eb ec : Ex} {el : El} {pos p p2 p3 apos : Pos}
variable {pins : List (Addr × Obj)} {σ : L2.St} {H H1 : Hp} {s : Shared} {ι ι1 : List Addr} {M : Mem} {sw : Sw}
theorem Lk.pre (x : Ext ι ι1 H H1) {ι2 : List Addr} {H2 : Hp} {ps : List (Nat × Ob)} {dl : Option (Addr × Obj)} (L : Lk X Z ι1 ι2 H1 H2 M ps dl) : Lk X Z ι ι2 H H2 M ps dl := ⟨x.trans L.ext, L.rm, L.lk⟩
theorem iOut.shift {r : Out (List Wv × List (Nat × Ob))} {R : L2.It → Hp → Prop} (x : Ext ι ι1 H H1) (h : iOut X Z Wx σ ι H r R) : iOut X Z Wx σ ι1 H1 r R := by
  cases r with
  | ok w M' => exact fun J H2 ι2 dl L W => h J H2 ι2 dl (L.pre x) W
  | exc c M' => exact fun H' ι' y R => h H' ι' (x.trans y) R
  | bad => exact h
theorem tE.seqI {f : Fv} {g : Wv → Mem → Out (List Wv × List (Nat × Ob))} {Q : L2.It → Hp → Prop} {R : VK} (s : SR Z ι H sw σ) (R0 : RM Z ι M H) (h : iOut X Z Wx σ ι H ((f sw M).bind g) Q)
    (hk : ∀ w M1 v H1 ι1, Ext ι ι1 H H1 → RM Z ι1 M1 H1 → WR Z ι1 H1 w v → SR Z ι1 H1 sw σ → iOut X Z Wx σ ι1 H1 (g w M1) Q → R v H1) : tE Z Wx f σ H R := by
  refine ⟨ι, sw, M, s, R0, ?_⟩
  cases e : f sw M with
  | ok w M1 =>
    rw [e] at h
    exact fun v H' ι' x R q => hk w M1 v H' ι' x R q (s.mono x.le) (h.shift x)
  | exc c M1 => rw [e] at h; exact h
  | bad => rw [e] at h; exact h
theorem iOut.ofO {α : Type} {o : Option α} {g : α → Mem → Out (List Wv × List (Nat × Ob))} {Q : L2.It → Hp → Prop} (h : iOut X Z Wx σ ι H ((Out.ofO o M).bind g) Q) : ∃ w, o = some w ∧ iOut X Z Wx σ ι H (g w M) Q := by
  cases o with
  | some w => exact ⟨w, rfl, h⟩
  | none => exact False.elim h
theorem iOut.ofO1 {o : Option (List Wv × List (Nat × Ob))} {Q : L2.It → Hp → Prop} (h : iOut X Z Wx σ ι H (Out.ofO o M) Q) : ∃ w, o = some w ∧ iOut X Z Wx σ ι H (.ok w M) Q := by
  cases o with
  | some w => exact ⟨w, rfl, h⟩
  | none => exact False.elim h
/-! ### the walks -/
theorem wk_tup {ws : List Wv} {vs : List V} {a : Addr} (hs : SqT Z.K H a vs) (ht : WsR Z ι H ws vs) : Wk Z ι H (Itt Z.K a) ws [] := by
  have hl := ht.length
  refine ⟨fun i ι' H' M' x R st hi => ?_, fun i ι' H' M' v H2 x R st hi y => ?_, fun ι' H' M' x R st => ?_⟩
  · exact ⟨vs, vs[i], x.le.sqT hs, by simp⟩
  · obtain ⟨rfl, y⟩ := y
    have := y vs (x.le.sqT hs)
    obtain ⟨w, h1, h2⟩ := ht.get2 this
    exact ⟨w, h1, Ext.refl _ _, R, h2.mono x.le⟩
  · exact ⟨vs, x.le.sqT hs, by omega⟩
theorem wk_scr {a : Addr} (hs : ScR Z.K H a (Z.S.map V.int)) : Wk Z ι H (Itl Z.K a) (Z.S.map .int) [] := by
  refine ⟨fun i ι' H' M' x R st hi => ?_, fun i ι' H' M' v H2 x R st hi y => ?_, fun ι' H' M' x R st => ?_⟩
  · have hi : i < (Z.S.map V.int).length := by simpa using hi
    exact ⟨_, (Z.S.map V.int)[i], (x.le.scR hs).sq, by simp⟩
  · obtain ⟨rfl, y⟩ := y
    have := y _ (x.le.scR hs).sq
    obtain ⟨w, h1, h2⟩ := (WsR.ints (Z := Z) (ι := ι') (H := H2) Z.S).get2 this
    exact ⟨w, h1, Ext.refl _ _, R, h2⟩
  · exact ⟨_, (x.le.scR hs).sq, by simp⟩
theorem wk_lst {l : Nat} {a : Addr} {ws : List Wv} (hl : ι[l]? = some a) : Wk Z ι H (Itl Z.K a) ws [(l, .lst ws)] := by
  have at_ : ∀ {ι' H' M'}, Ext ι ι' H H' → RM Z ι' M' H' → stays [(l, .lst ws)] M' = true → ∃ vs, H' a = some (.lst vs) ∧ WsR Z ι' H' ws vs := fun {ι' H' M'} x R st => by
    have hM : M'[l]? = some (.lst ws) := by simpa [stays] using st
    exact R.ob _ _ _ hM (x.le.ix _ _ hl)
  refine ⟨fun i ι' H' M' x R st hi => ?_, fun i ι' H' M' v H2 x R st hi y => ?_, fun ι' H' M' x R st => ?_⟩
  · obtain ⟨vs, h1, h2⟩ := at_ x R st
    have hi : i < vs.length := by rw [← h2.length]; exact hi
    exact ⟨vs, vs[i], SqL.of h1, by simp⟩
  · obtain ⟨vs, h1, h2⟩ := at_ x R st
    obtain ⟨rfl, y⟩ := y
    obtain ⟨w, g1, g2⟩ := h2.get2 (y vs (SqL.of h1))
    exact ⟨w, g1, Ext.refl _ _, R, g2⟩
  · obtain ⟨vs, h1, h2⟩ := at_ x R st
    exact ⟨vs, SqL.of h1, by rw [h2.length]; exact Nat.le_refl _⟩
theorem wk_str (x : Str) : Wk Z ι H (Its x) (x.cps.toList.map fun c => .str ⟨#[c]⟩) [] := by
  refine ⟨fun i ι' H' M' _ R st hi => ?_, fun i ι' H' M' v H2 _ R st hi y => ?_, fun ι' H' M' _ R st => ?_⟩
  · show i < x.cps.size
    simpa using hi
  · obtain ⟨rfl, c, h1, rfl⟩ := y
    refine ⟨.str ⟨#[c]⟩, ?_, Ext.refl _ _, R, .str _⟩
    rw [List.getElem?_map, Array.getElem?_toList, h1]
    rfl
  · show x.cps.size ≤ _
    simp
theorem wk_rng (lo : Int) (n : Nat) : Wk Z ι H (Itr lo n) ((List.range n).map fun (k : Nat) => .int (lo + (k : Int))) [] := by
  refine ⟨fun i ι' H' M' _ R st hi => ?_, fun i ι' H' M' v H2 _ R st hi y => ?_, fun ι' H' M' _ R st => ?_⟩
  · show i < n
    simpa using hi
  · obtain ⟨rfl, rfl⟩ := y
    have hi : i < n := by simpa using hi
    exact ⟨.int (lo + i), by simp [hi], Ext.refl _ _, R, .int _⟩
  · show n ≤ _
    simp
theorem paired_at {α β : Type} {P : α → β → Prop} {xs : List α} {ys : List β} (h : Paired P xs ys) : ∀ {i : Nat} {y : β}, ys[i]? = some y → ∃ x, xs[i]? = some x ∧ P x y := by
  induction h with
  | nil => intro i y e; simp at e
  | cons h t ih =>
    intro i y e
    cases i with
    | zero => simp at e; subst e; exact ⟨_, rfl, h⟩
    | succ i => obtain ⟨x, h1, h2⟩ := ih (by simpa using e); exact ⟨x, by simpa using h1, h2⟩
theorem paired_fw {α β : Type} {P : α → β → Prop} {xs : List α} {ys : List β} (h : Paired P xs ys) : ∀ {i : Nat} {x : α}, xs[i]? = some x → ∃ y, ys[i]? = some y ∧ P x y := by
  induction h with
  | nil => intro i y e; simp at e
  | cons h t ih =>
    intro i y e
    cases i with
    | zero => simp at e; subst e; exact ⟨_, rfl, h⟩
    | succ i => obtain ⟨x, h1, h2⟩ := ih (by simpa using e); exact ⟨x, by simpa using h1, h2⟩
section
variable {d : Addr} {o : Obj} {ents : Array DictEntry} {kvs : List (Wv × Wv)} {ps : List (Nat × Ob)}
theorem wk_keys (hd : H d = some (lkO true d o)) (r : Paired (EnR Z ι H) kvs ents.toList) : Wk Z ι H (ItK d o ents) (kvs.map (·.1)) ps := by
  have hl : kvs.length = ents.size := by have := Paired.length r; rw [Array.length_toList] at this; exact this
  refine ⟨fun i ι' H' M' x R st hi => ?_, fun i ι' H' M' v H2 x R st hi y => ?_, fun ι' H' M' x R st => ?_⟩
  · have hi : i < kvs.length := by simpa using hi
    obtain ⟨en, h1, kv, vv, g1, g2, g3, g4, g5⟩ := paired_fw r (List.getElem?_eq_getElem hi)
    exact ⟨x.frz d o _ hd, en, kv, by rw [← Array.getElem?_toList]; exact h1, g1⟩
  · obtain ⟨rfl, en, h1, h2⟩ := y
    obtain ⟨q, h3, kv, vv, g1, g2, g3, g4, g5⟩ := paired_at r (by rw [Array.getElem?_toList]; exact h1)
    have e : v = kv := RelV.inj h2 g1
    subst e
    exact ⟨q.1, by rw [List.getElem?_map, h3]; rfl, Ext.refl _ _, R, g2.mono x.le⟩
  · exact ⟨x.frz d o _ hd, by rw [List.length_map, hl]; exact Nat.le_refl _⟩
theorem wk_vals (hd : H d = some (lkO true d o)) (r : Paired (EnR Z ι H) kvs ents.toList) : Wk Z ι H (ItV d o ents) (kvs.map (·.2)) ps := by
  have hl : kvs.length = ents.size := by have := Paired.length r; rw [Array.length_toList] at this; exact this
  refine ⟨fun i ι' H' M' x R st hi => ?_, fun i ι' H' M' v H2 x R st hi y => ?_, fun ι' H' M' x R st => ?_⟩
  · have hi : i < kvs.length := by simpa using hi
    obtain ⟨en, h1, kv, vv, g1, g2, g3, g4, g5⟩ := paired_fw r (List.getElem?_eq_getElem hi)
    exact ⟨x.frz d o _ hd, en, vv, by rw [← Array.getElem?_toList]; exact h1, g3⟩
  · obtain ⟨rfl, en, h1, h2⟩ := y
    obtain ⟨q, h3, kv, vv, g1, g2, g3, g4, g5⟩ := paired_at r (by rw [Array.getElem?_toList]; exact h1)
    have e : v = vv := RelV.inj h2 g3
    subst e
    exact ⟨q.2, by rw [List.getElem?_map, h3]; rfl, Ext.refl _ _, R, g4.mono x.le⟩
  · exact ⟨x.frz d o _ hd, by rw [List.length_map, hl]; exact Nat.le_refl _⟩
theorem wk_items (hd : H d = some (lkO true d o)) (r : Paired (EnR Z ι H) kvs ents.toList) : Wk Z ι H (ItI d o ents) (kvs.map fun p => .tup [p.1, p.2]) ps := by
  have hl : kvs.length = ents.size := by have := Paired.length r; rw [Array.length_toList] at this; exact this
  refine ⟨fun i ι' H' M' x R st hi => ?_, fun i ι' H' M' v H2 x R st hi y => ?_, fun ι' H' M' x R st => ?_⟩
  · have hi : i < kvs.length := by simpa using hi
    obtain ⟨en, h1, kv, vv, g1, g2, g3, g4, g5⟩ := paired_fw r (List.getElem?_eq_getElem hi)
    exact ⟨x.frz d o _ hd, en, kv, vv, by rw [← Array.getElem?_toList]; exact h1, g1, g3⟩
  · obtain ⟨T, en, k, v, h1, h2, h3, rfl, hT, rfl⟩ := y
    obtain ⟨q, h4, kv, vv, g1, g2, g3, g4, g5⟩ := paired_at r (by rw [Array.getElem?_toList]; exact h1)
    have e1 : k = kv := RelV.inj h2 g1
    have e2 : v = vv := RelV.inj h3 g3
    subst e1 e2
    have ex : Ext ι' ι' H' (upd H' T (.tup [k, v])) := Ext.fresh ι' hT
    exact ⟨.tup [q.1, q.2], by rw [List.getElem?_map, h4]; rfl, ex, R.fresh hT, .tup (SqT.of upd_same) (.cons ((g2.mono x.le).mono ex.le) (.cons ((g4.mono x.le).mono ex.le) .nil))⟩
  · exact ⟨x.frz d o _ hd, by rw [List.length_map, hl]; exact Nat.le_refl _⟩
end
/-- the dict's lock, old or new -/
theorem dict_lock (k : Bx X Z Wx G) {l : Nat} {a : Addr} {z : Bool} {kvs : List (Wv × Wv)} (I : L2.Inv X pins σ H s) (R : RM Z ι M H) (hM : M[l]? = some (.dct z kvs)) (hl : ι[l]? = some a) :
    ∃ o es ep H1 dl, o.ExactDict ∧ o.data = .dict es ep ∧ (a == sysModules) = false ∧ L2.Inv X pins σ H1 s ∧ H1 a = some (lkO true a o) ∧ Lk X Z ι ι H H1 M [(l, .dct z kvs)] dl ∧ Paired (EnR Z ι H1) kvs es.toList := by
  cases z with
  | true =>
    obtain ⟨o, es, ep, h1, h2, h3, h4, h5, h6, h7, h8⟩ := R.ob _ _ _ hM hl
    exact ⟨o, es, ep, H, none, h2, h3, h4, I, h1, Lk.none R LkS.old, h8⟩
  | false =>
    obtain ⟨o, es, ep, h2, h3, h4, I2, L, r⟩ := Lk.new I R hM hl
    exact ⟨o, es, ep, _, _, h2, h3, h4, I2, upd_same, L, r⟩
theorem i_val (k : Bx X Z Wx G) (ha : PE X a (TEx Z Wx G C C1 ea)) : PI X tg a (tI X Z Wx (evI G C C1 (.val ea))) := by
  refine ⟨fun pins s σ H R I ⟨ι, sw, M, sr, R0, h⟩ => ?_⟩
  simp only [evI] at h
  refine thn (ha.run pins s σ H (fun v H1 => ∃ ι1 M1 w, RM Z ι1 M1 H1 ∧ WR Z ι1 H1 w v ∧ iOut X Z Wx σ ι1 H1 (.ofO (walkV G w M1) M1) R) I (tE.seqI sr R0 h fun w M1 v H1 ι1 e1 R1 q1 s1 h1 => ⟨ι1, M1, w, R1, q1, h1⟩)) fun v s1 ⟨x, H1, I1, rx, ι1, M1, w, R1, wr, h1⟩ => ?_
  obtain ⟨⟨xs, ps⟩, e, h1⟩ := iOut.ofO1 h1
  cases wr with
  | tup hs ht =>
    cases e
    cases rx
    obtain ⟨its, rv, pt, hz⟩ := I1.tuple (by rw [k.K]; exact hs)
    refine wpAny_pyIter_tuple (show s1.heap.IsTuple _ its.toArray from pt) (pi_one (tk := s1.toks) I1 _ (turn_tuple _ _) ⟨_, Heap.get?_push_size _ rfl, rfl, rfl⟩ (h1 _ H1 ι1 none (Lk.none R1 LkS.nil) ?_))
    have W := wk_tup hs ht
    rw [k.K]
    exact W
  | scr hs =>
    cases e
    cases rx
    obtain ⟨its, rv, pt, hz⟩ := I1.list (by rw [k.K]; exact hs.sq)
    refine wpAny_pyIter_list pt.isList (pi_one (tk := s1.toks) I1 _ (turn_list _ _) ⟨_, Heap.get?_push_size _ rfl, rfl, rfl⟩ (h1 _ H1 ι1 none (Lk.none R1 LkS.nil) ?_))
    rw [k.K, ← k.hS]
    exact wk_scr hs
  | str x =>
    cases e
    obtain ⟨t, rfl⟩ := rx
    cases ha : x.cps.all (· < 128)
    · exact wpAny_pyIter_wide ha (pi_one (tk := s1.toks) I1 _ (turn_str _ x t "str_iterator" (.inr rfl)) ⟨_, Heap.get?_push_size _ rfl, rfl, rfl⟩ (h1 _ H1 ι1 none (Lk.none R1 LkS.nil) (wk_str x)))
    · exact wpAny_pyIter_ascii ha (pi_one (tk := s1.toks) I1 _ (turn_str _ x t "str_ascii_iterator" (.inl rfl)) ⟨_, Heap.get?_push_size _ rfl, rfl, rfl⟩ (h1 _ H1 ι1 none (Lk.none R1 LkS.nil) (wk_str x)))
  | ref hl =>
    cases rx
    simp only [walkV] at e
    split at e
    · rename_i ws hM
      cases e
      obtain ⟨vs, e1, e2⟩ := R1.ob _ _ _ hM hl
      obtain ⟨its, rv, pt, hz⟩ := I1.list (SqL.of (K := X.K) e1)
      refine wpAny_pyIter_list pt.isList (pi_one (tk := s1.toks) I1 _ (turn_list _ _) ⟨_, Heap.get?_push_size _ rfl, rfl, rfl⟩ (h1 _ H1 ι1 none (Lk.none R1 LkS.lst) ?_))
      rw [k.K]
      exact wk_lst hl
    · rename_i z kvs hM
      cases e
      obtain ⟨o, es, ep, H2, dl, d1, d2, d3, I2, d4, L, r⟩ := dict_lock k I1 R1 hM hl
      have hg := MP.Inv.dctO I2 d4
      refine wpAny_pyIter_dict_raw d3 ⟨o, hg, d1, d2⟩ (pi_one (tk := s1.toks) I2 _ (turnK _ d1 d2) ⟨_, Heap.get?_push_size _ rfl, rfl, rfl⟩ (h1 _ H2 ι1 dl L (wk_keys d4 r)))
    · cases e
  | _ => cases e
theorem i_rng2 (k : Bx X Z Wx G) (hm : X.mg "range" = none) (ha : PE X a (TEx Z Wx G C C1 ea)) (hb : PE X b (TEx Z Wx G C C1 eb)) (hg : gloB X.env "range" = true := by kernel_rfl)
    (hs : starEach [a, b] X.env = [(false, eval a X.env), (false, eval b X.env)] := by rfl) (hs2 : starEach [b] X.env = [(false, eval b X.env)] := by rfl) (hs3 : starEach [a, b] X.env = (false, eval a X.env) :: starEach [b] X.env := by rfl) (hs4 : starEach [b] X.env = (false, eval b X.env) :: starEach [] X.env := by rfl) :
    PI X tg (.Call (.Name "range" p) [a, b] [] pos) (tI X Z Wx (evI G C C1 (.rng ea eb))) := by
  obtain ⟨h1, h2, h3⟩ := gloB_ok hg
  refine (pi_range2 h1 hm (a_cons ha (a_cons hb a_nil hs4) hs3) hs hs2).weak fun σ H R ⟨ι, sw, M, s, R0, h⟩ => ⟨ι, sw, M, s, R0, ?_⟩
  simp only [evI] at h
  simp only [evL]
  cases e1 : evE G C C1 ea sw M with
  | bad => rw [e1] at h; exact h
  | exc c M1 => rw [e1] at h; exact h
  | ok x M1 =>
    rw [e1] at h
    simp only [Out.bind_ok] at h ⊢
    cases e2 : evE G C C1 eb sw M1 with
    | bad => rw [e2] at h; exact h
    | exc c M2 => rw [e2] at h; exact h
    | ok y M2 =>
      rw [e2] at h
      simp only [Out.bind_ok] at h ⊢
      intro vs H' ι' x1 R1 wr
      cases hx : toI x with
      | none => simp only [hx] at h; exact False.elim h
      | some i =>
        cases hy : toI y with
        | none => simp only [hx, hy] at h; exact False.elim h
        | some j =>
          simp only [hx, hy] at h
          cases x <;> cases hx
          cases y <;> cases hy
          cases wr with
          | cons w1 t1 =>
            cases t1 with
            | cons w2 t2 =>
              cases t2
              cases w1; cases w2
              cases hc : (rngOk i && rngOk j) with
              | false => rw [hc] at h; exact False.elim h
              | true =>
                rw [hc] at h
                have h : iOut X Z Wx σ ι H (.ok (rngW i j, []) M2) R := h
                rw [Bool.and_eq_true] at hc
                unfold rngOk at hc
                rw [Bool.and_eq_true, Bool.and_eq_true, decide_eq_true_eq, decide_eq_true_eq, decide_eq_true_eq, decide_eq_true_eq] at hc
                refine ⟨i, j, rfl, ⟨by omega, by omega, by omega, by omega⟩, h _ H' ι' none ((Lk.none R1 LkS.nil).pre x1) (wk_rng i _)⟩
theorem i_rng1 (k : Bx X Z Wx G) (hm : X.mg "range" = none) (hb : PE X b (TEx Z Wx G C C1 eb)) (hg : gloB X.env "range" = true := by kernel_rfl)
    (hs2 : starEach [b] X.env = [(false, eval b X.env)] := by rfl) (hs4 : starEach [b] X.env = (false, eval b X.env) :: starEach [] X.env := by rfl) :
    PI X tg (.Call (.Name "range" p) [b] [] pos) (tI X Z Wx (evI G C C1 (.rng (.con (.int 0)) eb))) := by
  obtain ⟨h1, h2, h3⟩ := gloB_ok hg
  refine (pi_range1 h1 hm (a_cons hb a_nil hs4) hs2).weak fun σ H R ⟨ι, sw, M, s, R0, h⟩ => ⟨ι, sw, M, s, R0, ?_⟩
  simp only [evI, evE, Out.bind_ok] at h
  simp only [evL]
  cases e2 : evE G C C1 eb sw M with
  | bad => rw [e2] at h; exact h
  | exc c M2 => rw [e2] at h; exact h
  | ok y M2 =>
    rw [e2] at h
    simp only [Out.bind_ok] at h ⊢
    intro vs H' ι' x1 R1 wr
    cases hy : toI y with
    | none => simp only [show toI (Wv.int 0) = some 0 from rfl, hy] at h; exact False.elim h
    | some j =>
      simp only [show toI (Wv.int 0) = some 0 from rfl, hy] at h
      cases y <;> cases hy
      cases wr with
      | cons w1 t1 =>
        cases t1
        cases w1
        cases hc : (rngOk 0 && rngOk j) with
        | false => rw [hc] at h; exact False.elim h
        | true =>
          rw [hc] at h
          have h : iOut X Z Wx σ ι H (.ok (rngW 0 j, []) M2) R := h
          rw [Bool.and_eq_true] at hc
          unfold rngOk at hc
          rw [Bool.and_eq_true, Bool.and_eq_true, decide_eq_true_eq, decide_eq_true_eq, decide_eq_true_eq, decide_eq_true_eq] at hc
          refine ⟨j, rfl, by omega, by omega, h _ H' ι' none ((Lk.none R1 LkS.nil).pre x1) ?_⟩
          have W := wk_rng (Z := Z) (ι := ι') (H := H') 0 (j - 0).toNat
          rw [Int.sub_zero] at W
          unfold rngW
          rw [Int.sub_zero]
          exact W
theorem itmW_at {w : Wv} {v : V} {r : List (Wv × Wv) × List (Nat × Ob)} (wr : WR Z ι H w v) (e : itmW w M = some r) : ∃ l a z kvs, v = .ref a ∧ ι[l]? = some a ∧ M[l]? = some (.dct z kvs) ∧ r = (kvs, [(l, .dct z kvs)]) := by
  cases wr with
  | ref hl =>
    rename_i l a
    simp only [itmW] at e
    split at e
    · rename_i z kvs hM
      cases e
      exact ⟨l, a, z, kvs, rfl, hl, hM, rfl⟩
    · cases e
  | _ => cases e
theorem i_items {elts : List Expr} {kk : Nat} {tpos cpos : Pos} (k : Bx X Z Wx G) (ha : PE X a (TEx Z Wx G C C1 ea)) (hbase : attributeBase a "items" X.env (eval a X.env) = eval a X.env := by rfl) (hline : (apos.endLine == cpos.line) = true := by rfl) :
    PI X (.Tuple elts kk tpos) (.Call (.Attribute a "items" apos) [] [] cpos) (tI X Z Wx (evI G C C1 (.items ea))) := by
  refine ⟨fun pins s σ H R I ⟨ι, sw, M, sr, R0, h⟩ => ?_⟩
  simp only [evI] at h
  refine wpAny_Call_method (T := "dict") (id := "dict.items") hbase rfl hline F.plainAttrs_dict F.slot_dict_items F.type_dict_items (thn (ha.run pins s σ H (fun v H1 => ∃ ι1 M1 w r, RM Z ι1 M1 H1 ∧ WR Z ι1 H1 w v ∧ itmW w M1 = some r ∧ iOut X Z Wx σ ι1 H1 (.ok (r.1.map fun p => .tup [p.1, p.2], r.2) M1) R) I
    (tE.seqI sr R0 h fun w M1 v H1 ι1 e1 R1 q1 s1 h1 => by
      obtain ⟨r, e, h1⟩ := iOut.ofO h1
      exact ⟨ι1, M1, w, r, R1, q1, e, h1⟩)) fun v s1 ⟨x, H1, I1, rx, ι1, M1, w, r, R1, wr, e, h1⟩ => ?_)
  obtain ⟨l, d, z, kvs, rfl, hl, hM, rfl⟩ := itmW_at wr e
  cases rx
  obtain ⟨o, es, ep, H2, dl, d1, d2, d3, I2, d4, L, r⟩ := dict_lock k I1 R1 hM hl
  have hg := MP.Inv.dctO I2 d4
  have hm : s1.heap.DictRaw d es ep := ⟨o, hg, d1, d2⟩
  refine ⟨hm.typeIs, fun b q => by cases q; exact ⟨o, hg, d1.2.1⟩, ?_⟩
  have I3 : L2.Inv X pins σ H2 { s1 with heap := s1.heap.push { cls := .type "dict_items", data := .fields #[.ref d] } } := I2.kept (t' := s1.toks) fun b ob q => Heap.get?_push_of_some _ q
  have fin : wpAny (model X.prog X.w) X.A (pyIter (.ref s1.heap.objs.size)) (PIE X pins σ (.Tuple elts kk tpos) R) X.xe { s1 with heap := s1.heap.push { cls := .type "dict_items", data := .fields #[.ref d] } } :=
    wpAny_pyIter_items_raw (d := d) ⟨_, Heap.get?_push_size _ rfl, rfl, rfl⟩ (hm.push _) (pi_one (tk := s1.toks) I3 _ (turnI _ d1 d2) ⟨.none, .none, Heap.get?_push_size _ rfl⟩ (h1 _ H2 ι1 dl L (wk_items d4 r)))
  show wpAny _ _ (callWith cpos (.builtin "dict.items") [.ref d] [] []) _ X.xe s1
  exact method_meetsIn F.slot_dict_items F.entry_dict_items rfl (PySem.evalArgs_none ⟨rfl, hm.typeIs, F.args_dict_items_1 _, _, meets_dict_items_raw d d3, ⟨es, ep, hm⟩, fin⟩)
theorem i_vals {cpos : Pos} (k : Bx X Z Wx G) (ha : PE X a (TEx Z Wx G C C1 ea)) (hbase : attributeBase a "values" X.env (eval a X.env) = eval a X.env := by rfl) (hline : (apos.endLine == cpos.line) = true := by rfl) :
    PI X tg (.Call (.Attribute a "values" apos) [] [] cpos) (tI X Z Wx (evI G C C1 (.vals ea))) := by
  refine ⟨fun pins s σ H R I ⟨ι, sw, M, sr, R0, h⟩ => ?_⟩
  simp only [evI] at h
  refine wpAny_Call_method (T := "dict") (id := "dict.values") hbase rfl hline F.plainAttrs_dict F.slot_dict_values F.type_dict_values (thn (ha.run pins s σ H (fun v H1 => ∃ ι1 M1 w r, RM Z ι1 M1 H1 ∧ WR Z ι1 H1 w v ∧ itmW w M1 = some r ∧ iOut X Z Wx σ ι1 H1 (.ok (r.1.map fun p => p.2, r.2) M1) R) I
    (tE.seqI sr R0 h fun w M1 v H1 ι1 e1 R1 q1 s1 h1 => by
      obtain ⟨r, e, h1⟩ := iOut.ofO h1
      exact ⟨ι1, M1, w, r, R1, q1, e, h1⟩)) fun v s1 ⟨x, H1, I1, rx, ι1, M1, w, r, R1, wr, e, h1⟩ => ?_)
  obtain ⟨l, d, z, kvs, rfl, hl, hM, rfl⟩ := itmW_at wr e
  cases rx
  obtain ⟨o, es, ep, H2, dl, d1, d2, d3, I2, d4, L, r⟩ := dict_lock k I1 R1 hM hl
  have hg := MP.Inv.dctO I2 d4
  have hm : s1.heap.DictRaw d es ep := ⟨o, hg, d1, d2⟩
  refine ⟨hm.typeIs, fun b q => by cases q; exact ⟨o, hg, d1.2.1⟩, ?_⟩
  have I3 : L2.Inv X pins σ H2 { s1 with heap := s1.heap.push { cls := .type "dict_values", data := .fields #[.ref d] } } := I2.kept (t' := s1.toks) fun b ob q => Heap.get?_push_of_some _ q
  have fin : wpAny (model X.prog X.w) X.A (pyIter (.ref s1.heap.objs.size)) (PIE X pins σ tg R) X.xe { s1 with heap := s1.heap.push { cls := .type "dict_values", data := .fields #[.ref d] } } :=
    wpAny_pyIter_values_raw (d := d) ⟨_, Heap.get?_push_size _ rfl, rfl, rfl⟩ (hm.push _) (pi_one (tk := s1.toks) I3 _ (turnV _ d1 d2) ⟨_, Heap.get?_push_size _ rfl, rfl, rfl⟩ (h1 _ H2 ι1 dl L (wk_vals d4 r)))
  show wpAny _ _ (callWith cpos (.builtin "dict.values") [.ref d] [] []) _ X.xe s1
  exact method_meetsIn F.slot_dict_values F.entry_dict_values rfl (PySem.evalArgs_none ⟨rfl, hm.typeIs, F.args_dict_values_1 _, _, meets_dict_values_raw d d3, ⟨es, ep, hm⟩, fin⟩)
/-! ### targets -/
theorem wipe_set0 (σ : L2.St) (i : Nat) (x : Option V) : ∀ vs : List Nat, (wipe (σ.set i x) vs).set i none = (wipe σ vs).set i none
  | [] => by simp [wipe, List.set_set]
  | v :: vs => by
    unfold wipe
    by_cases h : v = i
    · subst h
      rw [List.set_set, List.set_set, wipe_set0 σ v x vs]
    · rw [List.set_comm _ _ h, wipe_set0 σ i x vs, List.set_comm _ _ (Ne.symm h)]
theorem wipe_set {σ : L2.St} {i : Nat} : ∀ {vs : List Nat}, i ∈ vs → ∀ x : Option V, wipe (σ.set i x) vs = wipe σ vs
  | [], h, _ => by cases h
  | v :: vs, h, x => by
    unfold wipe
    by_cases e : i = v
    · subst e
      exact wipe_set0 σ i x vs
    · rw [wipe_set (List.mem_of_ne_of_mem e h) x]
def setsV : List Nat → List V → L2.St → L2.St
  | i :: is, v :: vs, σ => setsV is vs (σ.set i (some v))
  | _, _, σ => σ
/-- a target's reading -/
def gT (K : PySem.W.Frag) (t : Tg) : TG := match t with
  | .nm i => gName i
  | .tup is => fun v σ H Q => ∃ a vs, v = .ref a ∧ SqT K H a vs ∧ vs.length = is.length ∧ Q (setsV is vs σ) H
theorem tgW_rel {t : Tg} {w : Wv} {v : V} {τ : Sw} (hs : SR Z ι H sw σ) (wr : WR Z ι H w v) (e : tgW t w sw = some τ) {Q : L2.St → Hp → Prop} (h : ∀ σ', SR Z ι H τ σ' → (∀ vs, (∀ i ∈ t.slots, i ∈ vs) → wipe σ' vs = wipe σ vs) → Q σ' H) : gT Z.K t v σ H Q := by
  cases t with
  | nm i =>
    simp only [tgW] at e
    cases e
    refine h _ (hs.set wr i) fun vs hv => ?_
    exact wipe_set (hv i (by simp [Tg.slots])) _
  | tup is =>
    cases wr with
    | tup hsq ht =>
      simp only [tgW] at e
      rename_i ws vs a
      have go : ∀ (is : List Nat) (ws : List Wv) (vs : List V) (sw τ : Sw) (σ : L2.St), SR Z ι H sw σ → WsR Z ι H ws vs → setAll is ws sw = some τ → vs.length = is.length ∧ SR Z ι H τ (setsV is vs σ) ∧ ∀ us, (∀ i ∈ is, i ∈ us) → wipe (setsV is vs σ) us = wipe σ us := by
        intro is
        induction is with
        | nil =>
          intro ws vs sw τ σ hs ht e
          cases ht with
          | nil => simp only [setAll] at e; cases e; exact ⟨rfl, hs, fun us _ => rfl⟩
          | cons _ _ => simp [setAll] at e
        | cons i is ih =>
          intro ws vs sw τ σ hs ht e
          cases ht with
          | nil => simp [setAll] at e
          | cons h1 t1 =>
            simp only [setAll] at e
            obtain ⟨a1, a2, a3⟩ := ih _ _ _ _ _ (hs.set h1 i) t1 e
            refine ⟨by simp [a1], a2, fun us hu => ?_⟩
            show wipe (setsV is _ (σ.set i _)) us = _
            rw [a3 us fun j hj => hu j (List.mem_cons_of_mem _ hj)]
            exact wipe_set (hu i List.mem_cons_self) _
      obtain ⟨a1, a2, a3⟩ := go is ws vs sw τ σ hs ht e
      exact ⟨a, vs, rfl, hsq, a1, h _ a2 a3⟩
    | _ => cases e
end
end MP
end
section
set_option Elab.async false
set_option linter.all false
set_option maxRecDepth 100000
/-! MP15: targets, comprehensions. -/
namespace MP
open PySem PySem.Spec PyProof.Rows L2

theorem Out.bind_assoc {α β γ : Type} (x : Out α) (f : α → Mem → Out β) (g : β → Mem → Out γ) : (x.bind f).bind g = x.bind fun a M => (f a M).bind g := by
  cases x <;> rfl
theorem Out.bind_okE {α β : Type} {x : Out α} {f : α → Mem → Out β} {b : β} {M' : Mem} (h : x.bind f = .ok b M') : ∃ a M, x = .ok a M ∧ f a M = .ok b M' := by
  cases x with
  | ok a M => exact ⟨a, M, rfl, h⟩
  | exc c M => cases h
  | bad => cases h
theorem Out.chk_okE {α : Type} {q : Bool} {x : Out α} {b : α} {M' : Mem} (h : Out.chk q x = .ok b M') : q = true ∧ x = .ok b M' := by
  cases q with
  | true => exact ⟨rfl, h⟩
  | false => cases h
theorem Out.ofO_okE {α : Type} {o : Option α} {M M' : Mem} {b : α} (h : Out.ofO o M = .ok b M') : o = some b ∧ M = M' := by
  cases o with
  | none => cases h
  | some a => cases h; exact ⟨rfl, rfl⟩
/-- no refusal is wished for -/
def Wf : Wish := fun _ _ _ => False
/-! ### targets -/
def stoB (N : List Str) (sc : Scope) (fn : Str → Bool) (i : Nat) (x : Str) : Bool := decide (N[i]? = some x) && match sc.names.lookup x with
  | some .local => true
  | some .cell => fn x
  | _ => false
section
variable {X : Cx} {Z : Zt} {Wx : Wish} {G : Pg} {C C1 : Nat → List Wv → Mem → Out Wv} {a b c e tg iter elt : Expr} {es : List Expr} {ea eb ec ee : Ex} {el : El} {it : MP.It} {pos p p2 p3 apos : Pos}
variable {pins : List (Addr × Obj)} {σ : L2.St} {H H1 H2 : Hp} {s : Shared} {ι ι1 ι2 : List Addr} {M : Mem} {sw : Sw}
theorem stoB_ok {i : Nat} {x : Str} (h : stoB X.N X.env.scope X.fn i x = true) : X.N[i]? = some x ∧ Loc X.env.scope x ∧ (X.fn x = true ∨ X.env.scope.names.lookup x = some .local) := by
  unfold stoB at h
  rw [Bool.and_eq_true] at h
  refine ⟨of_decide_eq_true h.1, ?_⟩
  have h2 := h.2
  split at h2
  · rename_i e; exact ⟨.inl e, .inr e⟩
  · rename_i e; exact ⟨.inr e, .inl h2⟩
  · cases h2
theorem g_nm (nd : X.N.Nodup) (K : PySem.W.Frag) (i : Nat) {x : Str} (h : stoB X.N X.env.scope X.fn i x = true := by kernel_rfl) : PG X (.Name x pos) (gT K (.nm i)) := by
  obtain ⟨h1, h2, h3⟩ := stoB_ok h
  exact pg_name nd h1 h2 h3
/-- several names -/
def gSet (is : List Nat) : TGs := fun vs σ H Q => vs.length = is.length ∧ Q (setsV is vs σ) H
theorem _root_.L2.PGs.weak {ts : List Expr} {t t' : TGs} (h : PGs X ts t) (w : ∀ v σ H Q, t' v σ H Q → t v σ H Q) : PGs X ts t' := ⟨fun pins s σ H vs us Q I r q => h.run pins s σ H vs us Q I r (w vs σ H Q q)⟩
theorem gs_nil : PGs X [] (gSet []) := pgs_nil.weak fun v σ H Q ⟨h1, h2⟩ => by
  cases v with
  | nil => exact ⟨rfl, h2⟩
  | cons _ _ => cases h1
theorem gs_cons (nd : X.N.Nodup) (i : Nat) {x : Str} {is : List Nat} (hr : PGs X es (gSet is)) (h : stoB X.N X.env.scope X.fn i x = true := by kernel_rfl)
    (hs : (assignEach (.Name x pos :: es) X.env).map (·.2) = assign (.Name x pos) X.env :: (assignEach es X.env).map (·.2) := by rfl) : PGs X (.Name x pos :: es) (gSet (i :: is)) := by
  obtain ⟨h1, h2, h3⟩ := stoB_ok h
  refine (pgs_cons (pg_name nd h1 h2 h3) hr hs).weak fun v σ H Q ⟨q1, q2⟩ => ?_
  cases v with
  | nil => cases q1
  | cons v vs => exact ⟨v, vs, rfl, by simpa using q1, q2⟩
theorem g_tup (hc : X.calm = true) {k : Nat} {is : List Nat} {K : PySem.W.Frag} (hK : X.K = K) (hr : PGs X es (gSet is)) (hn : (assignEach es X.env).length = is.length := by rfl) (hst : (assignEach es X.env).findIdx? (·.1) = none := by rfl) : PG X (.Tuple es k pos) (gT K (.tup is)) := by
  have h := pg_tup (n := is.length) (k := k) (pos := pos) hc hr hn hst
  refine ⟨fun pins s σ H v u Q I r ⟨a, vs, e, hq, hl, q⟩ => h.run pins s σ H v u Q I r ⟨a, vs, e, by rw [hK]; exact hq, hl, hl, q⟩⟩
/-! ### blocks -/
theorem Bx.blk (k : Bx X Z Wx G) (s : Shared) (H : Hp) (scope : Scope) (ce : Env) (fp : List Addr) : Bx (X.blk s H scope ce fp) Z Wf G :=
  ⟨⟨k.K, k.P, k.w, k.calm, k.un⟩, k.hS, k.nd, fun u s' ⟨a, B, sI, pins, σ, H, cls, d, e, I, nb, up, sky, na, os, ag, c, ec, w⟩ => False.elim w⟩
/-- an end behind a walk -/
theorem pe_unl {t : TE} (h : PE X e t) : PE X e (fun σ H Q => t σ H fun v H' => ∃ dl, UlOk X dl H' ∧ Q v (ulH dl H')) :=
  ⟨fun pins s σ H Q I hw => thn (h.run pins s σ H _ I hw) fun u s' ⟨v, H', I', r, dl, uo, q⟩ => ⟨v, _, inv_ul I' uo, r, q⟩⟩
/-- an object that is not told of is written -/
theorem Ext.side (e : Ext ι ι1 H H1) {D : Addr} {ho : HO} (hD : H D = none) (nt : NoT ho := by intro ps z; cases z) : Ext ι ι1 H (upd H1 D ho) :=
  ⟨e.pre, fun a o h nt hx => by rw [upd_ne (ne_of_none h hD)]; exact e.frm a o h nt hx, fun a ob φ h => by rw [upd_ne (ne_of_none h hD)]; exact e.frz a ob φ h, fun a h => by
    by_cases q : a = D
    · rw [q]; exact Vac.of hD
    · exact e.dom a (h.upd_ne q)⟩
theorem Le.side {D : Addr} {h0 ho : HO} (hD : H D = some h0) (ni : ¬ Imm h0) : Le ι ι H (upd H D ho) := ⟨fun _ _ h => h, fun a o h i => by
  have ne : a ≠ D := fun z => by rw [z, hD] at h; cases h; exact ni i
  rw [upd_ne ne]; exact h⟩
theorem RM.side (R : RM Z ι M H) {D : Addr} {h0 ho : HO} (hn : D ∉ ι) (hD : H D = some h0) (ni : ¬ Imm h0) (nt : NoT h0) (nc : ∀ q, h0 ≠ LamX.CodeO D q) : RM Z ι M (upd H D ho) :=
  ⟨R.len, R.nd, fun l o a h1 h2 => (R.ob l o a h1 h2).mono (Le.side hD ni) fun z q _ => by
    have ne : a ≠ D := fun z => hn (by rw [← z]; exact List.mem_of_getElem? h2)
    rw [upd_ne ne]; exact q, tabs_write R.tab hD nt nc⟩
theorem notin_ext (e : Ext ι ι1 H H1) {D : Addr} {h0 : HO} (hn : D ∉ ι) (hD : H D = some h0) (nt : NoT h0 := by intro ps z; cases z) : D ∉ ι1 := fun hm => by
  obtain ⟨κ, rfl, hκ⟩ := e.pre
  rcases List.mem_append.mp hm with z | z
  · exact hn z
  · exact hκ D z h0 hD nt
theorem ul_ne {dl : Option (Addr × Obj)} {D : Addr} {h0 : HO} (uo : UlOk X dl H) (hD : H D = some h0) (hf : ∀ o, h0 ≠ lkO true D o) : ulH dl H D = some h0 := by
  cases dl with
  | none => exact hD
  | some q =>
    have ne : D ≠ q.1 := fun z => by
      have := uo.1
      rw [← z, hD] at this
      cases this
      exact hf q.2 rfl
    show upd H q.1 (DctO q.1 q.2) D = _
    rw [upd_ne ne]
    exact hD
/-! ### list comprehensions -/
theorem wipe_idem (σ : L2.St) : ∀ vs : List Nat, wipe (wipe σ vs) vs = wipe σ vs
  | [] => rfl
  | v :: vs => by
    show (wipe ((wipe σ vs).set v none) vs).set v none = (wipe σ vs).set v none
    rw [wipe_set0, wipe_idem σ vs]
theorem ifs_none : PTs X [] (TTx Z Wf G C C1 (.con (.bl true))) := ⟨fun pins s σ H Q I ⟨ι, sw, M, sr, R, h⟩ => pts_nil.run pins s σ H Q I (by
  have e : evT G C C1 (.con (.bl true)) sw M = .ok true M := by unfold evT; simp only [evE]; rfl
  rw [e] at h
  exact h H ι (Ext.refl _ _) R)⟩
theorem ifs_one (h : PT X c (TTx Z Wf G C C1 ec)) : PTs X [c] (TTx Z Wf G C C1 ec) := pts_one h
/-- a reading of a value that can't be refused, when its reckoning is known -/
theorem tE_ok {f : Fv} {R : VK} {w : Wv} {M1 : Mem} (s : SR Z ι H sw σ) (R0 : RM Z ι M H) (e : f sw M = .ok w M1) (hk : ∀ v H1 ι1, Ext ι ι1 H H1 → RM Z ι1 M1 H1 → WR Z ι1 H1 w v → SR Z ι1 H1 sw σ → R v H1) : tE Z Wx f σ H R :=
  ⟨ι, sw, M, s, R0, by rw [e]; exact fun v H' ι' x R q => hk v H' ι' x R q (s.mono x.le)⟩
theorem tT_ok {f : Sw → Mem → Out Bool} {R : Bool → Hp → Prop} {w : Bool} {M1 : Mem} (s : SR Z ι H sw σ) (R0 : RM Z ι M H) (e : f sw M = .ok w M1) (hk : ∀ H1 ι1, Ext ι ι1 H H1 → RM Z ι1 M1 H1 → SR Z ι1 H1 sw σ → R w H1) : tT Z Wx f σ H R :=
  ⟨ι, sw, M, s, R0, by rw [e]; exact fun H' ι' x R => hk H' ι' x R (s.mono x.le)⟩
theorem lc_read {t : Tg} {Q : VK} (h : TEx Z Wx G C C1 (.lc ee t it ec) σ H Q) : tLc (tI X Z Wx (evI G C C1 it)) (gT Z.K t) (TTx Z Wf G C C1 ec) (TEx Z Wf G C C1 ee) t.slots σ H fun v H' => ∃ dl, UlOk X dl H' ∧ Q v (ulH dl H') := by
  obtain ⟨ι, sw, M, s, R0, h⟩ := h
  refine ⟨ι, sw, M, s, R0, ?_⟩
  simp only [evE] at h
  cases e : evI G C C1 it sw M with
  | bad => rw [e] at h; exact h
  | exc c M1 => rw [e] at h; exact h
  | ok r M1 =>
    obtain ⟨xs, ps⟩ := r
    rw [e] at h
    intro J H1 ι1 dl L W D hD
    simp only [Out.bind_ok] at h
    cases e3 : lcGo G t (evE G C C1 ec) (evE G C C1 ee) ps xs (wipeW sw t.slots) [] (lockM ps M1) with
    | bad => rw [e3] at h; exact False.elim h
    | exc c M3 => rw [e3] at h; exact False.elim h
    | ok ws3 M3 =>
      rw [e3] at h
      have h : eOut Z Wx σ ι H (.ok (.ref (unlkM ps M3).length) (unlkM ps M3 ++ [.lst ws3])) Q := h
      refine ⟨fun i m H2 => m = xs.length - i ∧ i ≤ xs.length ∧ ∃ ι2 M2 acc accV, H2 D = some (.lst accV) ∧ D ∉ ι2 ∧ RM Z ι2 M2 H2 ∧ Ext ι1 ι2 H1 H2 ∧ WsR Z ι2 H2 acc accV ∧ lcGo G t (evE G C C1 ec) (evE G C C1 ee) ps (xs.drop i) (wipeW sw t.slots) acc M2 = .ok ws3 M3,
        ⟨xs.length, by simp, Nat.zero_le _, ι1, lockM ps M1, [], [], upd_same, L.rm.notin hD, L.rm.fresh hD, Ext.fresh ι1 hD, .nil, by simpa using e3⟩, ?_⟩
      rintro i m H2 ⟨rfl, hi, ι2, M2, acc, accV, hD2, nD, R2, x2, wacc, e2⟩
      have ss : SR Z ι2 H2 (wipeW sw t.slots) (wipe σ t.slots) := ((s.mono L.le).mono x2.le).wipe _
      have nt : NoT (.lst accV) := fun ps z => by cases z
      have ni : ∀ l : List V, ¬ Imm (.lst l) := fun l z => by rcases z with ⟨_, z⟩ | ⟨_, _, z, _⟩ <;> cases z
      by_cases hlt : i < xs.length
      · refine .inr ?_
        rw [List.drop_eq_getElem_cons hlt] at e2
        simp only [lcGo] at e2
        obtain ⟨st, e2⟩ := Out.chk_okE e2
        refine ⟨W.go i ι2 H2 M2 x2 R2 st hlt, fun H' => xs.length - (i + 1) = xs.length - (i + 1) ∧ i + 1 ≤ xs.length ∧ ∃ ι2 M2 acc accV, H' D = some (.lst accV) ∧ D ∉ ι2 ∧ RM Z ι2 M2 H' ∧ Ext ι1 ι2 H1 H' ∧ WsR Z ι2 H' acc accV ∧ lcGo G t (evE G C C1 ec) (evE G C C1 ee) ps (xs.drop (i + 1)) (wipeW sw t.slots) acc M2 = .ok ws3 M3,
          fun H' q => ⟨xs.length - (i + 1), by omega, q⟩, fun v H' y => ?_⟩
        obtain ⟨w, hw, x3, R3, wr⟩ := W.yld i ι2 H2 M2 v H' x2 R2 st hlt y
        have ew : xs[i] = w := by rw [List.getElem?_eq_getElem hlt] at hw; exact Option.some.inj hw
        rw [ew] at e2
        cases et : tgW t w (wipeW sw t.slots) with
        | none => rw [et] at e2; cases e2
        | some τ =>
          rw [et] at e2
          simp only at e2
          refine tgW_rel (ss.mono x3.le) wr et fun σ' sr' wp => ⟨?_, ?_⟩
          · have := wp t.slots (fun _ z => z)
            rw [this]
            exact wipe_idem σ t.slots
          · rw [← Out.bind_assoc] at e2
            obtain ⟨q, M4, e4, e2⟩ := Out.bind_okE e2
            have x13 := x2.trans x3
            have hD3 : H' D = some (.lst accV) := x3.frm D _ hD2 nt (.inl nD)
            refine tT_ok sr' R3 (show evT G C C1 ec τ M2 = .ok q M4 from e4) fun H4 ι4 x4 R4 s4 => ?_
            have hD4 : H4 D = some (.lst accV) := x4.frm D _ hD3 nt (.inl nD)
            have nD4 := notin_ext x4 nD hD3
            cases q with
            | false =>
              rw [if_neg Bool.false_ne_true] at e2 ⊢
              exact ⟨rfl, hlt, ι4, M4, acc, accV, hD4, nD4, R4, x13.trans x4, (wacc.mono x3.le).mono x4.le, e2⟩
            | true =>
              rw [if_pos rfl] at e2 ⊢
              obtain ⟨y, M5, e5, e2⟩ := Out.bind_okE e2
              obtain ⟨zl, e2⟩ := Out.chk_okE e2
              refine tE_ok s4 R4 e5 fun yv H5 ι5 x5 R5 wy s5 => ?_
              have hD5 : H5 D = some (.lst accV) := x5.frm D _ hD4 nt (.inl nD4)
              have nD5 := notin_ext x5 nD4 hD4
              have wacc5 := ((wacc.mono x3.le).mono x4.le).mono x5.le
              have zl := of_decide_eq_true zl
              have le6 : Le ι5 ι5 H5 (upd H5 D (.lst (accV ++ [yv]))) := Le.side hD5 (ni _)
              refine ⟨accV, hD5, by rw [← wacc5.length]; omega, rfl, hlt, ι5, M5, acc ++ [y], accV ++ [yv], upd_same, nD5, R5.side nD5 hD5 (ni _) nt (fun q z => by cases z), ((x13.trans x4).trans x5).side hD, (wacc5.append (.cons wy .nil)).mono le6, e2⟩
      · have ei : i = xs.length := by omega
        subst ei
        rw [List.drop_length] at e2
        simp only [lcGo] at e2
        obtain ⟨st, e2⟩ := Out.chk_okE e2
        cases e2
        refine .inl ⟨W.stop ι2 H2 M3 x2 R2 st, dl, ?_⟩
        obtain ⟨u1, u2, u3, u4⟩ := L.un x2 R2
        refine ⟨u4, ?_⟩
        have hDu : ulH dl H2 D = some (.lst accV) := ul_ne u4 hD2 fun o z => by cases z
        have hD0 : Vac H D := by
          refine L.ext.dom D (Vac.of ?_)
          cases dl with
          | none => exact hD
          | some q =>
            have ne : D ≠ q.1 := fun z => by
              obtain ⟨l, kvs, _, _, _, hd, _⟩ := L.lk
              rw [← z, hD] at hd
              cases hd
            show upd H1 q.1 (DctO q.1 q.2) D = none
            rw [upd_ne ne]
            exact hD
        refine h (.ref D) _ (ι2 ++ [D]) (Ext.told hD0 u1 nD) (u2.tell nD ⟨accV, hDu, (wacc.mono u3).mono (Le.grow ι2 [D] _)⟩) (.ref (snoc_ix u2 D))
theorem e_lc (k : Bx X Z Wx G) {t : Tg} {ifs : List Expr} {scope : Scope} {own : List (Str × Nat)} (hi : PI X tg iter (tI X Z Wx (evI G C C1 it))) (ok : BlkOk X.N X.env.scope scope own) (ho : own.map (·.2) = t.slots)
    (hg : ∀ (s : Shared) (H : Hp) (Cc : Addr) (cl : List (Str × Addr)) (fp : List Addr), PG (X.blk s H scope (compEnvC scope cl Cc X.env) fp) tg (gT Z.K t))
    (ht : ∀ (s : Shared) (H : Hp) (Cc : Addr) (cl : List (Str × Addr)) (fp : List Addr), PTs (X.blk s H scope (compEnvC scope cl Cc X.env) fp) ifs (TTx Z Wf G C C1 ec))
    (he : ∀ (s : Shared) (H : Hp) (Cc : Addr) (cl : List (Str × Addr)) (fp : List Addr), PE (X.blk s H scope (compEnvC scope cl Cc X.env) fp) elt (TEx Z Wf G C C1 ee)) (hs : ∀ x, foldedSetIterable iter X.env x = pure x := by intro _; rfl) :
    PE X (.ListComp elt [⟨tg, iter, ifs, 0⟩] scope pos) (TEx Z Wx G C C1 (.lc ee t it ec)) :=
  (pe_unl (pe_lc k.calm k.nd hi ok hg ht he hs)).weak fun σ H Q h => by rw [ho]; exact lc_read h
/-- name = [..] on one line -/
theorem s_setLc (k : Bx X Z Wx G) {t : Tg} {i : Nat} {y : Str} {py spos : Pos} {ifs : List Expr} {scope : Scope} {own : List (Str × Nat)} (hy : X.N[i]? = some y) (hyl : X.env.scope.names.lookup y = some .local)
    (hsw : swapsWith (.ListComp elt [⟨tg, iter, ifs, 0⟩] scope pos) (some (.Name y py)) spos.line X.env = pure true) (hi : PI X tg iter (tI X Z Wx (evI G C C1 it))) (ok : BlkOk X.N X.env.scope scope own) (ho : own.map (·.2) = t.slots)
    (hg : ∀ (s : Shared) (H : Hp) (Cc : Addr) (cl : List (Str × Addr)) (fp : List Addr), PG (X.blk s H scope (compEnvC scope cl Cc X.env) fp) tg (gT Z.K t))
    (ht : ∀ (s : Shared) (H : Hp) (Cc : Addr) (cl : List (Str × Addr)) (fp : List Addr), PTs (X.blk s H scope (compEnvC scope cl Cc X.env) fp) ifs (TTx Z Wf G C C1 ec))
    (he : ∀ (s : Shared) (H : Hp) (Cc : Addr) (cl : List (Str × Addr)) (fp : List Addr), PE (X.blk s H scope (compEnvC scope cl Cc X.env) fp) elt (TEx Z Wf G C C1 ee)) (hs : ∀ x, foldedSetIterable iter X.env x = pure x := by intro _; rfl) :
    PS X (.Assign [.Name y py] (.ListComp elt [⟨tg, iter, ifs, 0⟩] scope pos) spos) (tAsg (TEx Z Wx G C C1 (.lc ee t it ec)) (gName i)) := by
  have h0 := ps_setLc (spos := spos) (py := py) (pos := pos) k.calm k.nd hy hyl hsw hi ok hg ht he hs
  refine ⟨fun pins s σ H D I h => ?_⟩
  have h : TEx Z Wx G C C1 (.lc ee t it ec) σ H fun x H1 => gName i x σ H1 D.nx := h
  have h2 := lc_read (X := X) h
  rw [← ho] at h2
  refine thn (h0.run pins s σ H ⟨fun σ' H' => ∃ dl, UlOk X dl H' ∧ D.nx σ' (ulH dl H'), D.rt, D.bk, D.ct⟩ I h2) fun f s1 q => ?_
  cases f with
  | next => obtain ⟨σ', H', I2, dl, uo, q⟩ := q; exact ⟨σ', _, inv_ul I2 uo, q⟩
  | brk => exact q
  | cont => exact q
  | ret v => exact q
/-! ### dict comprehensions -/
theorem DctR.dictSet {D : Addr} {kvs : List (Wv × Wv)} {kk vv : Wv} {x y : V} {u w' : Value} {Q : Unit → Shared → Prop} {E : Value → Shared → Prop} (I : L2.Inv X pins σ H s) (k : XOk X Z) (nD : D ∉ ι) (Dd : DctR Z ι H D false kvs) (h : keyOk kvs kk = true) (hz : kvs.length + 1 ≤ sizeLine)
    (r : WR Z ι H kk x) (ru : RelV x u) (ry : WR Z ι H vv y) (rw' : RelV y w')
    (q : ∀ s' o', L2.Inv X pins σ (upd H D (DctO D o')) s' → DctR Z ι (upd H D (DctO D o')) D false (dput kvs kk vv) → Q () s') : wpAny (model X.prog X.w) X.A (PySem.dictSet D u w') Q E s := by
  obtain ⟨o, es, ep, h1, h2, h3, h4, h5, h6, h7, h8⟩ := id Dd
  have h1 : H D = some (DctO D o) := h1
  have hlen : (dput kvs kk vv).length ≤ sizeLine := by have := dput_len kvs kk vv; omega
  have hmut : Mut (H D) := by rw [h1]; exact True.intro
  have le : ∀ o', Le ι ι H (upd H D (DctO D o')) := fun o' => Le.side h1 (lkO_noI false D o)
  rcases keyOk_cases h with ⟨k1, k2⟩ | ⟨k1, k2⟩
  · obtain ⟨vs, dd, pv, hd⟩ := Dd.dictOf I k k2
    have ex := keyA_rel k1 r
    subst ex
    have hz2 : vs.length ≤ sizeLine := by rw [← Paired.length pv]; omega
    refine wpAny_dictSet_pairs (hsz := hz2) (kV_is ru) dd fun h' dd' hs => ?_
    obtain ⟨o', es', ep', e1, e2, e3, e4, e5, e6⟩ := dd'
    refine q _ o' (d_write I hmut hs ⟨o', e1⟩ (DctR.ok_new e1)) ⟨o', es', ep', upd_same, e2, e3, hd, hlen, dput_nodup h6, .inl (dput_all k2 k1), ?_⟩
    refine pairs_back (P := X.prog) k.w.symm (fun e he => e4 e (Array.mem_toList_iff.mp he)) e5 ?_
    exact L2.Paired.mapP (pv.put k1 h6 rw' ry) fun p q z => ⟨z.1, z.2.1, let ⟨x, z1, z2⟩ := z.2.2; ⟨x, z1, z2.mono (le o')⟩⟩
  · obtain ⟨xs, dd, pv, hd⟩ := Dd.dictOfH I k k2
    obtain ⟨b, rfl⟩ := keyT_ref k1 r
    cases ru
    have hz2 : xs.length ≤ sizeLine := by rw [← Paired.length pv]; omega
    refine wpAny_dictSet_heap (hsz := hz2) (by show X.A.units + 8 < cLine; have := k.un; omega) (keyT_is I k.K k1 r) dd fun h' dd' hs => ?_
    obtain ⟨o', es', ep', e1, e2, e3, e4, e5, e6⟩ := dd'
    refine q _ o' (d_write I hmut hs ⟨o', e1⟩ (DctR.ok_new e1)) ⟨o', es', ep', upd_same, e2, e3, hd, hlen, dput_nodup h6, .inr (dput_all k2 k1), ?_⟩
    refine pairs_backT (P := X.prog) k.w.symm e4 ?_
    exact L2.Paired.mapP (pv.put k1 h6 r rw' ry) fun p q z => ⟨z.1, z.2.1, z.2.2.1.mono (le o'), let ⟨x, z1, z2⟩ := z.2.2.2; ⟨x, z1, z2.mono (le o')⟩⟩
/-- the new dict's object -/
abbrev empO : Obj := { cls := .type "dict", data := .dict #[] }
/-- a pair is put -/
def DStep (X : Cx) (D : Addr) (y z : V) (σ : L2.St) (H : Hp) (Nx : Hp → Prop) : Prop :=
  ∀ (pins : List (Addr × Obj)) (s : Shared) (u r : Value) (Q : Unit → Shared → Prop) (E : Value → Shared → Prop), L2.Inv X pins σ H s → RelV y u → RelV z r → (∀ s' H', L2.Inv X pins σ H' s' → Nx H' → Q () s') → wpAny (model X.prog X.w) X.A (PySem.dictSet D u r) Q E s
def tDcW (X : Cx) (scope : Scope) (wi : TI) (g : TG) (tt : TT) (tk tv : TE) (vs : List Nat) : TE := fun σ H Q => wi σ H fun J H1 => ∀ D, H1 D = none → (D == sysModules) = false → ∃ W : Nat → Nat → Hp → Prop, (∃ m, W 0 m (upd H1 D (DctO D empO))) ∧ ∀ i m H, W i m H →
  (J.stop i H ∧ Q (.ref D) H) ∨ (J.go i H ∧ ∃ Nx : Hp → Prop, (∀ H', Nx H' → ∃ m', m' < m ∧ W (i + 1) m' H') ∧ ∀ x H', J.yld i H x H' → g x (wipe σ vs) H' fun σ2 H2 => wipe σ2 vs = wipe σ vs ∧ tt σ2 H2 fun b H3 =>
    if b = true then tk σ2 H3 fun y H4 => tv σ2 H4 fun z H5 => ∀ s0 H0 Cc cl fp, DStep (X.blk s0 H0 scope (compEnvC scope cl Cc X.env) fp) D y z σ2 H5 Nx else Nx H3)
theorem dcW_core {Q : VK} {kx vx : Expr} {ifs : List Expr} {scope : Scope} {own : List (Str × Nat)} {pos' : Pos} {wi : TI} {g : TG} {tt : TT} {tk tv : TE} {use : Option (Value → Sem Unit)} {Qf : Value → Shared → Prop}
    (hc : X.calm = true) (hN : X.N.Nodup) (I : L2.Inv X pins σ H s) (hi : PI X tg iter wi) (ok : BlkOk X.N X.env.scope scope own)
    (hg : ∀ (s : Shared) (H : Hp) (C : Addr) (cl : List (Str × Addr)) (fp : List Addr), PG (X.blk s H scope (compEnvC scope cl C X.env) fp) tg g) (ht : ∀ (s : Shared) (H : Hp) (C : Addr) (cl : List (Str × Addr)) (fp : List Addr), PTs (X.blk s H scope (compEnvC scope cl C X.env) fp) ifs tt)
    (hk : ∀ (s : Shared) (H : Hp) (C : Addr) (cl : List (Str × Addr)) (fp : List Addr), PE (X.blk s H scope (compEnvC scope cl C X.env) fp) kx tk)
    (he : ∀ (s : Shared) (H : Hp) (C : Addr) (cl : List (Str × Addr)) (fp : List Addr), PE (X.blk s H scope (compEnvC scope cl C X.env) fp) vx tv) (hs : ∀ x, foldedSetIterable iter X.env x = pure x)
    (h : tDcW X scope wi g tt tk tv (own.map (·.2)) σ H Q)
    (hRR : ∀ D C s' m H', L2.Inv X pins σ H' s' → Q (.ref D) H' → s'.heap.Ns C m → FpOk X pins H' C → compPost (model X.prog X.w) X.A X.xe use Qf (.ref D) C (.ok .next) s') :
    wpAny (model X.prog X.w) X.A (comprehension (.DictComp kx vx [⟨tg, iter, ifs, 0⟩] scope pos) scope X.env pos' newDict false (eval iter X.env) use) Qf X.xe s := by
  have hfree : ∀ y ∈ scope.names, y.2 = .free → ∃ c, X.env.cells.lookup y.1 = some c := fun y hy e => by
    rcases ok.free y hy e with k | k
    · exact I.ok.has _ (.inl k)
    · exact I.ok.has _ (.inr k)
  refine wpAny_comprehension_free (use := use) rfl hs (closure_ok hfree) ok.kind (fun y hy e => by rw [ok.uniq y hy, e])
    (thn (hi.run pins s σ H _ I h) fun xv s1 hx => thn hx fun itv s2 h2 => ?_)
  obtain ⟨it, fp, tn, J, H2, e, I2, T, st2, f2, q⟩ := h2
  subst e
  refine wpAny_newObj_type (newEnv_comp ?_)
  have hDn : H2 s2.heap.objs.size = none := I2.hok.fresh (Nat.le_refl _)
  obtain ⟨W, ⟨m0, w0⟩, turn⟩ := q s2.heap.objs.size hDn (beq_eq_false_iff_ne.mpr (Ne.symm (Nat.ne_of_lt I2.big)))
  have e1 : (s2.heap.push empO).get? s2.heap.objs.size = some empO := Heap.get?_push_size _ rfl
  have I3 : L2.Inv X pins σ (upd H2 s2.heap.objs.size (DctO s2.heap.objs.size empO)) { s2 with heap := s2.heap.push empO } :=
    I2.laid (t' := s2.toks) (fun b o e => Heap.get?_push_of_some _ e) (Nat.le_refl _) (DctR.ok_new e1)
  have sz : ∀ b ∈ fp, b < s2.heap.objs.size := fun b hb => by
    obtain ⟨o, e, _⟩ := T.obj _ _ st2 b hb
    exact Heap.lt_size e
  generalize hD : s2.heap.objs.size = D at hDn w0 turn I3 sz ⊢
  generalize hs3 : ({ s2 with heap := s2.heap.push empO } : Shared) = s3 at I3
  have h3 : s3.heap = s2.heap.push empO := by rw [← hs3]
  have f3 : ∀ b ∈ fp, FpOk X pins (upd H2 D (DctO D empO)) b ∧ b < s3.heap.objs.size := fun b hb => by
    have hlt := sz b hb
    refine ⟨⟨?_, (f2 b hb).2⟩, by rw [h3, Heap.size_push, hD]; exact Nat.lt_succ_of_lt hlt⟩
    rw [upd_ne (Nat.ne_of_lt hlt)]
    exact (f2 b hb).1
  have st3 : tn 0 s3.heap := T.keep _ _ _ st2 fun b _ o e => by rw [h3]; exact Heap.get?_push_of_some _ e
  have I4 := block_start I3 ok hN f3
  have pg := hg s3 (upd H2 D (DctO D empO)) s3.heap.objs.size (cellsFrom (s3.heap.objs.size + 1) scope.names (cloFrom X.env.cells scope.names [])) fp
  have pt := ht s3 (upd H2 D (DctO D empO)) s3.heap.objs.size (cellsFrom (s3.heap.objs.size + 1) scope.names (cloFrom X.env.cells scope.names [])) fp
  have pk := hk s3 (upd H2 D (DctO D empO)) s3.heap.objs.size (cellsFrom (s3.heap.objs.size + 1) scope.names (cloFrom X.env.cells scope.names [])) fp
  have pe := he s3 (upd H2 D (DctO D empO)) s3.heap.objs.size (cellsFrom (s3.heap.objs.size + 1) scope.names (cloFrom X.env.cells scope.names [])) fp
  have pd : ∀ {y z : V} {σ2 : L2.St} {H5 : Hp} {Nx : Hp → Prop}, (∀ s0 H0 Cc cl fp, DStep (X.blk s0 H0 scope (compEnvC scope cl Cc X.env) fp) D y z σ2 H5 Nx) → DStep (X.blk s3 (upd H2 D (DctO D empO)) scope (compEnvC scope (cellsFrom (s3.heap.objs.size + 1) scope.names (cloFrom X.env.cells scope.names [])) s3.heap.objs.size X.env) fp) D y z σ2 H5 Nx := fun h => h _ _ _ _ _
  show codeAny _ _ (.compStart (.DictComp kx vx [⟨tg, iter, ifs, 0⟩] scope pos) 0 (.ref it) (.ref D) (compEnvC scope (cellsFrom (s3.heap.objs.size + 1) scope.names (cloFrom X.env.cells scope.names [])) s3.heap.objs.size X.env)) (compPost (model X.prog X.w) X.A X.xe use Qf (.ref D) s3.heap.objs.size) { s3 with heap := pushCells (s3.heap.push { cls := .type "dict", data := .dict #[] }) scope.names }
  have nfp : ∀ b ∈ fp, (upd H2 D (DctO D empO)) b = none := fun b hb => (f3 b hb).1.1
  generalize hce : compEnvC scope (cellsFrom (s3.heap.objs.size + 1) scope.names (cloFrom X.env.cells scope.names [])) s3.heap.objs.size X.env = ce at I4 pg pt pk pe pd ⊢
  have cL : ce.locals = s3.heap.objs.size := by subst hce; rfl
  generalize hH3 : upd H2 D (DctO D empO) = H3 at I3 I4 pg pt pk pe pd w0 nfp f3
  generalize hs4 : ({ s3 with heap := pushCells (s3.heap.push { cls := .type "dict", data := .dict #[] }) scope.names } : Shared) = s4 at I4 ⊢
  have st4 : tn 0 s4.heap := T.keep _ _ _ st3 fun b _ o e => by rw [← hs4]; exact pushCells_keeps _ _ _ _ (Heap.get?_push_of_some _ e)
  have stat : ∀ {σ' : L2.St} {H' : Hp} {s' : Shared}, L2.Inv (X.blk s3 H3 scope ce fp) [] σ' H' s' → (∀ b ∈ fp, H' b = none) → ∀ b ∈ fp, FpOk (X.blk s3 H3 scope ce fp) [] H' b := fun {σ' H' s'} I' hn b hb =>
    ⟨hn b hb, (I'.ok.exf b hb).1, I'.ok.exfs b hb, .inl hb, fun x c e => (I'.ok.exf b hb).2 x c e, fun p hp => absurd (show p ∈ ([] : List (Addr × Obj)) ++ [] from hp) (by simp)⟩
  have loop : codeAny (model X.prog X.w) X.A (.compLoop (.DictComp kx vx [⟨tg, iter, ifs, 0⟩] scope pos) 0 (.ref it) (.ref D) ce) (compPost (model X.prog X.w) X.A X.xe use Qf (.ref D) s3.heap.objs.size) s4 := by
    refine compLoop_anyD (fun n s' => ∃ i H', L2.Inv (X.blk s3 H3 scope ce fp) [] (wipe σ (own.map (·.2))) H' s' ∧ tn i s'.heap ∧ (∀ b ∈ fp, H' b = none) ∧ W i n H') ?_ m0 ⟨0, H3, I4, st4, nfp, w0⟩
    rintro n s5 ⟨i, H5, I5, st5, n5, w5⟩
    rcases turn i n H5 w5 with ⟨stop, qq⟩ | ⟨go, Nx, hNx, step⟩
    · refine thnF (T.done (X.blk s3 H3 scope ce fp) rfl rfl rfl hc i [] s5 _ H5 (fun _ _ => False) I5 (stat I5 n5) st5 stop) fun r s6 ⟨hr, I6⟩ => ?_
      subst hr
      have I7 : L2.Inv X pins σ H5 s6 := I3.call' (ch := fp) I6.os I6.base I6.hok I6.bare fun b hb => ⟨(f3 b hb).1.2.2.2.1, (f3 b hb).1.2.1, (f3 b hb).1.2.2.2.2.1, (f3 b hb).1.2.2.2.2.2⟩
      have nC : H5 s3.heap.objs.size = none := by
        have z : H5 ce.locals = none := I6.free
        rw [cL] at z
        exact z
      obtain ⟨m, hn, _⟩ := I6.loc
      have hn : s6.heap.Ns ce.locals m := hn
      rw [cL] at hn
      exact hRR D s3.heap.objs.size s6 m H5 I7 qq hn (I3.fpOk (Nat.le_refl _) nC)
    · refine thnF (T.item (X.blk s3 H3 scope ce fp) rfl rfl rfl hc i [] s5 _ H5 (fun _ _ => False) I5 (stat I5 n5) st5 go) fun r s6 ⟨u, hr, h6⟩ => ?_
      subst hr
      refine thnF h6 fun _ s7 ⟨x, H7, I7, r7, y7, st7, n7⟩ => ?_
      refine thnF (pg.run _ s7 _ H7 x u _ (I7.pinned (stat I7 n7) (T.obj _ _ st7)) r7 (step x H7 y7)) fun _ s8 ⟨σ8, H8, I8, hw8, q8⟩ => ?_
      refine thnF (pt.run _ s8 σ8 H8 _ I8 q8) fun b s9 ⟨H9, I9, q9⟩ => ?_
      have fin : ∀ {s' : Shared} {H' : Hp}, L2.Inv (X.blk s3 H3 scope ce fp) ([] ++ pinsAt fp s7.heap) σ8 H' s' → Nx H' → ∃ m, m < n ∧ ∃ i H', L2.Inv (X.blk s3 H3 scope ce fp) [] (wipe σ (own.map (·.2))) H' s' ∧ tn i s'.heap ∧ (∀ b ∈ fp, H' b = none) ∧ W i m H' := fun {s' H'} I' nx => by
        obtain ⟨m', hm, w'⟩ := hNx H' nx
        have pin' : ∀ b ∈ fp, ∀ o, s7.heap.get? b = some o → s'.heap.get? b = some o ∧ H' b = none := fun b hb o e =>
          let z := I'.pin (b, o) (List.mem_append_right _ (List.mem_append_right _ (mem_pinsAt hb e)))
          ⟨z.1, z.2.1⟩
        have hl : (wipe σ (own.map (·.2))).length = σ8.length := by rw [← hw8, wipe_length]
        refine ⟨m', hm, i + 1, H', (I'.unpinned (pins := [])).weak hl (fun j v e => ?_), T.keep _ _ _ st7 fun b hb o e => (pin' b hb o e).1, fun b hb => ?_, w'⟩
        · rw [← hw8] at e
          exact (wipe_some e).1
        · obtain ⟨o, e, _⟩ := T.obj _ _ st7 b hb
          exact (pin' b hb o e).2
      cases b with
      | false =>
        simp only [Bool.false_eq_true, if_false] at q9 ⊢
        exact fin I9 q9
      | true =>
        simp only [if_true] at q9 ⊢
        refine thnF (pk.run _ s9 σ8 H9 _ I9 q9) fun z s10 ⟨yk, H10, I10, r10, q10⟩ => ?_
        refine thnF (pe.run _ s10 σ8 H10 _ I10 q10) fun z2 s11 ⟨yv, H11, I11, r11, dstep⟩ => ?_
        exact pd dstep _ s11 z z2 _ _ I11 r10 r11 fun s12 H12 I12 nx => fin I12 nx
  exact codeAny_compStart_dict loop (T.self X.A 0 _ _ _ st4 loop)
end
end MP
end
section
set_option Elab.async false
set_option linter.all false
set_option maxRecDepth 100000
/-! MP16: dict comprehensions, two loops in one comprehension. -/
namespace MP
open PySem PySem.Spec PyProof.Rows L2
section
variable {X : Cx} {Z : Zt} {Wx : Wish} {G : Pg} {C C1 : Nat → List Wv → Mem → Out Wv} {a b c e tg iter elt : Expr} {es : List Expr} {ea eb ec ee ek ev : Ex} {el : El} {it : MP.It} {pos p p2 p3 apos : Pos}
variable {pins : List (Addr × Obj)} {σ : L2.St} {H H1 H2 : Hp} {s : Shared} {ι ι1 ι2 : List Addr} {M : Mem} {sw : Sw}
theorem dct_frm (x : Ext ι ι1 H H1) {D : Addr} {kvs : List (Wv × Wv)} (nD : D ∉ ι) (Dd : DctR Z ι H D false kvs) : DctR Z ι1 H1 D false kvs ∧ D ∉ ι1 := by
  obtain ⟨o, es, ep, h1, h2, h3, h4, h5, h6, h7, h8⟩ := Dd
  exact ⟨⟨o, es, ep, x.frm D _ h1 (lkO_noT false D o) (.inl nD), h2, h3, h4, h5, h6, h7, L2.Paired.mapP h8 fun _ _ z => z.mono x.le⟩, notin_ext x nD h1 (lkO_noT false D o)⟩
theorem DctR.mono {D : Addr} {kvs : List (Wv × Wv)} {z : Bool} (Dd : DctR Z ι H D z kvs) (le : Le ι ι1 H H1) (h : ∀ ho, H D = some ho → H1 D = some ho) : DctR Z ι1 H1 D z kvs := by
  obtain ⟨o, es, ep, h1, h2, h3, h4, h5, h6, h7, h8⟩ := Dd
  exact ⟨o, es, ep, h _ h1, h2, h3, h4, h5, h6, h7, L2.Paired.mapP h8 fun _ _ z => z.mono le⟩
theorem dc_read (k : Bx X Z Wx G) {t : Tg} {scope : Scope} {Q : VK} (h : TEx Z Wx G C C1 (.dc ek ev t it ec) σ H Q) : tDcW X scope (tI X Z Wx (evI G C C1 it)) (gT Z.K t) (TTx Z Wf G C C1 ec) (TEx Z Wf G C C1 ek) (TEx Z Wf G C C1 ev) t.slots σ H fun v H' => ∃ dl, UlOk X dl H' ∧ Q v (ulH dl H') := by
  obtain ⟨ι, sw, M, s, R0, h⟩ := h
  refine ⟨ι, sw, M, s, R0, ?_⟩
  simp only [evE] at h
  cases e : evI G C C1 it sw M with
  | bad => rw [e] at h; exact h
  | exc c M1 => rw [e] at h; exact h
  | ok r M1 =>
    obtain ⟨xs, ps⟩ := r
    rw [e] at h
    intro J H1 ι1 dl L W D hD hsys
    simp only [Out.bind_ok] at h
    cases e3 : dcGo G t (evE G C C1 ec) (evE G C C1 ek) (evE G C C1 ev) ps xs (wipeW sw t.slots) [] (lockM ps M1) with
    | bad => rw [e3] at h; exact False.elim h
    | exc c M3 => rw [e3] at h; exact False.elim h
    | ok kv3 M3 =>
      rw [e3] at h
      have h : eOut Z Wx σ ι H (.ok (.ref (unlkM ps M3).length) (unlkM ps M3 ++ [.dct false kv3])) Q := h
      refine ⟨fun i m H2 => m = xs.length - i ∧ i ≤ xs.length ∧ ∃ ι2 M2 acc, DctR Z ι2 H2 D false acc ∧ D ∉ ι2 ∧ RM Z ι2 M2 H2 ∧ Ext ι1 ι2 H1 H2 ∧ dcGo G t (evE G C C1 ec) (evE G C C1 ek) (evE G C C1 ev) ps (xs.drop i) (wipeW sw t.slots) acc M2 = .ok kv3 M3,
        ⟨xs.length, by simp, Nat.zero_le _, ι1, lockM ps M1, [], ⟨empO, #[], 0, upd_same, ⟨rfl, rfl, rfl⟩, rfl, hsys, Nat.zero_le _, List.nodup_nil, .inl rfl, .nil⟩, L.rm.notin hD, L.rm.fresh hD, Ext.fresh ι1 hD, by simpa using e3⟩, ?_⟩
      rintro i m H2 ⟨rfl, hi, ι2, M2, acc, hD2, nD, R2, x2, e2⟩
      have ss : SR Z ι2 H2 (wipeW sw t.slots) (wipe σ t.slots) := ((s.mono L.le).mono x2.le).wipe _
      by_cases hlt : i < xs.length
      · refine .inr ?_
        rw [List.drop_eq_getElem_cons hlt] at e2
        simp only [dcGo] at e2
        obtain ⟨st, e2⟩ := Out.chk_okE e2
        refine ⟨W.go i ι2 H2 M2 x2 R2 st hlt, fun H' => xs.length - (i + 1) = xs.length - (i + 1) ∧ i + 1 ≤ xs.length ∧ ∃ ι2 M2 acc, DctR Z ι2 H' D false acc ∧ D ∉ ι2 ∧ RM Z ι2 M2 H' ∧ Ext ι1 ι2 H1 H' ∧ dcGo G t (evE G C C1 ec) (evE G C C1 ek) (evE G C C1 ev) ps (xs.drop (i + 1)) (wipeW sw t.slots) acc M2 = .ok kv3 M3,
          fun H' q => ⟨xs.length - (i + 1), by omega, q⟩, fun v H' y => ?_⟩
        obtain ⟨w, hw, x3, R3, wr⟩ := W.yld i ι2 H2 M2 v H' x2 R2 st hlt y
        have ew : xs[i] = w := by rw [List.getElem?_eq_getElem hlt] at hw; exact Option.some.inj hw
        rw [ew] at e2
        cases et : tgW t w (wipeW sw t.slots) with
        | none => rw [et] at e2; cases e2
        | some τ =>
          rw [et] at e2
          simp only at e2
          refine tgW_rel (ss.mono x3.le) wr et fun σ' sr' wp => ⟨?_, ?_⟩
          · have := wp t.slots (fun _ z => z)
            rw [this]
            exact wipe_idem σ t.slots
          · rw [← Out.bind_assoc] at e2
            obtain ⟨q, M4, e4, e2⟩ := Out.bind_okE e2
            have x13 := x2.trans x3
            obtain ⟨hD3, nD3⟩ := dct_frm x3 nD hD2
            refine tT_ok sr' R3 (show evT G C C1 ec τ M2 = .ok q M4 from e4) fun H4 ι4 x4 R4 s4 => ?_
            obtain ⟨hD4, nD4⟩ := dct_frm x4 nD3 hD3
            cases q with
            | false =>
              rw [if_neg Bool.false_ne_true] at e2 ⊢
              exact ⟨rfl, hlt, ι4, M4, acc, hD4, nD4, R4, x13.trans x4, e2⟩
            | true =>
              rw [if_pos rfl] at e2 ⊢
              obtain ⟨y, M5, e5, e2⟩ := Out.bind_okE e2
              obtain ⟨z, M6, e6, e2⟩ := Out.bind_okE e2
              obtain ⟨zl, e2⟩ := Out.chk_okE e2
              rw [Bool.and_eq_true] at zl
              refine tE_ok s4 R4 e5 fun yv H5 ι5 x5 R5 wy s5 => ?_
              obtain ⟨hD5, nD5⟩ := dct_frm x5 nD4 hD4
              refine tE_ok s5 R5 e6 fun zv H6 ι6 x6 R6 wz s6 => ?_
              obtain ⟨hD6, nD6⟩ := dct_frm x6 nD5 hD5
              intro s0 H0 Cc cl fp pins s u r Q' E I7 ry rz fin
              obtain ⟨o6, es6, ep6, h61, h62⟩ := id hD6
              refine DctR.dictSet (X := X.blk s0 H0 scope (compEnvC scope cl Cc X.env) fp) I7 (k.blk s0 H0 scope _ fp).toXOk nD6 hD6 zl.1 (of_decide_eq_true zl.2) (wy.mono x6.le) ry wz rz fun s8 o' I8 D8 => fin s8 _ I8 ⟨rfl, hlt, ι6, M6, dput acc y z, D8, nD6, R6.side nD6 h61 (lkO_noI false D o6) (lkO_noT false D o6) (fun q => dctO_noC o6 D q ⟨es6, ep6, h62.2.1⟩), (((x13.trans x4).trans x5).trans x6).side hD, e2⟩
      · have ei : i = xs.length := by omega
        subst ei
        rw [List.drop_length] at e2
        simp only [dcGo] at e2
        obtain ⟨st, e2⟩ := Out.chk_okE e2
        cases e2
        refine .inl ⟨W.stop ι2 H2 M3 x2 R2 st, dl, ?_⟩
        obtain ⟨u1, u2, u3, u4⟩ := L.un x2 R2
        refine ⟨u4, ?_⟩
        have hD0 : Vac H D := by
          refine L.ext.dom D (Vac.of ?_)
          cases dl with
          | none => exact hD
          | some q =>
            have ne : D ≠ q.1 := fun z => by
              obtain ⟨l, kvs, _, _, _, hd, _⟩ := L.lk
              rw [← z, hD] at hd
              cases hd
            show upd H1 q.1 (DctO q.1 q.2) D = none
            rw [upd_ne ne]
            exact hD
        obtain ⟨o6, es6, ep6, h61, h62⟩ := id hD2
        have hDu : ulH dl H2 D = some (DctO D o6) := ul_ne u4 h61 fun o z => by cases z
        refine h (.ref D) _ (ι2 ++ [D]) (Ext.told hD0 u1 nD) (u2.tell nD ?_) (.ref (snoc_ix u2 D))
        exact (DctR.mono hD2 u3 (fun ho q => by rw [h61] at q; cases q; exact hDu)).mono (Le.grow ι2 [D] _) fun _ q => q
theorem e_dc (k : Bx X Z Wx G) {t : Tg} {kx vx : Expr} {ifs : List Expr} {scope : Scope} {own : List (Str × Nat)} (hi : PI X tg iter (tI X Z Wx (evI G C C1 it))) (ok : BlkOk X.N X.env.scope scope own) (ho : own.map (·.2) = t.slots)
    (hg : ∀ (s : Shared) (H : Hp) (Cc : Addr) (cl : List (Str × Addr)) (fp : List Addr), PG (X.blk s H scope (compEnvC scope cl Cc X.env) fp) tg (gT Z.K t))
    (ht : ∀ (s : Shared) (H : Hp) (Cc : Addr) (cl : List (Str × Addr)) (fp : List Addr), PTs (X.blk s H scope (compEnvC scope cl Cc X.env) fp) ifs (TTx Z Wf G C C1 ec))
    (hk : ∀ (s : Shared) (H : Hp) (Cc : Addr) (cl : List (Str × Addr)) (fp : List Addr), PE (X.blk s H scope (compEnvC scope cl Cc X.env) fp) kx (TEx Z Wf G C C1 ek))
    (he : ∀ (s : Shared) (H : Hp) (Cc : Addr) (cl : List (Str × Addr)) (fp : List Addr), PE (X.blk s H scope (compEnvC scope cl Cc X.env) fp) vx (TEx Z Wf G C C1 ev)) (hs : ∀ x, foldedSetIterable iter X.env x = pure x := by intro _; rfl) :
    PE X (.DictComp kx vx [⟨tg, iter, ifs, 0⟩] scope pos) (TEx Z Wx G C C1 (.dc ek ev t it ec)) := by
  refine (pe_unl (t := tDcW X scope (tI X Z Wx (evI G C C1 it)) (gT Z.K t) (TTx Z Wf G C C1 ec) (TEx Z Wf G C C1 ek) (TEx Z Wf G C C1 ev) (own.map (·.2))) ⟨fun pins s σ H Q I h => ?_⟩).weak fun σ H Q h => by rw [ho]; exact dc_read k h
  rw [arm_eval_DictComp]
  refine dcW_core k.calm k.nd I hi ok hg ht hk he hs h fun D C s' m H' I' q hn f => ⟨m, hn, fun h'' sb => ?_⟩
  obtain ⟨f0, f1, f2, f3, f4, f5⟩ := f
  exact ⟨.ref D, H', I'.turned (t' := s'.toks) (fun b o hb e => (sb.2 b hb).trans e) f0 f1 f3 f4 f5, rfl, q⟩
/-- name = {..} on one line -/
theorem s_setDc (k : Bx X Z Wx G) {t : Tg} {i : Nat} {y : Str} {py spos : Pos} {kx vx : Expr} {ifs : List Expr} {scope : Scope} {own : List (Str × Nat)} (hy : X.N[i]? = some y) (hyl : X.env.scope.names.lookup y = some .local)
    (hsw : swapsWith (.DictComp kx vx [⟨tg, iter, ifs, 0⟩] scope pos) (some (.Name y py)) spos.line X.env = pure true) (hi : PI X tg iter (tI X Z Wx (evI G C C1 it))) (ok : BlkOk X.N X.env.scope scope own) (ho : own.map (·.2) = t.slots)
    (hg : ∀ (s : Shared) (H : Hp) (Cc : Addr) (cl : List (Str × Addr)) (fp : List Addr), PG (X.blk s H scope (compEnvC scope cl Cc X.env) fp) tg (gT Z.K t))
    (ht : ∀ (s : Shared) (H : Hp) (Cc : Addr) (cl : List (Str × Addr)) (fp : List Addr), PTs (X.blk s H scope (compEnvC scope cl Cc X.env) fp) ifs (TTx Z Wf G C C1 ec))
    (hk : ∀ (s : Shared) (H : Hp) (Cc : Addr) (cl : List (Str × Addr)) (fp : List Addr), PE (X.blk s H scope (compEnvC scope cl Cc X.env) fp) kx (TEx Z Wf G C C1 ek))
    (he : ∀ (s : Shared) (H : Hp) (Cc : Addr) (cl : List (Str × Addr)) (fp : List Addr), PE (X.blk s H scope (compEnvC scope cl Cc X.env) fp) vx (TEx Z Wf G C C1 ev)) (hs : ∀ x, foldedSetIterable iter X.env x = pure x := by intro _; rfl) :
    PS X (.Assign [.Name y py] (.DictComp kx vx [⟨tg, iter, ifs, 0⟩] scope pos) spos) (tAsg (TEx Z Wx G C C1 (.dc ek ev t it ec)) (gName i)) := by
  refine ⟨fun pins s σ H D I h => ?_⟩
  have h : TEx Z Wx G C C1 (.dc ek ev t it ec) σ H fun x H1 => gName i x σ H1 D.nx := h
  have h2 := dc_read k (scope := scope) h
  rw [← ho] at h2
  rw [exec_Assign_Name_used _ _ _ _ hsw]
  refine wpAny_bind (wpAny_standAt (wpAny_bind ?_))
  show wpAny _ X.A (do let _ ← comprehension (.DictComp kx vx [⟨tg, iter, ifs, 0⟩] scope pos) scope X.env (firstIterPos [⟨tg, iter, ifs, 0⟩] pos) newDict false (eval iter X.env) (some (assign (.Name y py) X.env))) _ _ s
  refine wpAny_bind (thn (dcW_core (Qf := fun _ s' => SP X pins D .next s') k.calm k.nd I hi ok hg ht hk he hs h2 fun L Cc s' m H' I' q hn f => ?_) fun _ s' hq => wpAny_pure (wpAny_pure hq))
  obtain ⟨dl, uo, q⟩ := q
  show wpAny _ _ (assign (.Name y py) X.env (.ref L)) _ _ _
  refine wpAny_assign_Name (store_ok2 (v := V.ref L) I' k.nd hy (.inl hyl) rfl (fun s2 I2 ⟨a, sb, ha⟩ => ?_) (.inr hyl))
  obtain ⟨f0, f1, f2, f3, f4, f5⟩ := f
  have haC : Cc ≠ a := by
    rcases ha with z | z
    · rw [z]; exact f1
    · exact fun e => f4 y a z e.symm
  refine ⟨m, hn.sameBut sb haC, fun h3 sb3 => ?_⟩
  exact ⟨_, _, inv_ul (I2.turned (t' := s2.toks) (fun b o hb e => (sb3.2 b hb).trans e) f0 f1 f3 f4 f5) uo, q⟩
end
end MP
end
section
set_option Elab.async false
set_option linter.all false
set_option maxRecDepth 100000
/-! MP17: statements. -/
namespace MP
open PySem PySem.Spec PyProof.Rows L2
abbrev TSx (Z : Zt) (Wx : Wish) (G : Pg) (C C1 : Nat → List Wv → Mem → Out Wv) (n : Nat) (s : MP.St) : TS := tS Z Wx (evS G C C1 n s)
abbrev TSl (Z : Zt) (Wx : Wish) (G : Pg) (C C1 : Nat → List Wv → Mem → Out Wv) (n : Nat) (s : Sl) : TS := tS Z Wx (evSl G C C1 n s)
section
variable {X : Cx} {Z : Zt} {Wx : Wish} {G : Pg} {C C1 : Nat → List Wv → Mem → Out Wv} {fu : Nat} {a b c e tg iter elt : Expr} {es : List Expr} {ea eb ec ee : Ex} {el : El} {it : MP.It} {pos p p2 p3 apos : Pos} {st : Stmt} {rest : List Stmt} {ss : MP.St} {sl sl2 : Sl}
variable {pins : List (Addr × Obj)} {σ : L2.St} {H H1 H2 : Hp} {s : Shared} {ι ι1 ι2 : List Addr} {M : Mem} {sw : Sw}
theorem sOut.ofOb {α : Type} {o : Option α} {g : α → Mem → Out (Fl × Sw)} {D : Ends} (h : sOut Z Wx ι H ((Out.ofO o M).bind g) D) : ∃ w, o = some w ∧ sOut Z Wx ι H (g w M) D := by
  cases o with
  | some w => exact ⟨w, rfl, h⟩
  | none => exact False.elim h
theorem sOut.nx {D : Ends} (h : sOut Z Wx ι H (.ok (.nx, sw) M) D) (R : RM Z ι M H) (q : SR Z ι H sw σ) : D.nx σ H := h σ H ι (Ext.refl _ _) R q
theorem ss_nil : PSs X [] (TSl Z Wx G C C1 fu .nil) := by
  refine ⟨fun pins s σ H D I ⟨ι, sw, M, sr, R, h⟩ => pss_nil.run pins s σ H D I ?_⟩
  simp only [evSl] at h
  exact h.nx R sr
theorem ss_cons (h1 : PS X st (TSx Z Wx G C C1 fu ss)) (h2 : PSs X rest (TSl Z Wx G C C1 fu sl)) : PSs X (st :: rest) (TSl Z Wx G C C1 fu (.cons ss sl)) := by
  refine (pss_cons h1 h2).weak fun D σ H ⟨ι, sw, M, sr, R, h⟩ => ⟨ι, sw, M, sr, R, ?_⟩
  simp only [evSl] at h
  cases e : evS G C C1 fu ss sw M with
  | bad => rw [e] at h; exact h
  | exc c M1 => rw [e] at h; exact h
  | ok q M1 =>
    obtain ⟨f, sw1⟩ := q
    rw [e] at h
    intro σ' H' ι' x R1 s1
    cases f with
    | nx => exact ⟨ι', sw1, M1, s1, R1, sOut.shift x h⟩
    | brk => exact h σ' H' ι' x R1 s1
    | ct => exact h σ' H' ι' x R1 s1
    | ret w => exact h σ' H' ι' x R1 s1
theorem s_asg (k : Bx X Z Wx G) {t : Tg} (he : PE X e (TEx Z Wx G C C1 ee)) (hg : PG X tg (gT Z.K t)) (hs : swapsWithSole [tg] e pos.line X.env = pure false := by rfl) (hw : swappedStores [tg] e X.env = pure none := by rfl)
    (h1 : (assignEach [tg] X.env).map (·.2) = [assign tg X.env] := by rfl) : PS X (.Assign [tg] e pos) (TSx Z Wx G C C1 fu (.asg t ee)) := by
  refine (ps_asg he hg hs hw h1).weak fun D σ H ⟨ι, sw, M, sr, R, h⟩ => ?_
  simp only [evS] at h
  refine tE.seqS sr R h fun x M1 v H1 ι1 e1 R1 q1 s1 h1 => ?_
  obtain ⟨τ, et, h1⟩ := h1.ofOb
  exact tgW_rel s1 q1 et fun σ' sr' _ => h1.nx R1 sr'
/-- from a reading of name = value -/
theorem s_set {i : Nat} (h : PS X st (tAsg (TEx Z Wx G C C1 ee) (gName i))) : PS X st (TSx Z Wx G C C1 fu (.asg (.nm i) ee)) := by
  refine h.weak fun D σ H ⟨ι, sw, M, sr, R, h⟩ => ?_
  simp only [evS] at h
  refine tE.seqS sr R h fun x M1 v H1 ι1 e1 R1 q1 s1 h1 => ?_
  obtain ⟨τ, et, h1⟩ := h1.ofOb
  simp only [tgW] at et
  cases et
  exact h1.nx R1 (s1.set q1 i)
/-- a, b = x, y -/
theorem s_par (k : Bx X Z Wx G) (i j : Nat) {x y : Str} {px py pt pt2 : Pos} {kt k2 : Nat} (ha : PA X [a, b] (TAx Z Wx G C C1 el)) (hi : stoB X.N X.env.scope X.fn i x = true := by kernel_rfl) (hj : stoB X.N X.env.scope X.fn j y = true := by kernel_rfl) (hij : i ≠ j := by decide)
    (hx : X.env.scope.names.lookup x = some .local := by rfl) (hy : X.env.scope.names.lookup y = some .local := by rfl)
    (hw : swappedStores [.Tuple [.Name x px, .Name y py] kt pt] (.Tuple [a, b] k2 pt2) X.env = pure (some [x, y]) := by rfl)
    (hs : swapsWithSole [.Tuple [.Name x px, .Name y py] kt pt] (.Tuple [a, b] k2 pt2) pos.line X.env = pure false := by rfl) :
    PS X (.Assign [.Tuple [.Name x px, .Name y py] kt pt] (.Tuple [a, b] k2 pt2) pos) (TSx Z Wx G C C1 fu (.asg (.tup [i, j]) (.tup el))) := by
  obtain ⟨h1, _⟩ := stoB_ok hi
  obtain ⟨h2, _⟩ := stoB_ok hj
  refine (ps_par k.calm k.nd h1 h2 hij hx hy ha hw hs).weak fun D σ H ⟨ι, sw, M, sr, R, h⟩ => ⟨ι, sw, M, sr, R, ?_⟩
  simp only [evS, evE] at h
  cases e : evL G C C1 el sw M with
  | bad => rw [e] at h; exact h
  | exc c M1 => rw [e] at h; exact fun H' ι' x R => h σ H' ι' x R
  | ok ws M1 =>
    rw [e] at h
    simp only [Out.bind_ok] at h
    intro vs H' ι' x1 R1 wr
    cases hl : lenOk ws.length with
    | false => rw [hl] at h; exact False.elim h
    | true =>
      rw [hl] at h
      have h : sOut Z Wx ι H ((Out.ofO (tgW (.tup [i, j]) (.tup ws) sw) M1).bind fun σ M => .ok (.nx, σ) M) D := h
      obtain ⟨τ, et, h⟩ := h.ofOb
      cases wr with
      | nil => simp [tgW, setAll] at et
      | cons w1 t1 =>
        cases t1 with
        | nil => simp [tgW, setAll] at et
        | cons w2 t2 =>
          cases t2 with
          | cons _ _ => simp [tgW, setAll] at et
          | nil =>
            simp only [tgW, setAll] at et
            cases et
            exact ⟨_, _, rfl, h _ H' ι' x1 R1 (((sr.mono x1.le).set w1 i).set w2 j)⟩
theorem ins_write {l c : Nat} {a dx : Addr} {fs : List (Str × Wv)} {vs : List (Str × V)} {f : Str} {w : Wv} {v : V} (R : RM Z ι M H) (hM : M[l]? = some (.ins c fs)) (hl : ι[l]? = some a) (h1 : H a = some (.ins (Z.cls c) dx vs)) (h2 : FsR Z ι H fs vs) (hw : WR Z ι H w v) :
    Ext ι ι H (upd H a (.ins (Z.cls c) dx (L2.putF f v vs))) ∧ RM Z ι (M.set l (.ins c (MP.putF f w fs))) (upd H a (.ins (Z.cls c) dx (L2.putF f v vs))) := by
  have ex : Ext ι ι H (upd H a (.ins (Z.cls c) dx (L2.putF f v vs))) := Ext.write R hl (fun ob φ e => by rw [h1] at e; cases e)
  exact ⟨ex, R.write hM hl h1 (fun ps z => by cases z) (fun q z => by cases z) ⟨dx, _, upd_same, (h2.put hw).mono ex.le⟩⟩
theorem setA_at {o : Wv} {ov : V} {f : Str} {w : Wv} {v : V} {D : Ends} (R : RM Z ι M H) (ho : WR Z ι H o ov) (hw : WR Z ι H w v) (sr : SR Z ι H sw σ) (h : sOut Z Wx ι H ((setA G o f w M).bind fun _ M => .ok (.nx, sw) M) D) :
    ∃ l c fs a dx vs, o = .ref l ∧ ov = .ref a ∧ M[l]? = some (.ins c fs) ∧ ι[l]? = some a ∧ (G.cls c).isSome = true ∧ H a = some (.ins (Z.cls c) dx vs) ∧ FsR Z ι H fs vs ∧ vs.length < 1000 ∧ D.nx σ (upd H a (.ins (Z.cls c) dx (L2.putF f v vs))) := by
  cases ho with
  | ref hl =>
    rename_i l a
    unfold setA at h
    simp only at h
    split at h
    · rename_i c fs hM
      cases hc : ((G.cls c).isSome && decide (fs.length < 1000)) with
      | false => rw [hc] at h; exact False.elim h
      | true =>
        rw [hc] at h
        rw [Bool.and_eq_true] at hc
        obtain ⟨dx, vs, h1, h2⟩ := R.ob _ _ _ hM hl
        have h : sOut Z Wx ι H (.ok (.nx, sw) (M.set l (.ins c (MP.putF f w fs)))) D := h
        obtain ⟨ex, R2⟩ := ins_write (f := f) R hM hl h1 h2 hw
        refine ⟨l, c, fs, a, dx, vs, rfl, rfl, hM, hl, hc.1, h1, h2, ?_, h _ _ ι ex R2 (sr.mono ex.le)⟩
        have := of_decide_eq_true hc.2
        rw [← Paired.length h2]
        exact this
    · exact False.elim h
  | _ => exact False.elim h
theorem s_asgA (k : Bx X Z Wx G) {f : Str} {pos' : Pos} (hf : AtOk Z G f) (ha : PE X a (TEx Z Wx G C C1 ea)) (hv : PE X e (TEx Z Wx G C C1 ee)) (hs : swapsWith e (some (.Attribute a f pos')) pos.line X.env = pure false := by rfl) :
    PS X (.Assign [.Attribute a f pos'] e pos) (TSx Z Wx G C C1 fu (.asgA ea f ee)) := by
  refine (ps_fld ha hv hs).weak fun D σ H ⟨ι, sw, M, sr, R, h⟩ => ?_
  simp only [evS] at h
  refine tE.seqS sr R h fun x M1 v H1 ι1 e1 R1 q1 s1 h1 => tE.seqS s1 R1 h1 fun y M2 u H2 ι2 e2 R2 q2 s2 h2 => ?_
  obtain ⟨l, c, fs, aa, dx, vs, rfl, rfl, hM, hl, hc, g1, g2, g3, g4⟩ := setA_at R2 q2 (q1.mono e2.le) s2 h2
  obtain ⟨kk, hk⟩ := Option.isSome_iff_exists.mp hc
  obtain ⟨c1, c2⟩ := hf c kk hk
  rw [← k.K] at c1 c2
  exact ⟨aa, Z.cls c, dx, vs, rfl, g1, c1, c2, g3, g4⟩
/-- o[i] = v -/
theorem set_ok (k : XOk X Z) : PSet X (fun o i v H Q => ∃ ι M wo wi wv, RM Z ι M H ∧ WR Z ι H wo o ∧ WR Z ι H wi i ∧ WR Z ι H wv v ∧ ∃ M', setW wo wi wv M = .ok () M' ∧ ∀ H', Ext ι ι H H' → RM Z ι M' H' → Q H') := by
  intro pins s σ H o i v ov iv u Q I ro ri rv ⟨ι, M, wo, wi, wv, R, h1, h2, h3, M', e, q⟩
  cases h1 with
  | ref hl =>
    rename_i l a
    cases ro
    simp only [setW] at e
    split at e
    · rename_i ws hM
      obtain ⟨vs, g1, g2⟩ := R.ob _ _ _ hM hl
      split at e
      · rename_i j
        cases h2
        have hlen := g2.length
        have fin : ∀ n : Nat, L2.ixN vs.length j = some n → M' = M.set l (.lst (ws.set n wv)) → wpAny (model X.prog X.w) X.A (setItem (.ref a) iv u) (fun _ s' => ∃ H', L2.Inv X pins σ H' s' ∧ Q H') X.xe s := fun n hn eM => by
          subst eM
          obtain ⟨ex, R2⟩ := lst_write R hM hl g1 (g2.set h3 n)
          exact set_list pins s σ H (.ref a) _ v (.ref a) iv u Q I (show RelV (.ref a) (.ref a) from rfl) ri rv ⟨a, vs, j, n, rfl, rfl, g1, hn, q _ ex R2⟩
        by_cases h0 : 0 ≤ j
        · rw [if_pos h0] at e
          split at e
          · rename_i hlt
            cases e
            refine fin j.toNat ?_ rfl
            unfold L2.ixN
            rw [if_pos h0, if_pos (by omega)]
          · cases e
        · rw [if_neg h0] at e
          split at e
          · rename_i hge
            cases e
            refine fin (j + ws.length).toNat ?_ rfl
            unfold L2.ixN
            rw [if_neg h0, if_pos (by rw [← hlen]; exact hge), hlen]
          · cases e
      · cases e
    · rename_i kvs hM
      obtain ⟨c, e⟩ := Out.chk_okE e
      rw [Bool.and_eq_true] at c
      cases e
      have D := R.ob _ _ _ hM hl
      refine DctR.setItem I k R hl D c.1 (of_decide_eq_true c.2) h2 ri h3 rv fun s' o' I' D' ex => ⟨_, I', q _ ex ?_⟩
      obtain ⟨o, es, ep, g1, g2, g3, _⟩ := id D
      exact R.write hM hl g1 (lkO_noT false a o) (fun q => dctO_noC o a q ⟨es, ep, g3⟩) D'
    · cases e
  | _ => cases e
theorem s_asgS (k : Bx X Z Wx G) {ps : Pos} (ho : PE X a (TEx Z Wx G C C1 ea)) (hi : PE X b (TEx Z Wx G C C1 eb)) (hv : PE X e (TEx Z Wx G C C1 ee))
    (ha : ∀ v, assign (.Subscript a b ps) X.env v = (do
      let ov ← holding [v] (eval a X.env)
      let iv ← holding [v, ov] (eval b X.env)
      standAt ps
      holding [v, ov, iv] (setItem ov iv v)
      release [v, ov, iv] []) := by intro _; rfl) (hs : swapsWithSole [.Subscript a b ps] e pos.line X.env = pure false := by rfl) (hw : swappedStores [.Subscript a b ps] e X.env = pure none := by rfl)
    (h1 : (assignEach [.Subscript a b ps] X.env).map (·.2) = [assign (.Subscript a b ps) X.env] := by rfl) : PS X (.Assign [.Subscript a b ps] e pos) (TSx Z Wx G C C1 fu (.asgS ea eb ee)) := by
  refine (ps_asg hv (pg_sub ho hi (set_ok k.toXOk) ha) hs hw h1).weak fun D σ H ⟨ι, sw, M, sr, R, h⟩ => ?_
  simp only [evS] at h
  refine tE.seqS sr R h fun x M1 v H1 ι1 e1 R1 q1 s1 h1 => tE.seqS s1 R1 h1 fun y M2 u H2 ι2 e2 R2 q2 s2 h2 => tE.seqS s2 R2 h2 fun z M3 t H3 ι3 e3 R3 q3 s3 h3 => ?_
  cases e : setW y z x M3 with
  | bad => rw [e] at h3; exact False.elim h3
  | exc c M4 =>
    exfalso
    unfold setW at e
    split at e
    · split at e
      · split at e
        · split at e
          · split at e <;> cases e
          · split at e <;> cases e
        · cases e
      · rename_i kvs _
        cases hc : (keyOk kvs z && lenOk (kvs.length + 1)) <;> rw [hc] at e <;> cases e
      · cases e
    · cases e
  | ok q M4 =>
    rw [e] at h3
    exact ⟨ι3, M3, y, z, x, R3, q2.mono e3.le, q3, (q1.mono e2.le).mono e3.le, M4, e, fun H' ex R4 => h3 σ H' ι3 ex R4 (s3.mono ex.le)⟩
/-! ### augmented -/
def augOf : Op → Bool
  | .add => true
  | .sub => true
  | _ => false
theorem ip_aug (o : Op) (ho : augOf o = true) : PIp X (opOf o) (r2 Z (augW o)) := by
  intro pins s σ H x y v u Q I rx ry ⟨ι, M, wa, wb, R, ha, hb, h⟩
  cases o <;> first | cases ho | skip
  · cases ha with
    | int i =>
      cases hb with
      | int j => exact ip_add pins s σ H _ _ v u Q I rx ry ⟨i, j, rfl, rfl, rOut.val h R (.int _)⟩
      | _ => exact False.elim h
    | _ => exact False.elim h
  · cases ha with
    | int i =>
      cases hb with
      | int j => exact ip_sub pins s σ H _ _ v u Q I rx ry ⟨i, j, rfl, rfl, rOut.val h R (.int _)⟩
      | _ => exact False.elim h
    | _ => exact False.elim h
theorem prim_aug (o : Op) (x y : Wv) (M : Mem) : Prim (augW o x y M) := by
  unfold augW
  split <;> first | exact Prim.ok | exact Prim.bad
theorem s_aug (k : Bx X Z Wx G) (i : Nat) (o : Op) {x : Str} {pos' : Pos} (he : PE X e (TEx Z Wx G C C1 ee)) (ho : augOf o = true := by rfl) (hi : stoB X.N X.env.scope X.fn i x = true := by kernel_rfl) : PS X (.AugAssign (.Name x pos') (opOf o) e pos) (TSx Z Wx G C C1 fu (.aug i o ee)) := by
  obtain ⟨h1, h2, h3⟩ := stoB_ok hi
  refine (ps_aug k.nd h1 h2 he (ip_aug (Z := Z) o ho) h3).weak fun D σ H ⟨ι, sw, M, sr, R, h⟩ => ?_
  simp only [evS] at h
  obtain ⟨x, ex, h⟩ := h.ofOb
  unfold getV at ex
  cases q : sw[i]? with
  | none => rw [q] at ex; cases ex
  | some y =>
    rw [q] at ex
    cases y with
    | none => cases ex
    | some w =>
      cases ex
      obtain ⟨v, g1, g2⟩ := sr.get i x q
      refine ⟨v, g1, tE.seqS sr R h fun y M1 u H1 ι1 e1 R1 q1 s1 h1 => ⟨ι1, M1, x, y, R1, g2.mono e1.le, q1, ?_⟩⟩
      cases e : augW o x y M1 with
      | bad => rw [e] at h1; exact h1
      | exc c M2 => exact absurd e (prim_aug o x y M1 c M2)
      | ok z M2 =>
        rw [e] at h1
        exact fun zv H2 ι2 e2 R2 q2 => sOut.nx (sOut.shift e2 h1) R2 ((s1.mono e2.le).set q2 i)
theorem s_augA (k : Bx X Z Wx G) {f : Str} (o : Op) {tpos : Pos} (hf : AtOk Z G f) (ha : PE X a (TEx Z Wx G C C1 ea)) (he : PE X e (TEx Z Wx G C C1 ee)) (ho : augOf o = true := by rfl) : PS X (.AugAssign (.Attribute a f tpos) (opOf o) e pos) (TSx Z Wx G C C1 fu (.augA ea f o ee)) := by
  refine (ps_fldaug ha he (ip_aug (Z := Z) o ho)).weak fun D σ H ⟨ι, sw, M, sr, R, h⟩ => ?_
  simp only [evS] at h
  refine tE.seqS sr R h fun y M1 v H1 ι1 e1 R1 q1 s1 h1 => ?_
  cases e2 : attrW G y f M1 with
  | bad => rw [e2] at h1; exact False.elim h1
  | exc c M2 => exact absurd e2 (prim_attr y f M1 c M2)
  | ok x M2 =>
    rw [e2] at h1
    obtain ⟨rfl, l, c, fs, aa, dx, vs, u, rfl, rfl, hM, hl, hc, h3, h4, h5, h6⟩ := attr_at R1 q1 e2
    obtain ⟨kk, hk⟩ := Option.isSome_iff_exists.mp hc
    obtain ⟨g1, g2⟩ := hf c kk hk
    rw [← k.K] at g1 g2
    refine ⟨aa, Z.cls c, dx, vs, u, rfl, h3, g1, g2, h5, tE.seqS s1 R1 h1 fun z M3 zv H3 ι3 e3 R3 q3 s3 h7 => ⟨ι3, M3, x, z, R3, h6.mono e3.le, q3, ?_⟩⟩
    cases e4 : augW o x z M3 with
    | bad => rw [e4] at h7; exact h7
    | exc c M4 => exact absurd e4 (prim_aug o x z M3 c M4)
    | ok r M4 =>
      rw [e4] at h7
      simp only [Out.bind_ok] at h7
      cases hq : decide (clsAt (.ref l) M4 = clsAt (.ref l) M2) with
      | false => rw [hq] at h7; exact False.elim h7
      | true =>
        rw [hq] at h7
        have h7 : sOut Z Wx ι3 H3 ((setA G (.ref l) f r M4).bind fun _ M => .ok (.nx, sw) M) D := h7
        have hq := of_decide_eq_true hq
        intro rv H5 ι5 e5 R5 q5
        obtain ⟨l', c', fs', a', dx', vs', el, ea', hM', hl', hc', h1', h2', h3', h4'⟩ := setA_at R5 ((q1.mono e3.le).mono e5.le) q5 (s3.mono e5.le) (sOut.shift e5 h7)
        cases el
        cases ea'
        have hcls : c' = c := by
          simp only [clsAt, hM, hM'] at hq
          exact Option.some.inj hq
        subst hcls
        exact ⟨dx', vs', h1', h3', h4'⟩
/-! ### plain statements -/
theorem s_ex (he : PE X e (TEx Z Wx G C C1 ee)) (hs : swapsWith e none pos.line X.env = pure false := by rfl) : PS X (.Expr e pos) (TSx Z Wx G C C1 fu (.ex ee)) :=
  (ps_expr he hs).weak fun D σ H ⟨ι, sw, M, sr, R, h⟩ => by
    simp only [evS] at h
    exact tE.seqS sr R h fun x M1 v H1 ι1 e1 R1 q1 s1 h1 => h1.nx R1 s1
theorem s_ret (he : PE X e (TEx Z Wx G C C1 ee)) : PS X (.Return (some e) pos) (TSx Z Wx G C C1 fu (.ret ee)) :=
  (ps_ret he).weak fun D σ H ⟨ι, sw, M, sr, R, h⟩ => by
    simp only [evS] at h
    exact tE.seqS sr R h fun x M1 v H1 ι1 e1 R1 q1 s1 h1 => h1 σ H1 ι1 (Ext.refl _ _) R1 s1 v q1
theorem s_retN : PS X (.Return none pos) (TSx Z Wx G C C1 fu .retN) :=
  ps_retN.weak fun D σ H ⟨ι, sw, M, sr, R, h⟩ => by
    simp only [evS] at h
    exact h σ H ι (Ext.refl _ _) R sr .non .non
theorem s_pass : PS X (.Pass pos) (TSx Z Wx G C C1 fu .pass) :=
  ps_pass.weak fun D σ H ⟨ι, sw, M, sr, R, h⟩ => by
    simp only [evS] at h
    exact h.nx R sr
theorem s_brk : PS X (.Break pos) (TSx Z Wx G C C1 fu .brk) :=
  ps_break.weak fun D σ H ⟨ι, sw, M, sr, R, h⟩ => by
    simp only [evS] at h
    exact h σ H ι (Ext.refl _ _) R sr
theorem s_cont : PS X (.Continue pos) (TSx Z Wx G C C1 fu .cont) :=
  ps_continue.weak fun D σ H ⟨ι, sw, M, sr, R, h⟩ => by
    simp only [evS] at h
    exact h σ H ι (Ext.refl _ _) R sr
theorem evT_bind {β : Type} (g : Bool → Mem → Out β) : ((evE G C C1 ec sw M).bind fun x M => (Out.ofO (truW G x M) M).bind g) = (evT G C C1 ec sw M).bind g := by
  unfold evT
  rw [Out.bind_assoc]
theorem s_if {th el : List Stmt} (hc : PT X c (TTx Z Wx G C C1 ec)) (ha : PSs X th (TSl Z Wx G C C1 fu sl)) (hb : PSs X el (TSl Z Wx G C C1 fu sl2)) : PS X (.If c th el pos) (TSx Z Wx G C C1 fu (.ifs ec sl sl2)) :=
  (ps_if hc ha hb).weak fun D σ H ⟨ι, sw, M, sr, R, h⟩ => by
    simp only [evS] at h
    rw [evT_bind] at h
    refine tT.seqS sr R h fun q M1 H1 ι1 e1 R1 s1 h1 => ?_
    cases q with
    | true => exact ⟨ι1, sw, M1, s1, R1, h1⟩
    | false => exact ⟨ι1, sw, M1, s1, R1, h1⟩
theorem s_whl (po : PassesOwn (model X.prog X.w) X.A X.env X.xe) {body : List Stmt} (hc : PT X c (TTx Z Wx G C C1 ec)) (hb : PSs X body (TSl Z Wx G C C1 fu sl)) : PS X (.While c body [] pos) (TSx Z Wx G C C1 fu (.whl ec sl)) :=
  (ps_while po hc hb).weak fun D σ H ⟨ι, sw, M, sr, R, h⟩ => by
    simp only [evS] at h
    refine ⟨fun m σ2 H2 => ∃ ι2 sw2 M2, SR Z ι2 H2 sw2 σ2 ∧ RM Z ι2 M2 H2 ∧ sOut Z Wx ι2 H2 (whlGo G (evE G C C1 ec) (evSl G C C1 fu sl) m sw2 M2) D, ⟨fu, ι, sw, M, sr, R, h⟩, ?_⟩
    rintro m σ2 H2 ⟨ι2, sw2, M2, s2, R2, h2⟩
    cases m with
    | zero => exact False.elim h2
    | succ m =>
      simp only [whlGo] at h2
      rw [evT_bind] at h2
      refine tT.seqS s2 R2 h2 fun q M3 H3 ι3 e3 R3 s3 h3 => ?_
      cases q with
      | false =>
        rw [if_neg Bool.false_ne_true] at h3 ⊢
        exact h3.nx R3 s3
      | true =>
        rw [if_pos rfl] at h3 ⊢
        refine ⟨fun σ' H' => ∃ ι2 sw2 M2, SR Z ι2 H' sw2 σ' ∧ RM Z ι2 M2 H' ∧ sOut Z Wx ι2 H' (whlGo G (evE G C C1 ec) (evSl G C C1 fu sl) m sw2 M2) D, fun σ' H' q => ⟨m, Nat.lt_succ_self _, q⟩, ι3, sw2, M3, s3, R3, ?_⟩
        cases e : evSl G C C1 fu sl sw2 M3 with
        | bad => rw [e] at h3; exact h3
        | exc c M4 => rw [e] at h3; exact h3
        | ok q M4 =>
          obtain ⟨f, sw4⟩ := q
          rw [e] at h3
          intro σ' H' ι' x R4 s4
          cases f with
          | nx => exact ⟨ι', sw4, M4, s4, R4, sOut.shift x h3⟩
          | ct => exact ⟨ι', sw4, M4, s4, R4, sOut.shift x h3⟩
          | brk => exact h3 σ' H' ι' x R4 s4
          | ret w => exact h3 σ' H' ι' x R4 s4
theorem s_for (k : Bx X Z Wx G) (po : PassesOwn (model X.prog X.w) X.A X.env X.xe) {t : Tg} {body : List Stmt} (hi : PI X tg iter (tI X Z Wx (evI G C C1 it))) (hg : PG X tg (gT Z.K t)) (hb : PSs X body (TSl Z (lkW X Wx) G C C1 fu sl))
    (hs : ∀ x, foldedSetIterable iter X.env x = pure x := by intro _; rfl) : PS X (.For tg iter body [] pos) (TSx Z Wx G C C1 fu (.for_ t it sl)) := by
  have h0 := ps_for (pos := pos) po k.calm hi hg hb hs
  refine ⟨fun pins s σ H D I ⟨ι, sw, M, sr, R, h⟩ => ?_⟩
  simp only [evS] at h
  refine thn (h0.run pins s σ H ⟨fun σ' H' => ∃ dl, UlOk X dl H' ∧ D.nx σ' (ulH dl H'), fun v H' => ∃ dl, UlOk X dl H' ∧ D.rt v (ulH dl H'), fun _ _ => False, fun _ _ => False⟩ I ⟨ι, sw, M, sr, R, ?_⟩) fun f s1 q => ?_
  · cases e : evI G C C1 it sw M with
    | bad => rw [e] at h; exact h
    | exc c M1 => rw [e] at h; exact fun H' ι' x R => h σ H' ι' x R
    | ok r M1 =>
      obtain ⟨xs, ps⟩ := r
      rw [e] at h
      intro J H1 ι1 dl L W
      simp only [Out.bind_ok] at h
      generalize hres : forGo t (evSl G C C1 fu sl) ps xs sw (lockM ps M1) = res at h
      have nb : res ≠ .bad := fun z => by rw [z] at h; exact h
      refine ⟨fun i m σ2 H2 => m = xs.length - i ∧ i ≤ xs.length ∧ ∃ ι2 sw2 M2, SR Z ι2 H2 sw2 σ2 ∧ RM Z ι2 M2 H2 ∧ Ext ι1 ι2 H1 H2 ∧ forGo t (evSl G C C1 fu sl) ps (xs.drop i) sw2 M2 = res,
        ⟨xs.length, by simp, Nat.zero_le _, ι1, sw, lockM ps M1, sr.mono L.le, L.rm, Ext.refl _ _, by simpa using hres⟩, ?_⟩
      rintro i m σ2 H2 ⟨rfl, hi2, ι2, sw2, M2, s2, R2, x2, e2⟩
      by_cases hlt : i < xs.length
      · refine .inr ?_
        rw [List.drop_eq_getElem_cons hlt] at e2
        simp only [forGo] at e2
        cases st : stays ps M2 with
        | false => rw [st] at e2; exact absurd e2.symm nb
        | true =>
          rw [st] at e2
          simp only [Out.chk] at e2
          refine ⟨W.go i ι2 H2 M2 x2 R2 st hlt, fun σ' H' => xs.length - (i + 1) = xs.length - (i + 1) ∧ i + 1 ≤ xs.length ∧ ∃ ι2 sw2 M2, SR Z ι2 H' sw2 σ' ∧ RM Z ι2 M2 H' ∧ Ext ι1 ι2 H1 H' ∧ forGo t (evSl G C C1 fu sl) ps (xs.drop (i + 1)) sw2 M2 = res,
            fun σ' H' q => ⟨xs.length - (i + 1), by omega, q⟩, fun v H' y => ?_⟩
          obtain ⟨w, hw, x3, R3, wr⟩ := W.yld i ι2 H2 M2 v H' x2 R2 st hlt y
          have ew : xs[i] = w := by rw [List.getElem?_eq_getElem hlt] at hw; exact Option.some.inj hw
          rw [ew] at e2
          cases et : tgW t w sw2 with
          | none => rw [et] at e2; exact absurd e2.symm nb
          | some τ =>
            rw [et] at e2
            simp only at e2
            refine tgW_rel (s2.mono x3.le) wr et fun σ' sr' wp => ⟨ι2, τ, M2, sr', R3, ?_⟩
            have x13 := x2.trans x3
            cases e5 : evSl G C C1 fu sl τ M2 with
            | bad => rw [e5] at e2; exact absurd e2.symm nb
            | exc c M4 =>
              rw [e5] at e2
              have e2 : res = .exc c M4 := e2.symm
              rw [e2] at h
              intro σ4 H4 ι4 x4 R4
              obtain ⟨u1, u2, u3, u4⟩ := L.un (x13.trans x4) R4
              exact ⟨dl, u4, h σ4 _ ι4 u1 u2⟩
            | ok q M4 =>
              obtain ⟨f, sw4⟩ := q
              rw [e5] at e2
              intro σ4 H4 ι4 x4 R4 s4
              have x14 := x13.trans x4
              cases f with
              | nx => exact ⟨rfl, hlt, ι4, sw4, M4, s4, R4, x14, e2⟩
              | ct => exact ⟨rfl, hlt, ι4, sw4, M4, s4, R4, x14, e2⟩
              | brk =>
                have e2 : res = .ok (.nx, sw4) M4 := e2.symm
                rw [e2] at h
                obtain ⟨u1, u2, u3, u4⟩ := L.un x14 R4
                exact ⟨dl, u4, h σ4 _ ι4 u1 u2 (s4.mono u3)⟩
              | ret w =>
                have e2 : res = .ok (.ret w, sw4) M4 := e2.symm
                rw [e2] at h
                obtain ⟨u1, u2, u3, u4⟩ := L.un x14 R4
                exact fun v hv => ⟨dl, u4, h σ4 _ ι4 u1 u2 (s4.mono u3) v (hv.mono u3)⟩
      · have ei : i = xs.length := by omega
        subst ei
        rw [List.drop_length] at e2
        simp only [forGo] at e2
        cases st : stays ps M2 with
        | false => rw [st] at e2; exact absurd e2.symm nb
        | true =>
          rw [st] at e2
          have e2 : res = .ok (.nx, sw2) M2 := e2.symm
          rw [e2] at h
          obtain ⟨u1, u2, u3, u4⟩ := L.un x2 R2
          exact .inl ⟨W.stop ι2 H2 M2 x2 R2 st, dl, u4, h σ2 _ ι2 u1 u2 (s2.mono u3)⟩
  · cases f with
    | next => obtain ⟨σ', H', I2, dl, uo, q⟩ := q; exact ⟨σ', _, inv_ul I2 uo, q⟩
    | brk => obtain ⟨σ', H', I2, q⟩ := q; exact False.elim q
    | cont => obtain ⟨σ', H', I2, q⟩ := q; exact False.elim q
    | ret v => obtain ⟨x, σ', H', I2, r, dl, uo, q⟩ := q; exact ⟨x, σ', _, inv_ul I2 uo, r, q⟩
/-- an own class of errors -/
structure ExOk (K : PySem.W.Frag) (mg : Str → Option Value) (x : Str) (C : Addr) : Prop where
  mg : mg x = some (.ref C)
  ex : PySem.W.excIn K C [.type "ValueError", .type "Exception", .type "BaseException", .type "object"] "ValueError.__new__" = true
  kp : PySem.W.keepIn K (.ref C) = true
  sub : PySem.W.subIn K (.ref C) (.type "BaseException") = some true
  ty : PySem.W.typeIn K (.ref C) = some (.type "type")
theorem s_raise (k : Bx X Z Wx G) (cc : Nat) {x m : Str} {j : Nat} (E : ExOk X.K X.mg x (Z.exc cc)) (hg : gloB X.env x = true := by kernel_rfl) : PS X (.Raise (some (.Call (.Name x p) [.Constant (.str m) j p2] [] p3)) none pos) (TSx Z Wx G C C1 fu (.raise cc)) := by
  obtain ⟨h1, h2, h3⟩ := gloB_ok hg
  refine (ps_raise k.calm k.tk (pmk_own PySem.F.excBase_ValueError E.ex E.mg E.kp (raises_own E.sub E.ty) h1 h2)).weak fun D σ H ⟨ι, sw, M, sr, R, h⟩ => ?_
  simp only [evS] at h
  exact ⟨cc, rfl, h σ H ι (Ext.refl _ _) R⟩
end
end MP
end
section
set_option Elab.async false
set_option linter.all false
set_option maxRecDepth 100000
/-! MP18: sorted(xs, key=lambda x: ..), the key reckoned by data. -/
namespace MP
open PySem PySem.Spec PyProof.Rows L2
mutual
theorem noL_nil {h : Heap} : ∀ {d : PyData} {u : Value} {as : List Addr}, noL d = true → Reads h u d as → as = []
  | .none, _, _, _, r => by cases r; rfl
  | .bool _, _, _, _, r => by cases r; rfl
  | .int _, _, _, _, r => by cases r; rfl
  | .str _, _, _, _, r => by cases r; rfl
  | .tuple xs, _, _, n, r => by
    cases r with
    | tuple h1 h2 h3 h4 => exact noLs_nil (by simpa [noL] using n) h4
  | .list _, _, _, n, r => by simp [noL] at n
  | .dict _, _, _, n, r => by simp [noL] at n
theorem noLs_nil {h : Heap} : ∀ {ds : List PyData} {us : List Value} {as : List Addr}, noLs ds = true → ReadsAll h us ds as → as = []
  | [], _, _, _, r => by cases r; rfl
  | d :: ds, _, _, n, r => by
    cases r with
    | cons h1 h2 =>
      rw [noLs, Bool.and_eq_true] at n
      rw [noL_nil n.1 h1, noLs_nil n.2 h2]
      rfl
end
/-- the body of the lambda, at a value that reads as D: what it gives reads as the key's data -/
def KB (x : Str) (scope : Scope) (e : Expr) (k : Ke) : Prop :=
  ∀ (P : Program) (w : World) (A : Around) (E : Value → Shared → Prop) (env : Env) (s : Shared) (m : Str → Option Value) (u : Value) (D d : PyData) (Q : Value → Shared → Prop), env.scope = scope → scope.kind = .function → scope.names.lookup x = some .local →
    s.heap.Ns env.locals m → m x = some u → Reads s.heap u D [] → keyD k D = some d →
    (∀ h' tk r, (∀ b o, s.heap.get? b = some o → h'.get? b = some o) → Reads h' r d [] → Q r { s with heap := h', toks := tk }) → wpAny (model P w) A (eval e env) Q E s
theorem kb_v {x : Str} {scope : Scope} {pos : Pos} (hd : (x == ("__debug__" : Str)) = false := by decide) : KB x scope (.Name x pos) .v := by
  intro P w A E env s m u D d Q he hk hl hn hm hr ek h
  cases ek
  refine wpAny_Name (wpAny_loadName_local (by rw [he]; exact hk) (show env.scope.names.lookup x = some .local by rw [he]; exact hl) hn hm ?_) hd
  exact h s.heap s.toks u (fun _ _ q => q) hr
theorem reads_items {h : Heap} {us : List Value} {ds : List PyData} (r : ReadsAll h us ds []) : ∀ {i : Nat} {d : PyData}, ds[i]? = some d → ∃ u, us[i]? = some u ∧ Reads h u d [] := by
  intro i d hd
  induction ds generalizing us i with
  | nil => simp at hd
  | cons x xs ih =>
    generalize ha : ([] : List Addr) = as at r
    cases r with
    | cons h1 h2 =>
      rename_i v vs as bs
      have ha2 : as = [] ∧ bs = [] := by
        cases as with
        | nil => exact ⟨rfl, by simpa using ha.symm⟩
        | cons _ _ => simp at ha
      obtain ⟨rfl, rfl⟩ := ha2
      cases i with
      | zero => simp at hd; subst hd; exact ⟨v, rfl, h1⟩
      | succ i => obtain ⟨u, e1, e2⟩ := ih h2 (by simpa using hd); exact ⟨u, by simpa using e1, e2⟩
theorem seq_ix {i n : Nat} (h : i < n) : seqIndex? (i : Int) n = some i := by
  unfold seqIndex?
  simp
  omega
theorem kb_sub {x : Str} {scope : Scope} {e : Expr} {k : Ke} (i : Nat) {j : Nat} {pos p : Pos} (hi : i < 1000) (he : KB x scope e k) : KB x scope (.Subscript e (.Constant (.int (i : Int)) j p) pos) (.sub k i) := by
  intro P w A E env s m u D d Q hs hk hl hn hm hr ek h
  simp only [keyD] at ek
  split at ek
  · rename_i xs e1
    refine Subscript_ (he P w A E env s m u D (.tuple xs) _ hs hk hl hn hm hr e1 fun h' tk r kp rr => ?_)
    refine wpAny_Constant_int ?_
    cases rr with
    | tuple g1 g2 g3 g4 =>
      rename_i a o vs n
      obtain ⟨v, e2, rv⟩ := reads_items g4 ek
      have hlt : i < vs.size := by
        have := (List.getElem?_eq_some_iff.mp e2).1
        simpa using this
      have fin : Q v { s with heap := h', toks := tk + 1 } := h h' (tk + 1) v kp rv
      refine subscriptTail_builtinR (x := v) (T := "tuple") ⟨o, g1, g2⟩ slot_tuple_getitem.lookup ?_
      exact getItem_tuple (j := i) (Q := fun r s' => r = v ∧ Q r s') ⟨o, g1, g2, n, g3⟩ (by omega) (by omega) (seq_ix hlt) (by rw [← Array.getElem?_toList]; exact e2) ⟨rfl, fin⟩
  · cases ek
theorem kb_tup {x : Str} {scope : Scope} {e f : Expr} {k l : Ke} {j : Nat} {pos : Pos} (he : KB x scope e k) (hf : KB x scope f l) (h1 : ∀ env, starEach [e, f] env = [(false, eval e env), (false, eval f env)] := by intro _; rfl) : KB x scope (.Tuple [e, f] j pos) (.tup k l) := by
  intro P w A E env s m u D d Q hs hk hl hn hm hr ek h
  simp only [keyD] at ek
  split at ek
  · rename_i a b e1 e2
    cases ek
    refine wpAny_Tuple_spliced ?_
    rw [h1]
    show wpAny _ _ (spliced ((false, eval e env) :: backTo pos [(false, eval f env)])) _ _ s
    refine Calls.spliced_cons (he P w A E env s m u D a _ hs hk hl hn hm hr e1 fun h' tk r kp rr => ?_)
    show wpAny _ _ (spliced ((false, eval f env) :: backTo pos [])) _ _ _
    refine Calls.spliced_cons (hf P w A E env { s with heap := h', toks := tk } m u D b _ hs hk hl (hn.keeps kp) hm (PyProof.Rows.Reads.keeps kp hr) e2 fun h2 tk2 r2 kp2 rr2 => ?_)
    refine Calls.spliced_nil ⟨by show 2 ≤ sizeLine; decide, ?_⟩
    refine h _ tk2 (.ref h2.objs.size) (fun b o q => Heap.get?_push_of_some _ (kp2 b o (kp b o q))) ?_
    have r1 := PyProof.Rows.Reads.keeps (fun b o q => Heap.get?_push_of_some { cls := .type "tuple", data := .seq [r, r2].toArray } (kp2 b o q)) rr
    have r2' := PyProof.Rows.Reads.keeps (fun b o q => Heap.get?_push_of_some { cls := .type "tuple", data := .seq [r, r2].toArray } q) rr2
    exact .tuple (Heap.get?_push_size _ rfl) rfl rfl (.cons r1 (.cons r2' .nil))
  · cases ek
/-- the lambda called -/
theorem lam_turn {P : Program} {w : World} {A : Around} {s : Shared} {f c' : Addr} {q x : Str} {params : Arguments} {body : Expr} {scope : Scope} {pm ctv u : Value} {k : Ke} {D d : PyData} {E : Value → Shared → Prop} (hroom : A.depth < recursionLimit)
    (ho : s.heap.get? f = some (PySem.W.kla_obj "<lambda>" q params body scope [] pm c' ctv)) (hcd : s.heap.CodeRec (.ref c') q) (hlim : s.heap.NoLimit) (hco : scope.isCoroutine = false) (hgen : scope.isGenerator = false) (hkind : scope.kind = .function) (hcell : ∀ y ∈ scope.names, y.2 ≠ .cell) (hx : scope.names.lookup x = some .local)
    (hbind : bindArgs (PySem.W.kla_fn "<lambda>" q params body scope [] pm (.ref c') ctv) ⟨[u], []⟩ = pure [(x, u)]) (kb : KB x scope body k) (hr : Reads s.heap u D []) (hd : keyD k D = some d) :
    wpAny (model P w) A (call (.ref f) [u]) (PySem.W.KeyPure d s) E s := by
  refine wpAny_call (PySem.W.kla_callFunE hroom ho rfl hco hgen rfl hcd ?_)
  rw [hbind]
  refine wpAny_pure (wpAny_newFunctionEnv hcell (fun y hy => by rw [List.mem_singleton.mp hy]; exact hx) (fun h₁ hns hsb => ⟨hlim.fresh _ hsb, ?_⟩) hkind)
  have kp : ∀ b o, s.heap.get? b = some o → h₁.get? b = some o := fun b o e => hsb.extBut b o (Nat.ne_of_lt (Heap.lt_size e)) (Heap.get?_push_of_some _ e)
  refine PySem.W.kla_codeExpr ?_
  refine kb P w _ _ _ { s with heap := h₁, toks := s.toks + [(x, u)].length } _ u D d _ rfl hkind hx hns (by simp) (PyProof.Rows.Reads.keeps kp hr) hd fun h' tk r kp' rr => ?_
  exact ⟨h', tk, rfl, fun b o e => kp' b o (kp b o e), rr⟩
/-- the tables of the def that makes lambdas -/
structure LmOk (X : Cx) (Z : Zt) : Prop where
  ex : ∃ c P, LamX.TabB X.base X.mg c P ∧ X.env.code = .ref c ∧ (P, X.env.qual ++ "<lambda>") ∈ Z.T ∧ ∀ p ∈ Z.T, p.1 = P → p.2 = X.env.qual ++ "<lambda>"
section
variable {X : Cx} {Z : Zt} {Wx : Wish} {G : Pg} {C C1 : Nat → List Wv → Mem → Out Wv} {a b c e : Expr} {ea : Ex} {pos p p2 p3 kpos : Pos}
variable {pins : List (Addr × Obj)} {σ : L2.St} {H H1 : Hp} {s : Shared} {ι ι1 : List Addr} {M : Mem} {sw : Sw}
theorem rm_lam (R : RM Z ι M H) (x : LamX.ExtN H H1) (t : LamX.Tabs Z.T H1) : Ext ι ι H H1 ∧ RM Z ι M H1 := by
  have ex : Ext ι ι H H1 := ⟨⟨[], by simp, by simp⟩, fun a o h nt _ => x a o h nt, fun a ob φ h => x a _ h (fun ps z => by cases z), fun a h o e n => h o (x a o e n) n⟩
  exact ⟨ex, R.len, R.nd, fun l o a h1 h2 => (R.ob l o a h1 h2).mono ex.le fun ho e nt => x a ho e nt, t⟩
theorem mapO_each {ws : List Wv} {vs : List V} {us : List Value} {ds : List PyData} {k : Ke} (kx : Bx X Z Wx G) (I : L2.Inv X pins σ H s) (R : RM Z ι M H) (r : WsR Z ι H ws vs) (rv : Vals vs us) (e : mapO (keyOf G k M) ws = some ds) :
    ∃ bs : List Tri, bs.map (·.1) = ds ∧ bs.map (·.2.1) = ws ∧ (∀ b ∈ bs, WR Z ι H b.2.1 b.2.2) ∧ W.EachIs (fun u (b : Tri) => RelV b.2.2 u ∧ ∃ D, Reads s.heap u D [] ∧ keyD k D = some b.1) us bs := by
  induction ws generalizing vs us ds with
  | nil => cases r; cases rv; cases e; exact ⟨[], rfl, rfl, by simp, .nil⟩
  | cons w ws ih =>
    cases r with
    | cons h t =>
      cases rv with
      | cons h2 t2 =>
        simp only [mapO] at e
        split at e
        · rename_i d ds' e1 e2
          cases e
          obtain ⟨bs, b1, b2, b3, b4⟩ := ih t t2 e2
          unfold keyOf at e1
          split at e1
          · rename_i D eD
            split at e1
            · rename_i nl
              obtain ⟨as, ra⟩ := Dp.reads I D _ _ (by rw [kx.K]; exact toD_dp kx.hS R _ h eD) h2
              have := noL_nil nl ra
              subst this
              refine ⟨(d, w, _) :: bs, by simp [b1], by simp [b2], fun b hb => ?_, .cons ⟨h2, D, ra, e1⟩ b4⟩
              rcases List.mem_cons.mp hb with z | z
              · subst z; exact h
              · exact b3 b z
            · cases e1
          · cases e1
        · cases e
theorem e_sortk (k : Bx X Z Wx G) (lm : LmOk X Z) (hroom : X.A.depth + 4 < recursionLimit) {ke : Ke} {x : Str} {params : Arguments} {body : Expr} {scope : Scope} {lpos : Pos} (hm : X.mg "sorted" = none) (ha : PE X a (TEx Z Wx G C C1 ea)) (kb : KB x scope body ke)
    (hdef : defaultsOf params X.env = ([], []) := by rfl) (hfree : scope.names.all (fun y => !decide (y.2 = .free) && !decide (y.2 = .cell)) = true := by kernel_rfl) (hco : scope.isCoroutine = false := by rfl) (hgen : scope.isGenerator = false := by rfl) (hkind : scope.kind = .function := by rfl) (hx : scope.names.lookup x = some .local := by rfl)
    (hbind : ∀ q pm c' ctv u, bindArgs (PySem.W.kla_fn "<lambda>" q params body scope [] pm (.ref c') ctv) ⟨[u], []⟩ = pure [(x, u)] := by intros; rfl)
    (hg : gloB X.env "sorted" = true := by kernel_rfl) (hs : starEach [a] X.env = (false, eval a X.env) :: starEach [] X.env := by rfl)
    (he : backTo pos (starEach [a] X.env) = (false, eval a X.env) :: backTo pos (starEach [] X.env) := by rfl) (hpl : (backTo pos (starEach [a] X.env)).any (·.1) = false := by rfl)
    (hall : (backToKw pos (keywordEach [⟨some "key", .Lambda params body scope lpos, kpos⟩] X.env)).all (·.1.isSome) = true := by rfl) (hnone : (backToKw pos (keywordEach [⟨some "key", .Lambda params body scope lpos, kpos⟩] X.env)).any (·.1.isNone) = false := by rfl)
    (hks : (backToKw pos (keywordEach [⟨some "key", .Lambda params body scope lpos, kpos⟩] X.env)).filterMap (·.1) = [Str.ofString "key"] := by rfl) :
    PE X (.Call (.Name "sorted" p) [a] [⟨some "key", .Lambda params body scope lpos, kpos⟩] pos) (TEx Z Wx G C C1 (.sortk ea ke)) := by
  obtain ⟨h1, h2, h3⟩ := gloB_ok hg
  obtain ⟨c, P, TB, hcode, hmT, huT⟩ := lm.ex
  refine ⟨fun pins s σ H Q I ⟨ι, sw, M, sr, R, h⟩ => ?_⟩
  simp only [evE] at h
  refine wpAny_Call_Name_kw (ld_blt I h1 hm (by rfl) ?_ h3 h2)
  refine PyProof.Rows.callWith_kw (thn ((pa_cons ha pa_nil hs).run pos pins s σ H (fun vs H1 => ∃ v ι1 M1 w, vs = [v] ∧ RM Z ι1 M1 H1 ∧ WR Z ι1 H1 w v ∧ rOut Z ι1 H1 (newL ((lstOf w M1).bind fun ws => (mapO (keyOf G ke M1) ws).bind fun ds => sortBy ds ws) M1) Q) I
    (tE.seqE sr R h fun w M1 v H1 ι1 e1 R1 q1 s1 h1 => ⟨v, ι1, M1, w, rfl, R1, q1, (prim_newL _ _).out h1⟩)) fun us s1 ⟨vs, H1, I1, r1, v, ι1, M1, w, ev, R1, wr, h4⟩ => ?_) he hpl hall hnone
  subst ev
  obtain ⟨u, rfl, ru⟩ := vals1 r1
  show wpAny _ _ (evalAll [do let v ← eval (.Lambda params body scope lpos) X.env; standAt pos; pure v]) _ _ s1
  have nofree : ∀ y ∈ scope.names, y.2 ≠ .free ∧ y.2 ≠ .cell := fun y hy => by
    rw [List.all_eq_true] at hfree
    have := hfree y hy
    rw [Bool.and_eq_true] at this
    exact ⟨by simpa using this.1, by simpa using this.2⟩
  have clo : cloFrom X.env.cells scope.names [] = [] := by
    have go : ∀ (l : List (Str × NameKind)), (∀ y ∈ l, y.2 ≠ .free) → cloFrom X.env.cells l [] = [] := by
      intro l
      induction l with
      | nil => intro _; rfl
      | cons y ys ih =>
        intro hy
        obtain ⟨n, kd⟩ := y
        have h0 := hy (n, kd) List.mem_cons_self
        have := ih fun z hz => hy z (List.mem_cons_of_mem _ hz)
        cases kd <;> first | exact absurd rfl h0 | exact this
    exact go _ fun y hy => (nofree y hy).1
  refine wpAny_evalAll_cons (wpAny_bind (LamX.lam_make2 I1 TB hcode hmT huT R1.tab hdef (fun y hy e => absurd e (nofree y hy).1) fun f c' pm ctv H2 s2 I2 x2 t2 of hfn hfr hc => wpAny_bind (wpAny_standAt (wpAny_pure (wpAny_evalAll_nil ?_)))))
  rw [clo] at of
  rw [hks]
  show wpAny _ _ (call (.builtin "sorted") [u] [(Str.ofString "key", .ref f)]) _ _ s2
  obtain ⟨x3, R3⟩ := rm_lam R1 x2 t2
  obtain ⟨out, e, hz, h5⟩ := newL_ok h4
  obtain ⟨zs, e1, e⟩ := Option.bind_eq_some_iff.mp e
  obtain ⟨ds, e2, e3⟩ := Option.bind_eq_some_iff.mp e
  obtain ⟨l, vs, rfl, hl, hws⟩ := lstOf_at R3 (wr.mono x3.le) e1
  cases ru
  obtain ⟨its, rv, pl, hzz⟩ := I2.list (SqL.of (K := X.K) hl)
  obtain ⟨bs, b1, b2, b3, b4⟩ := mapO_each k I2 R3 hws rv e2
  obtain ⟨a1, a2, a3, a4⟩ := sortBy_tri (bs := bs) (out := out) (by rw [b1, b2]; exact e3)
  have hlen : bs.length = zs.length := by rw [← b2, List.length_map]
  obtain ⟨⟨oc, vs', tt, hoc, hdc, hvc⟩, _, _⟩ := I2.hok c' _ hc
  have lim : s2.heap.NoLimit := I2.nolimit
  refine PySem.W.sorted_key_data (fun b : Tri => b.1) pl.isList b4 (alikeAll_of a1) (sortable_of a2) (by rw [hlen, hws.length]; exact hzz) (depth_cap k.toXOk a3) (PyProof.Rows.ksk_s1 _ _) (fun x => PyProof.Rows.ksk_l1 _ _) (fun y => PyProof.Rows.ksk_t1 f y)
    (fun v b hR hb h' tk kp => ?_) fun o cc h' tk kp hnew hat hol eo => ?_
  · obtain ⟨hrel, D, hD, kd⟩ := hR
    exact lam_turn (s := { s2 with heap := h', toks := tk }) (by show X.A.depth < recursionLimit; omega) (kp _ _ of) ⟨c', oc, vs', tt, rfl, kp _ _ hoc, hdc, hvc⟩ (lim.keeps kp) hco hgen hkind (fun y hy => (nofree y hy).2) hx (hbind _ _ _ _ _) kb (PyProof.Rows.Reads.keeps kp hD) kd
  · have eo2 : W.EachIs (fun u (b : Tri) => RelV b.2.2 u) o (bs.mergeSort (W.dataLe false fun b : Tri => b.1)) := eo.mono fun u b hh => hh.1
    have ww : WsR Z ι1 H2 out ((bs.mergeSort (W.dataLe false fun b : Tri => b.1)).map (·.2.2)) := by
      rw [a4]
      exact ws_sorted fun b hb => b3 b ((List.mergeSort_perm _ _).mem_iff.mp hb)
    have h6 : rOut Z ι1 H2 (.ok (.ref M1.length) (M1 ++ [.lst out])) Q := fun v H' ι' y R4 q4 => h5 v H' ι' (x3.trans y) R4 q4
    exact ⟨.ref _, _, I2.laid (t' := tk) kp (Nat.le_succ _) (show ObjOk X.prog X.w _ _ _ (.lst ((bs.mergeSort (W.dataLe false fun b : Tri => b.1)).map (·.2.2))) from ⟨by rw [← ww.length]; exact hz, o, cc, each_vals eo2, hat⟩), rfl, h6.lst R3 ww (I2.hok.fresh (Nat.le_succ _))⟩
end
end MP
end
section
set_option Elab.async false
set_option linter.all false
set_option maxRecDepth 100000
/-! MP19: a def keeps its promise. -/
namespace MP
open PySem PySem.Spec PyProof.Rows L2

theorem callN_succ (G : Pg) (fu k f : Nat) (ws : List Wv) (M : Mem) : callN G fu (k + 1) f ws M = match G.df f with
    | some d => runD G (callN G fu k) (callN G fu (k - 1)) fu d ws M
    | none => .bad := by
  have e0 : callN G fu 0 = fun _ _ _ => .bad := by funext a b c; simp only [callN]
  cases k with
  | zero =>
    simp only [Nat.zero_sub, e0]
    simp only [callN]
    try (cases G.df f <;> rfl)
  | succ k =>
    simp only [callN, Nat.add_sub_cancel]
    try (cases G.df f <;> rfl)
/-- what a def wants of its refusals -/
def wxE (Z : Zt) (E : XK) : Wish := fun c _ H => ∀ d, E (.ref (Z.exc c)) d H
section
variable {P : Program} {w : World} {K : PySem.W.Frag} {mg : Str → Option Value} {base : Heap} {Z : Zt} {G : Pg} {C C1 : Nat → List Wv → Mem → Out Wv} {fu k : Nat}
theorem bx_of {N ps : List Str} {qual : Str} {scope : Scope} {f : Addr} {cdv : Value} {A : Around} {outer : List Env} {s : Shared} {H : Hp} {E : XK} (hZ : Z.P = P ∧ Z.w = w ∧ Z.K = K) (hS : Z.S = G.S) (S : FnScope N ps scope) (hr : Room k (A.deeper (envOfC qual scope s.heap.objs.size f cdv))) :
    Bx (cxOf (L2.CX P w) P w K mg base N qual scope f cdv A outer s H E) Z (wxE Z E) G := by
  obtain ⟨rfl, rfl, rfl⟩ := hZ
  refine ⟨⟨rfl, rfl, rfl, rfl, ?_⟩, hS, S.nd, ?_⟩
  · have := hr.un
    show (A.deeper (envOfC qual scope s.heap.objs.size f cdv)).units + 200 < cLine
    omega
  · refine Takes.imp (takes_of (X := cxOf (L2.CX Z.P Z.w) Z.P Z.w Z.K mg base N qual scope f cdv A outer s H E) (E := E) rfl rfl rfl rfl) fun cls d σ H h => ?_
    obtain ⟨c, rfl, h⟩ := h
    exact h d
theorem start_rel {N : List Str} {ws : List Wv} {vs : List V} {ι : List Addr} {H : Hp} (r : WsR Z ι H ws vs) : SR Z ι H (ws.map some ++ List.replicate (N.length - ws.length) none) (L2.start N vs) := by
  have hl := r.length
  unfold L2.start
  refine ⟨by simp [hl], fun i w h => ?_⟩
  by_cases hi : i < ws.length
  · rw [List.getElem?_append_left (by simpa using hi), List.getElem?_map] at h
    rw [List.getElem?_append_left (by rw [List.length_map, ← hl]; exact hi), List.getElem?_map]
    cases e : ws[i]? with
    | none => rw [e] at h; cases h
    | some x =>
      rw [e] at h
      cases h
      obtain ⟨v, h1, h2⟩ := r.get e
      exact ⟨v, by rw [h1]; rfl, h2⟩
  · rw [List.getElem?_append_right (by simp; omega)] at h
    have := List.getElem?_replicate (n := N.length - ws.length) (a := (none : Option Wv)) (i := i - (ws.map some).length)
    rw [this] at h
    split at h <;> cases h
theorem fn_mp {x qual : Str} {params : Arguments} {body : List Stmt} {scope : Scope} {dvs : List V} {kws : List (Str × V)} {f : Addr} {fd : FuncData} {N ps : List Str} {d : Df} {Fc : List Wv → Mem → Out Wv} (F : FunD K x qual params body scope dvs kws f fd) (S : FnScope N ps scope)
    (hZ : Z.P = P ∧ Z.w = w ∧ Z.K = K) (hS : Z.S = G.S) (hslots : d.slots = N.length) (hn : d.npar = ps.length) (hF : ∀ ws M, Fc ws M = runD G C C1 fu d ws M)
    (hbody : ∀ (cdv : Value), (∀ p, He.fAd K p = f → cdv = .ref (He.codeOf K p)) → ∀ (A : Around) (outer : List Env) (s : Shared) (H : Hp) (E : XK), Room k (A.deeper (envOfC qual scope s.heap.objs.size f cdv)) → Bx (cxOf (L2.CX P w) P w K mg base N qual scope f cdv A outer s H E) Z (wxE Z E) G →
      PassesOwn (model P w) (A.deeper (envOfC qual scope s.heap.objs.size f cdv)) (envOfC qual scope s.heap.objs.size f cdv) (cxOf (L2.CX P w) P w K mg base N qual scope f cdv A outer s H E).xe → PSs (cxOf (L2.CX P w) P w K mg base N qual scope f cdv A outer s H E) body (TSl Z (wxE Z E) G C C1 fu d.body)) :
    FnOk P w K mg base (L2.CX P w) (k + 1) f fd ps (spI Z Fc) := by
  obtain ⟨oc, od, dV, kV, doc, pm, an, cdv, ct, osl, rfl, lk, hcd, _, _⟩ := F.ex
  have hcv : ∀ p, He.fAd K p = f → cdv = .ref (He.codeOf K p) := fun p hp => by
    obtain ⟨c, rfl⟩ := He.codeIn_ref hcd
    rw [He.codeOf_eq (p := p) (c := c) (by rw [hp]; exact lk) rfl]
  refine fn_of lk hcd S (fun vs H Q E h => ?_) fun A outer s H vs Q E hr h => ⟨_, hbody cdv hcv A outer s H E hr (bx_of hZ hS S hr) (passes_of (X := cxOf (L2.CX P w) P w K mg base N qual scope f cdv A outer s H E) rfl), ?_⟩
  · obtain ⟨ι, M, ws, R, r, h⟩ := h
    rw [hF] at h
    unfold runD at h
    rw [← r.length, ← hn]
    cases hq : decide (ws.length = d.npar) with
    | false => rw [hq] at h; exact False.elim h
    | true => exact of_decide_eq_true hq
  · obtain ⟨ι, M, ws, R, r, h⟩ := h
    rw [hF] at h
    unfold runD at h
    refine ⟨ι, ws.map some ++ List.replicate (N.length - ws.length) none, M, start_rel r, R, ?_⟩
    rw [hslots] at h
    cases hq : decide (ws.length = d.npar) with
    | false => rw [hq] at h; exact False.elim h
    | true =>
      rw [hq] at h
      simp only [Out.chk] at h
      cases e : evSl G C C1 fu d.body (ws.map some ++ List.replicate (N.length - ws.length) none) M with
      | bad => rw [e] at h; exact h
      | exc c M1 => rw [e] at h; exact fun σ' H' ι' x R d => h H' ι' d x R
      | ok q M1 =>
        obtain ⟨fl, sw⟩ := q
        rw [e] at h
        intro σ' H' ι' x R1 s1
        cases fl with
        | nx => exact h .non H' ι' x R1 .non
        | ret w => exact fun v hv => h v H' ι' x R1 hv
        | brk => exact False.elim h
        | ct => exact False.elim h
theorem fn_bad {f : Addr} {fd : FuncData} {ps : List Str} {Fc : List Wv → Mem → Out Wv} {n : Nat} (h : ∀ ws M, Fc ws M = .bad) : FnOk P w K mg base (L2.CX P w) n f fd ps (spI Z Fc) :=
  ⟨fun vs H Q E ⟨ι, M, ws, R, r, q⟩ => by rw [h] at q; exact False.elim q, fun A outer s H args us vs Q E hr e0 hb rv ⟨ι, M, ws, R, r, q⟩ => by rw [h] at q; exact False.elim q⟩
/-- the built-ins are free -/
structure Frs (mg : Str → Option Value) : Prop where
  isinstance : mg "isinstance" = none
  len : mg "len" = none
  all : mg "all" = none
  any : mg "any" = none
  sum : mg "sum" = none
  min : mg "min" = none
  max : mg "max" = none
  sorted : mg "sorted" = none
  range : mg "range" = none
  zip : mg "zip" = none
  enumerate : mg "enumerate" = none
  abs : mg "abs" = none
  list : mg "list" = none
  dict : mg "dict" = none
  tuple : mg "tuple" = none
  str : mg "str" = none
  int : mg "int" = none
  set : mg "set" = none
  bool : mg "bool" = none
/-- a constant of the module -/
structure ConOk (mg : Str → Option Value) (Z : Zt) (G : Pg) (x : Str) : Prop where
  ex : ∃ w v u, G.con x = some w ∧ mg x = some u ∧ RelV v u ∧ ∀ ι H, WR Z ι H w v
theorem e_con {X : Cx} {Wx : Wish} {pos : Pos} {x : Str} (c : ConOk X.mg Z G x) (h : gloB X.env x = true := by kernel_rfl) : PE X (.Name x pos) (TEx Z Wx G C C1 (.glb x)) := by
  obtain ⟨w, v, u, h1, h2, h3, h4⟩ := c.ex
  exact e_glb h1 h2 h3 h4 h
def blkB (N : List Str) (sc scope : Scope) (own : List (Str × Nat)) : Bool :=
  decide (scope.kind = .function) && (scope.names.all fun y => decide (scope.names.lookup y.1 = some y.2)) && (own.all fun p => decide (N[p.2]? = some p.1)) &&
  (scope.names.all fun y => !decide (y.2 = .free) || decide (sc.names.lookup y.1 = some .cell) || decide (sc.names.lookup y.1 = some .free)) &&
  (scope.names.all fun y => !(decide (y.2 = .local) || decide (y.2 = .cell)) || decide (y.1 ∈ own.map (·.1)) || decide (y.1 ∉ N))
theorem blk_ok {N : List Str} {sc scope : Scope} {own : List (Str × Nat)} (h : blkB N sc scope own = true) : BlkOk N sc scope own := by
  unfold blkB at h
  simp only [Bool.and_eq_true, List.all_eq_true, decide_eq_true_eq, Bool.or_eq_true, Bool.not_eq_true', decide_eq_false_iff_not, Bool.or_eq_false_iff] at h
  obtain ⟨⟨⟨⟨h1, h2⟩, h3⟩, h4⟩, h5⟩ := h
  refine ⟨h1, h2, h3, fun y hy e => ?_, fun y hy e => ?_⟩
  · rcases h4 y hy with (z | z) | z
    · exact absurd e z
    · exact .inl z
    · exact .inr z
  · rcases h5 y hy with (z | z) | z
    · rcases e with e | e
      · exact absurd e z.1
      · exact absurd e z.2
    · exact .inl z
    · exact .inr z
/-! ### the law -/
theorem pss_lock {X : Cx} {st : List Stmt} {t : TS} (h : PSs X st t) : PSs X st (tLock t) := by
  refine ⟨fun pins s σ H D I hw => ?_⟩
  obtain ⟨d, u, hd, mu, hw⟩ := hw
  obtain ⟨od, I1⟩ := I.lock hd mu
  refine thn (h.run pins s σ _ _ I1 (hw od)) fun f s1 q => ?_
  cases f with
  | next => obtain ⟨σ', H', I2, e, q⟩ := q; exact ⟨σ', _, I2.unlock e (I.nofrz hd mu), q⟩
  | brk => obtain ⟨σ', H', I2, e, q⟩ := q; exact ⟨σ', _, I2.unlock e (I.nofrz hd mu), q⟩
  | cont => obtain ⟨σ', H', I2, e, q⟩ := q; exact ⟨σ', _, I2.unlock e (I.nofrz hd mu), q⟩
  | ret v => obtain ⟨x, σ', H', I2, r, e, q⟩ := q; exact ⟨x, σ', _, I2.unlock e (I.nofrz hd mu), r, q⟩
/-- the law's promise -/
def spL (Z : Zt) (F : List Wv → Mem → Out Wv) : Sp := fun vs H Q E => ∃ a, vs = [.ref a] ∧ SqL Z.K H a (Z.S.map V.int) ∧ LamX.Tabs Z.T H ∧ (∃ M, F [.scr] [] = .ok (.bl true) M) ∧ ∀ H', Q (.bl true) H'
theorem law_start {H : Hp} {a : Addr} (t : LamX.Tabs Z.T H) (h : ScR Z.K H a (Z.S.map V.int)) : RM Z [] [] H ∧ WsR Z [] H [.scr] [.ref a] :=
  ⟨⟨rfl, List.nodup_nil, fun l o a h _ => by simp at h, t⟩, .cons (.scr h) .nil⟩
theorem fn_law {x qual : Str} {params : Arguments} {body : List Stmt} {scope : Scope} {dvs : List V} {kws : List (Str × V)} {f : Addr} {fd : FuncData} {N ps : List Str} {d : Df} {Fc : List Wv → Mem → Out Wv} (F : FunD K x qual params body scope dvs kws f fd) (S : FnScope N ps scope)
    (hZ : Z.P = P ∧ Z.w = w ∧ Z.K = K) (hS : Z.S = G.S) (hslots : d.slots = N.length) (hn : d.npar = ps.length) (hps : ps.length = 1) (hF : ∀ ws M, Fc ws M = runD G C C1 fu d ws M)
    (hbody : ∀ (cdv : Value) (A : Around) (outer : List Env) (s : Shared) (H : Hp) (E : XK), Room k (A.deeper (envOfC qual scope s.heap.objs.size f cdv)) → Bx (cxOf (L2.CX P w) P w K mg base N qual scope f cdv A outer s H E) Z (wxE Z E) G →
      PassesOwn (model P w) (A.deeper (envOfC qual scope s.heap.objs.size f cdv)) (envOfC qual scope s.heap.objs.size f cdv) (cxOf (L2.CX P w) P w K mg base N qual scope f cdv A outer s H E).xe → PSs (cxOf (L2.CX P w) P w K mg base N qual scope f cdv A outer s H E) body (TSl Z (wxE Z E) G C C1 fu d.body)) :
    FnOk P w K mg base (L2.CX P w) (k + 1) f fd ps (spL Z Fc) := by
  refine F.ok S (fun vs H Q E h => ?_) fun cdv A outer s H vs Q E hr h => ?_
  · obtain ⟨a, rfl, _⟩ := h
    rw [hps]
    rfl
  · obtain ⟨a, rfl, hq, ht, ⟨M', hrun⟩, hQ⟩ := h
    have B := hbody cdv A outer s H E hr (bx_of hZ hS S hr) (passes_of (X := cxOf (L2.CX P w) P w K mg base N qual scope f cdv A outer s H E) rfl)
    rw [hF] at hrun
    unfold runD at hrun
    obtain ⟨hnp, hrun⟩ := Out.chk_okE hrun
    obtain ⟨q, M1, e1, e2⟩ := Out.bind_okE hrun
    rw [hslots] at e1
    have key : ∀ (H' : Hp) (D : Ends), LamX.Tabs Z.T H' → ScR Z.K H' a (Z.S.map V.int) → (∀ H2 ι2, Ext [] ι2 H' H2 → D.rt (.bl true) H2) → TSl Z (wxE Z E) G C C1 fu d.body D (L2.start N [.ref a]) H' := fun H' D t' sc hD => by
      obtain ⟨R, wr⟩ := law_start t' sc
      refine ⟨[], _, [], start_rel wr, R, ?_⟩
      rw [e1]
      obtain ⟨fl, sw⟩ := q
      intro σ2 H2 ι2 x2 R2 s2
      cases fl with
      | nx => cases e2
      | brk => cases e2
      | ct => cases e2
      | ret w =>
        cases e2
        intro v hv
        cases hv
        exact hD H2 ι2 x2
    rcases hq with (hq | ⟨o, hq⟩) | hq
    · refine ⟨_, pss_lock B, a, .lst (Z.S.map V.int), hq, trivial, fun od => key _ _ ?_ (.inl ⟨od, upd_same⟩) fun H2 ι2 x2 => ⟨?_, hQ _⟩⟩
      · intro p hp
        obtain ⟨ps', g1, g2, g3⟩ := ht p hp
        have ne : p.1 ≠ a := fun z => by rw [z, hq] at g1; cases g1
        refine ⟨ps', by rw [upd_ne ne]; exact g1, g2, fun pos cv hc => ?_⟩
        obtain ⟨c, k1, k2⟩ := g3 pos cv hc
        have nc : c ≠ a := fun z => by rw [z, hq] at k2; cases k2
        exact ⟨c, k1, by rw [upd_ne nc]; exact k2⟩
      · exact x2.frm a _ upd_same (fun ps z => by cases z) (.inl (by simp))
    · exact ⟨_, B, key H _ ht (.inl ⟨o, hq⟩) fun H2 _ _ => hQ H2⟩
    · exact ⟨_, B, key H _ ht (.inr fun H' => .inr hq) fun H2 _ _ => hQ H2⟩
end
end MP
end
section
set_option Elab.async false
set_option linter.all false
set_option maxRecDepth 100000
/-! MP20: defs that stand and keep their promise; the law's end. -/
namespace MP
open PySem PySem.Spec PyProof.Rows L2
section
variable {P : Program} {w : World} {K : PySem.W.Frag} {mg : Str → Option Value} {base : Heap} {Z : Zt} {G : Pg} {C C1 : Nat → List Wv → Mem → Out Wv} {fu k n : Nat} {A : Around}
variable {x qual : Str} {params : Arguments} {body : List Stmt} {scope : Scope} {dvs : List V} {kws : List (Str × V)} {f : Addr} {fd : FuncData} {ps : List Str} {F : List Wv → Mem → Out Wv} {dws : List Wv}
/-- the def stands, and keeps its promise -/
def FnAt (P : Program) (w : World) (K : PySem.W.Frag) (mg : Str → Option Value) (base : Heap) (Z : Zt) (d : He.DefD) (ps : List Str) (n : Nat) (F : List Wv → Mem → Out Wv) : Prop :=
  ∃ fd, FunD K d.name d.qual d.params d.body d.scope (d.dvs K) (d.kws K) (He.fAd K d.at_) fd ∧ FnOk P w K mg base (L2.CX P w) n (He.fAd K d.at_) fd ps (spI Z F)
/-- values fill up what is not written -/
def Fills (K : PySem.W.Frag) (Z : Zt) (fd : FuncData) (ps : List Str) (dws : List Wv) : Prop := ∃ ds dvs, Binds K fd ps ds ∧ Vals dvs ds ∧ ∀ ι H, WsR Z ι H dws dvs
theorem fill_n (F : FunD K x qual params body scope [] kws f fd)
    (h : ∀ (kV doc pm : Value) (an : Option Addr) (cdv ct : Value) (us : List Value), us.length = ps.length → bindArgs (PySem.W.fnOf x qual params body scope .none kV doc pm an cdv ct) ⟨us, []⟩ = pure (ps.zip us)) : Fills K Z fd ps [] :=
  ⟨[], [], F.bindsN h, .nil, fun _ _ => .nil⟩
theorem fill_1 (F : FunD K x qual params body scope dvs kws f fd) (n j : Nat) (hd : dvs ≠ []) (hn : n + (dvs.length - j) = ps.length)
    (h : ∀ (T : Addr) (kV doc pm : Value) (an : Option Addr) (cdv ct : Value) (us its : List Value), us.length = n → its.length = dvs.length →
      ∃ k, bindArgs (PySem.W.fnOf x qual params body scope (.ref T) kV doc pm an cdv ct) ⟨us, []⟩ = seqItems? (.ref T) >>= k ∧ k (some its.toArray) = pure (ps.zip (us ++ its.drop j))) (hw : ∀ ι H, WsR Z ι H dws (dvs.drop j)) : Fills K Z fd ps dws := by
  obtain ⟨ds, h1, h2⟩ := F.binds1 n j hd hn h
  exact ⟨ds, _, h2, h1, hw⟩
theorem fill_0 (F : FunD K x qual params body scope [] kws f fd) (n : Nat) (hk : kws ≠ []) (hn : n + kws.length = ps.length)
    (h : ∀ (D : Addr) (doc pm : Value) (an : Option Addr) (cdv ct : Value) (us ks : List Value), us.length = n → ks.length = kws.length →
      KwChain D ((kws.map (·.1)).zip ks) (bindArgs (PySem.W.fnOf x qual params body scope .none (.ref D) doc pm an cdv ct) ⟨us, []⟩) (ps.zip (us ++ ks))) (hw : ∀ ι H, WsR Z ι H dws (kws.map (·.2))) : Fills K Z fd ps dws := by
  obtain ⟨ds, h1, h2⟩ := F.binds0 n hk hn h
  exact ⟨ds, _, h2, h1, hw⟩
/-- all positional ones and one keyword-only one are written -/
theorem kb1 (F : FunD K x qual params body scope [] kws f fd) (m : Nat) (y : Str)
    (h : ∀ (kV doc pm : Value) (an : Option Addr) (cdv ct : Value) (us : List Value) (u : Value), us.length = m → bindArgs (PySem.W.fnOf x qual params body scope .none kV doc pm an cdv ct) ⟨us, [(y, u)]⟩ = pure (ps.zip (us ++ [u]))) :
    ∀ (s : Shared) (us : List Value) (u : Value), K.In s.heap → us.length = m → BindsTo s fd ⟨us, [(y, u)]⟩ (ps.zip (us ++ [u])) := by
  obtain ⟨oc, od, dV, kV, doc, pm, an, cdv, ct, osl, rfl, lk, hcd, hD, hK⟩ := F.ex
  rcases hD with ⟨_, rfl⟩ | ⟨e, _⟩
  · exact fun s us u _ hl => .of_eq (h kV doc pm an cdv ct us u hl)
  · exact absurd rfl e
theorem FnAt.cal {d : He.DefD} (v : FnAt P w K mg base Z d ps n F) (hr : Room n A) (hb : ∀ fd, FunD K d.name d.qual d.params d.body d.scope (d.dvs K) (d.kws K) (He.fAd K d.at_) fd → Fills K Z fd ps dws) : Cal P w K mg base A Z F (He.fAd K d.at_) dws := by
  obtain ⟨fd, F, h⟩ := v
  obtain ⟨ds, dvs, b1, b2, b3⟩ := hb fd F
  exact ⟨n, fd, ps, ds, dvs, h, hr, b1, b2, b3⟩
theorem FnAt.calG {d : He.DefD} {x : Str} (v : FnAt P w K mg base Z d ps n F) (hx : mg x = some (.ref (He.fAd K d.at_))) (hr : Room n A) (hb : ∀ fd, FunD K d.name d.qual d.params d.body d.scope (d.dvs K) (d.kws K) (He.fAd K d.at_) fd → Fills K Z fd ps dws) : CalG P w K mg base A Z F x dws := by
  have v2 := v
  obtain ⟨fd, F', _⟩ := v2
  exact ⟨_, hx, F'.kp, FnAt.cal v hr hb⟩
theorem FnAt.calK {d : He.DefD} {x y : Str} {m : Nat} (v : FnAt P w K mg base Z d ps n F) (hx : mg x = some (.ref (He.fAd K d.at_))) (hr : Room n A) (hm : ps.length = m + 1) (hb : ∀ fd, FunD K d.name d.qual d.params d.body d.scope (d.dvs K) (d.kws K) (He.fAd K d.at_) fd → ∀ (s : Shared) (us : List Value) (u : Value), K.In s.heap → us.length = m → BindsTo s fd ⟨us, [(y, u)]⟩ (ps.zip (us ++ [u]))) : CalK P w K mg base A Z F x m y := by
  obtain ⟨fd, F', h⟩ := v
  exact ⟨_, n, fd, ps, hx, F'.kp, h, hr, hm, hb fd F'⟩
theorem FnAt.mak {d : He.DefD} {x : Str} {c : Nat} {kk : Cl} (v : FnAt P w K mg base Z d ps n (C1 kk.init)) (hc : G.cls c = some kk) (hx : mg x = some (.ref (Z.cls c))) (hk : Mk K (Z.cls c) (He.fAd K d.at_)) (hr : Room (n + 1) A) (hb : ∀ fd, FunD K d.name d.qual d.params d.body d.scope (d.dvs K) (d.kws K) (He.fAd K d.at_) fd → Binds K fd ps []) : MakOk P w K mg base A Z G C1 x c := by
  obtain ⟨fd, F', h⟩ := v
  exact ⟨kk, _, n, fd, ps, hc, hx, hk, h, hr, hb fd F'⟩
theorem con_int {x : Str} {i : Int} (hc : G.con x = some (.int i)) (hm : ∃ t, mg x = some (.int i t)) : ConOk mg Z G x := by
  obtain ⟨t, hm⟩ := hm
  exact ⟨_, .int i, _, hc, hm, ⟨t, rfl⟩, fun _ _ => .int i⟩
theorem con_str {x z : Str} (hc : G.con x = some (.str z)) (hm : ∃ t, mg x = some (.str z t)) : ConOk mg Z G x := by
  obtain ⟨t, hm⟩ := hm
  exact ⟨_, .str z, _, hc, hm, ⟨t, rfl⟩, fun _ _ => .str z⟩
theorem exOk_of {x : Str} (h : mg x = some (.ref (He.ga K x))) (c : (He.Fa.exc x).ok K = true) : ExOk K mg x (He.ga K x) := by
  obtain ⟨h1, h2, h3, h4⟩ := He.exc_ok c
  exact ⟨h, h1, h2, h3, h4⟩
theorem _root_.L2.Room.rd4 {k : Nat} {A : Around} (r : Room k A) : A.depth + 4 < recursionLimit := by have := r.dp; omega
/-- the law's def is not let out of -/
theorem no_cx {H : Hp} {s : Shared} {e : Value} {s' : Shared} (h : L2.CX P w [] H s (fun _ _ _ => False) e s') : False := by
  obtain ⟨a, B, H', cls, d, _, _, _, _, _, _, _, h⟩ := h
  exact h
/-- the end of a law: what LawAtS asks -/
theorem law_at {l : PySem.W.OpenLaw} {mg : Str → Option Value} {fa : List He.Fa} {fn : List He.DefD} {tf : List He.Defn} {ex : PySem.W.Frag → Bool} {h : Heap} {fa' : Addr} {kk n : Nat} {Fc : List Int → List Wv → Mem → Out Wv} {Zs : List Int → Zt} (KX : K.In h) (c : He.SaysX fa fn [] tf ex w h K) (hm : ∀ S : List Int, S.length ≤ n → (∀ z ∈ S, Builtin.Int.intBits z ≤ 1048576) → ∃ M, Fc S [.scr] [] = .ok (.bl true) M) (hZ : ∀ S, (Zs S).S = S ∧ (Zs S).K = K ∧ ∀ p ∈ (Zs S).T, p.1 ∈ tf.map fun q => (He.cT K q).2)
    (hb : ∀ (s : Shared) (v : Value), BindsTo s fd ⟨[v], []⟩ [("script", v)])
    (hF : ∀ base : Heap, K.In base → base.Ns mainGlobals mg → (∀ p ∈ tf.map (He.cT K), LamX.TabB base mg p.1 p.2) → ∀ S : List Int, FnOk l.prog w K mg base (L2.CX l.prog w) kk fa' fd ["script"] (spL (Zs S) (Fc S))) :
    LamX.LawAtS l w K (L2.CX l.prog w) kk n "script" mg fa' h := by
  have cs : ∀ p ∈ tf.map (He.cT K), ∃ q ∈ tf, p = He.cT K q := fun p hp => by
    obtain ⟨q, h1, h2⟩ := List.mem_map.mp hp
    exact ⟨q, h1, h2.symm⟩
  refine ⟨fd, tf.map (He.cT K), fun vs H Q E => ∃ S, spL (Zs S) (Fc S) vs H Q E, fun p hp => ?_, fun p hp => ?_, fun p hp => ?_, hb, fun H a ns hl hbits hT hS => ?_, fun base KB GB TB => ⟨fun vs H Q E ⟨S, q⟩ => (hF base KB GB TB S).len vs H Q E q, fun A outer s H args us vs Q E hr e0 bb rv ⟨S, q⟩ => (hF base KB GB TB S).run A outer s H args us vs Q E hr e0 bb rv q⟩⟩
  · obtain ⟨q, h1, rfl⟩ := cs p hp
    exact c.empty q h1
  · obtain ⟨q, h1, rfl⟩ := cs p hp
    exact c.out q h1
  · obtain ⟨q, h1, rfl⟩ := cs p hp
    exact PySem.W.codeHd_of_K KX (c.hd q h1)
  · obtain ⟨h1, h2, h3⟩ := hZ ns
    refine ⟨ns, a, rfl, by rw [h1, h2]; exact hS, fun p hp => ?_, hm ns hl hbits, fun H' => rfl⟩
    obtain ⟨q, g1, g2⟩ := List.mem_map.mp (h3 p hp)
    have z := hT (He.cT K q) (List.mem_map.mpr ⟨q, g1, rfl⟩)
    rw [g2] at z
    exact LamX.TabS.nil z
end
end MP
end
section
set_option Elab.async false
set_option linter.all false
set_option maxRecDepth 100000
/-! MP21: a dict display of two pairs; sorted(d.values(), key=lambda x: ..). -/
namespace MP
open PySem PySem.Spec PyProof.Rows L2
/-- a view of a dict's values -/
def vwO (p d : Addr) : HO := .ext fun h => h.get? p = some { cls := .type "dict_values", data := .fields #[.ref d] }
section
variable {X : Cx} {Z : Zt} {Wx : Wish} {G : Pg} {C C1 : Nat → List Wv → Mem → Out Wv} {a b c e : Expr} {ea : Ex} {pos p p2 p3 kpos apos mpos : Pos}
variable {pins : List (Addr × Obj)} {σ : L2.St} {H H1 : Hp} {s : Shared} {ι ι1 : List Addr} {M : Mem} {sw : Sw}
def tVw (Z : Zt) (Wx : Wish) (G : Pg) (C C1 : Nat → List Wv → Mem → Out Wv) (ea : Ex) : TE := fun σ H Q => TEx Z Wx G C C1 ea σ H fun v H1 => ∃ d, v = .ref d ∧ (∃ z o es ep, H1 d = some (lkO z d o) ∧ o.ExactDict ∧ o.data = .dict es ep ∧ (d == sysModules) = false) ∧ ∀ p, H1 p = none → Q (.ref p) (upd H1 p (vwO p d))
theorem pe_vals (ha : PE X a (TEx Z Wx G C C1 ea)) (hbase : attributeBase a "values" X.env (eval a X.env) = eval a X.env := by rfl) (hline : (apos.endLine == mpos.line) = true := by rfl) : PE X (.Call (.Attribute a "values" apos) [] [] mpos) (tVw Z Wx G C C1 ea) := by
  refine ⟨fun pins s σ H Q I h => ?_⟩
  refine wpAny_Call_method (T := "dict") (id := "dict.values") hbase rfl hline F.plainAttrs_dict F.slot_dict_values F.type_dict_values (thn (ha.run pins s σ H _ I h) fun u s1 ⟨x, H1, I1, rx, d, ex, ⟨z, o, es, ep, g1, g2, g3, g4⟩, q⟩ => ?_)
  subst ex
  cases rx
  have hg := MP.Inv.dctO I1 g1
  have hm : s1.heap.DictRaw d es ep := ⟨o, hg, g2, g3⟩
  refine ⟨hm.typeIs, fun b q => by cases q; exact ⟨o, hg, g2.2.1⟩, ?_⟩
  have eg : (s1.heap.push { cls := .type "dict_values", data := .fields #[.ref d] }).get? s1.heap.objs.size = some { cls := .type "dict_values", data := .fields #[.ref d] } := Heap.get?_push_size _ rfl
  have fin : EP X pins σ Q (.ref s1.heap.objs.size) { s1 with heap := s1.heap.push { cls := .type "dict_values", data := .fields #[.ref d] } } :=
    ⟨.ref s1.heap.objs.size, _, I1.laid (a := s1.heap.objs.size) (o := vwO s1.heap.objs.size d) (t' := s1.toks) (fun _ _ q => Heap.get?_push_of_some _ q) (Nat.le_refl _) ⟨eg, ⟨_, eg⟩, fun h1 h2 q k => k _ q⟩, rfl, q _ (I1.hok.fresh (Nat.le_refl _))⟩
  show wpAny _ _ (callWith mpos (.builtin "dict.values") [.ref d] [] []) _ X.xe s1
  exact method_meetsIn F.slot_dict_values F.entry_dict_values rfl (PySem.evalArgs_none ⟨rfl, hm.typeIs, F.args_dict_values_1 _, _, meets_dict_values_raw d g4, ⟨es, ep, hm⟩, fin⟩)
theorem valsOf_at {w : Wv} {v : V} {r : List Wv} (wr : WR Z ι H w v) (e : valsOf w M = some r) : ∃ l a z kvs, w = .ref l ∧ v = .ref a ∧ ι[l]? = some a ∧ M[l]? = some (.dct z kvs) ∧ r = kvs.map (·.2) := by
  cases wr with
  | ref hl =>
    rename_i l a
    simp only [valsOf] at e
    split at e
    · rename_i z kvs hM
      cases e
      exact ⟨l, a, _, _, rfl, rfl, hl, hM, rfl⟩
    · cases e
  | _ => cases e
theorem e_sortv (k : Bx X Z Wx G) (lm : LmOk X Z) (hroom : X.A.depth + 4 < recursionLimit) {ke : Ke} {x : Str} {params : Arguments} {body : Expr} {scope : Scope} {lpos : Pos} (hm : X.mg "sorted" = none) (ha : PE X a (TEx Z Wx G C C1 ea)) (kb : KB x scope body ke)
    (hbase : attributeBase a "values" X.env (eval a X.env) = eval a X.env := by rfl) (hline : (apos.endLine == mpos.line) = true := by rfl)
    (hdef : defaultsOf params X.env = ([], []) := by rfl) (hfree : scope.names.all (fun y => !decide (y.2 = .free) && !decide (y.2 = .cell)) = true := by kernel_rfl) (hco : scope.isCoroutine = false := by rfl) (hgen : scope.isGenerator = false := by rfl) (hkind : scope.kind = .function := by rfl) (hx : scope.names.lookup x = some .local := by rfl)
    (hbind : ∀ q pm c' ctv u, bindArgs (PySem.W.kla_fn "<lambda>" q params body scope [] pm (.ref c') ctv) ⟨[u], []⟩ = pure [(x, u)] := by intros; rfl)
    (hg : gloB X.env "sorted" = true := by kernel_rfl) (hs : starEach [Expr.Call (.Attribute a "values" apos) [] [] mpos] X.env = (false, eval (Expr.Call (.Attribute a "values" apos) [] [] mpos) X.env) :: starEach [] X.env := by rfl)
    (he : backTo pos (starEach [Expr.Call (.Attribute a "values" apos) [] [] mpos] X.env) = (false, eval (Expr.Call (.Attribute a "values" apos) [] [] mpos) X.env) :: backTo pos (starEach [] X.env) := by rfl) (hpl : (backTo pos (starEach [Expr.Call (.Attribute a "values" apos) [] [] mpos] X.env)).any (·.1) = false := by rfl)
    (hall : (backToKw pos (keywordEach [⟨some "key", .Lambda params body scope lpos, kpos⟩] X.env)).all (·.1.isSome) = true := by rfl) (hnone : (backToKw pos (keywordEach [⟨some "key", .Lambda params body scope lpos, kpos⟩] X.env)).any (·.1.isNone) = false := by rfl)
    (hks : (backToKw pos (keywordEach [⟨some "key", .Lambda params body scope lpos, kpos⟩] X.env)).filterMap (·.1) = [Str.ofString "key"] := by rfl) :
    PE X (.Call (.Name "sorted" p) [.Call (.Attribute a "values" apos) [] [] mpos] [⟨some "key", .Lambda params body scope lpos, kpos⟩] pos) (TEx Z Wx G C C1 (.sortv ea ke)) := by
  obtain ⟨h1, h2, h3⟩ := gloB_ok hg
  obtain ⟨c, P, TB, hcode, hmT, huT⟩ := lm.ex
  refine ⟨fun pins s σ H Q I ⟨ι, sw, M, sr, R, h⟩ => ?_⟩
  simp only [evE] at h
  refine wpAny_Call_Name_kw (ld_blt I h1 hm (by rfl) ?_ h3 h2)
  refine PyProof.Rows.callWith_kw (thn ((pa_cons (pe_vals ha hbase hline) pa_nil hs).run pos pins s σ H (fun vs H1 => ∃ (p d : Addr) (H0 : Hp) (ι1 : List Addr) (M1 : Mem) (l : Nat) (z : Bool) (kvs : List (Wv × Wv)), vs = [V.ref p] ∧ H1 = upd H0 p (vwO p d) ∧ H0 p = none ∧ RM Z ι1 M1 H0 ∧ ι1[l]? = some d ∧ M1[l]? = some (.dct z kvs) ∧ rOut Z ι1 H0 (newL ((mapO (keyOf G ke M1) (kvs.map (·.2))).bind fun ds => sortBy ds (kvs.map (·.2))) M1) Q) I
    (tE.seqE sr R h fun w M1 v H1 ι1 e1 R1 q1 s1 h1 => by
      have h1' := (prim_newL _ _).out h1
      obtain ⟨out, e, hz, _⟩ := newL_ok h1'
      obtain ⟨zs, ez, e⟩ := Option.bind_eq_some_iff.mp e
      obtain ⟨l, d, z, kvs, rfl, rfl, hl, hM, rfl⟩ := valsOf_at q1 ez
      obtain ⟨o, es, ep, g1, g2, g3, g4, _⟩ := R1.ob l _ d hM hl
      refine ⟨d, rfl, ⟨z, o, es, ep, g1, g2, g3, g4⟩, fun p hp => ?_⟩
      rw [ez] at h1'
      exact ⟨p, d, H1, ι1, M1, l, z, kvs, rfl, rfl, hp, R1, hl, hM, h1'⟩)) fun us s1 ⟨vs, H1, I1, r1, p, d, H0, ι1, M1, l, z, kvs, ev, eH, hp, R1, hl, hM, h4⟩ => ?_) he hpl hall hnone
  subst ev eH
  obtain ⟨u, rfl, ru⟩ := vals1 r1
  show wpAny _ _ (evalAll [do let v ← eval (.Lambda params body scope lpos) X.env; standAt pos; pure v]) _ _ s1
  have nofree : ∀ y ∈ scope.names, y.2 ≠ .free ∧ y.2 ≠ .cell := fun y hy => by
    rw [List.all_eq_true] at hfree
    have := hfree y hy
    rw [Bool.and_eq_true] at this
    exact ⟨by simpa using this.1, by simpa using this.2⟩
  have clo : cloFrom X.env.cells scope.names [] = [] := by
    have go : ∀ (l : List (Str × NameKind)), (∀ y ∈ l, y.2 ≠ .free) → cloFrom X.env.cells l [] = [] := by
      intro l
      induction l with
      | nil => intro _; rfl
      | cons y ys ih =>
        intro hy
        obtain ⟨n, kd⟩ := y
        have h0 := hy (n, kd) List.mem_cons_self
        have := ih fun z hz => hy z (List.mem_cons_of_mem _ hz)
        cases kd <;> first | exact absurd rfl h0 | exact this
    exact go _ fun y hy => (nofree y hy).1
  have up : ∀ b o, H0 b = some o → upd H0 p (vwO p d) b = some o := fun b o q => by
    rw [upd_ne (fun z => by rw [z, hp] at q; cases q)]
    exact q
  have tb : LamX.Tabs Z.T (upd H0 p (vwO p d)) := fun q hq => (R1.tab q hq).ext up
  refine wpAny_evalAll_cons (wpAny_bind (LamX.lam_make2 I1 TB hcode hmT huT tb hdef (fun y hy e => absurd e (nofree y hy).1) fun f c' pm ctv H2 s2 I2 x2 t2 of hfn hfr hc => wpAny_bind (wpAny_standAt (wpAny_pure (wpAny_evalAll_nil ?_)))))
  rw [clo] at of
  rw [hks]
  show wpAny _ _ (call (.builtin "sorted") [u] [(Str.ofString "key", .ref f)]) _ _ s2
  obtain ⟨x3, R3⟩ := rm_lam R1 ((LamX.ExtN.of up).trans x2) t2
  obtain ⟨out, e, hz, h5⟩ := newL_ok h4
  obtain ⟨ds, e2, e3⟩ := Option.bind_eq_some_iff.mp e
  cases ru
  have hv : s2.heap.get? p = some { cls := .type "dict_values", data := .fields #[.ref d] } := (I2.hok p _ (x2 p _ upd_same (fun ps z => by cases z))).1
  obtain ⟨es', ep, d1, d2, d3, d4⟩ := DctR.raw I2 (R3.ob _ _ _ hM hl)
  refine PyProof.Rows.call_function_entry_kw kind_sorted plain_sorted entry_sorted (PyProof.Rows.ksk_s1 _ _) ?_
  unfold Builtin.«sorted»
  refine wpAny_bind (m := checkCount "sorted" 1 1 _) (wpAny_pure ?_)
  refine wpAny_bind (PySem.W.kdu_collect (A := X.A.in1) (KdlSrc.rawValues (r := p)) (I2.ok.hd k.calm) ⟨⟨_, hv, rfl, rfl⟩, d1⟩ d3 fun h' tk acc hk hacc => ?_)
  obtain ⟨vs, v1, v2⟩ := vals_items d4 hacc
  have hll : acc.toList.length ≤ sizeLine := by rw [Array.length_toList, hacc.1]; exact d3
  refine wpAny_bind (wpAny_newList ?_ hll)
  have I0 : L2.Inv X pins σ H2 { s2 with heap := h', toks := tk } := I2.kept (t' := tk) hk
  obtain ⟨bs, b1, b2, b3, b4⟩ := mapO_each k I0 R3 v1 v2 e2
  obtain ⟨a1, a2, a3, a4⟩ := sortBy_tri (bs := bs) (out := out) (by rw [b1, b2]; exact e3)
  have hlen : bs.length = acc.toList.length := by rw [← b4.length]
  obtain ⟨⟨oc, vs', tt, hoc, hdc, hvc⟩, _, _⟩ := I2.hok c' _ hc
  have lim : s2.heap.NoLimit := I2.nolimit
  have ho : (h'.push { cls := .type "list", data := .seq acc.toList.toArray }).get? h'.objs.size = some (seqObj "list" acc.toList.toArray 0) := Heap.get?_push_size _ rfl
  have kp0 : ∀ (g : Heap), PySem.W.KeepsBut h'.objs.size (h'.push { cls := .type "list", data := .seq acc.toList.toArray }) g → ∀ b o, h'.get? b = some o → g.get? b = some o := fun g kp b o q => kp b o (Nat.ne_of_lt (Heap.lt_size q)) (Heap.get?_push_of_some _ q)
  refine wpAny_bind (wpAny_holding (PySem.W.list_sort_key_data (s := { s2 with heap := h'.push { cls := .type "list", data := .seq acc.toList.toArray }, toks := tk }) (A := X.A.in1) (fun b : Tri => b.1) ho b4 (alikeAll_of a1) (sortable_of a2) (by rw [hlen]; exact hll) (fun b hb => by
      have := depth_cap k.toXOk a3 b hb
      show X.A.units + 1 + 1 + _ < _
      omega) (PyProof.Rows.ksk_l1 _ _) (PyProof.Rows.ksk_t1 f _)
    (fun v b hR hb h tk2 kp => ?_) fun o cc h2 tk2 kp hat hol eo => ?_))
  · obtain ⟨hrel, D, hD, kd⟩ := hR
    have kk : ∀ b o, s2.heap.get? b = some o → h.get? b = some o := fun b o q => kp0 h kp b o (hk b o q)
    exact lam_turn (s := { s2 with heap := h, toks := tk2 }) (by show X.A.depth < recursionLimit; omega) (kk _ _ of) ⟨c', oc, vs', tt, rfl, kk _ _ hoc, hdc, hvc⟩ (lim.keeps kk) hco hgen hkind (fun y hy => (nofree y hy).2) hx (hbind _ _ _ _ _) kb (PyProof.Rows.Reads.keeps (kp0 h kp) hD) kd
  · have eo2 : W.EachIs (fun u (b : Tri) => RelV b.2.2 u) o (bs.mergeSort (W.dataLe false fun b : Tri => b.1)) := eo.mono fun u b hh => hh.1
    have ww : WsR Z ι1 H2 out ((bs.mergeSort (W.dataLe false fun b : Tri => b.1)).map (·.2.2)) := by
      rw [a4]
      exact ws_sorted fun b hb => b3 b ((List.mergeSort_perm _ _).mem_iff.mp hb)
    have h6 : rOut Z ι1 H2 (.ok (.ref M1.length) (M1 ++ [.lst out])) Q := fun v H' ι' y R4 q4 => h5 v H' ι' (x3.trans y) R4 q4
    refine wpAny_pure ⟨_, rfl, .ref _, _, I0.laid (t' := tk2) (a := h'.objs.size) (fun b ob q => kp0 h2 kp b ob q) (Nat.le_refl _) (show ObjOk X.prog X.w _ _ _ (.lst ((bs.mergeSort (W.dataLe false fun b : Tri => b.1)).map (·.2.2))) from ⟨by rw [← ww.length]; exact hz, o, cc, each_vals eo2, hat⟩), rfl, h6.lst R3 ww (I0.hok.fresh (Nat.le_refl _))⟩
theorem e_dict2 (k : Bx X Z Wx G) {k1 k2 : Str} {v1 v2 : Int} {j1 j2 j3 j4 : Nat} {q1 q2 q3 q4 : Pos} :
    PE X (.Dict [some (.Constant (.str k1) j1 q1), some (.Constant (.str k2) j2 q2)] [.Constant (.int v1) j3 q3, .Constant (.int v2) j4 q4] pos) (TEx Z Wx G C C1 (.dict2 k1 v1 k2 v2)) := by
  refine ⟨fun pins s σ H Q I ⟨ι, sw, M, sr, R, h⟩ => ?_⟩
  simp only [evE] at h
  have h := (show Prim (Out.chk (decide (k1 ≠ k2)) (.ok (.ref M.length) (M ++ [.dct false [(.str k1, .int v1), (.str k2, .int v2)]]))) from Prim.ok.chk).out h
  obtain ⟨c, h⟩ := rOut.chk h
  have hne : k1 ≠ k2 := of_decide_eq_true c
  refine wpAny_Dict_pairs (knd := mixKind X.prog X.w) (pairs := [(eval (.Constant (.str k1) j1 q1) X.env, do let x ← eval (.Constant (.int v1) j3 q3) X.env; standAt pos; pure x), (eval (.Constant (.str k2) j2 q2) X.env, do let x ← eval (.Constant (.int v2) j4 q4) X.env; standAt pos; pure x)]) rfl (by simp) (by simp) ?_
  refine evalPairs_cons (wpAny_Constant_str (wpAny_bind (wpAny_Constant_int (wpAny_bind (wpAny_standAt (wpAny_pure ?_))))))
  refine evalPairs_cons (wpAny_Constant_str (wpAny_bind (wpAny_Constant_int (wpAny_bind (wpAny_standAt (wpAny_pure ?_))))))
  have hp : H s.heap.objs.size = none := I.hok.fresh (Nat.le_refl _)
  refine evalPairs_nil ⟨[(.inr k1, .int v1 (s.toks + 1)), (.inr k2, .int v2 (s.toks + 1 + 1 + 1))], ⟨kV_is (k := .inr k1) ⟨_, rfl⟩, rfl, kV_is (k := .inr k2) ⟨_, rfl⟩, rfl, trivial⟩, ⟨_, #[], 0, Heap.get?_push_size _ rfl, ⟨rfl, rfl, rfl⟩, rfl, fun e he => by simp at he, .nil, List.nodup_nil⟩, fun h' hd hs => ?_⟩
  obtain ⟨o', es', ep', e1, e2, e3, e4, e5, e6⟩ := hd
  refine ⟨.ref s.heap.objs.size, _, I.laid (a := s.heap.objs.size) (o := DctO s.heap.objs.size o') (fun b u q => hs.extBut b u (Nat.ne_of_lt (Heap.lt_size q)) (Heap.get?_push_of_some _ q)) (Nat.le_refl _) (DctR.ok_new e1), rfl, ?_⟩
  have ex := Ext.alloc (ho := DctO s.heap.objs.size o') ι hp
  refine h (.ref s.heap.objs.size) _ (ι ++ [s.heap.objs.size]) ex (R.alloc hp ?_) (.ref (snoc_ix R _))
  have hn2 : ¬ (Wv.str k1 = Wv.str k2) := fun z => hne (Wv.str.inj z)
  have ep : dput (dput [] (.str k1) (.int v1)) (.str k2) (.int v2) = [(.str k1, .int v1), (.str k2, .int v2)] := by
    simp only [dput, if_neg hn2]
  refine ⟨o', es', ep', upd_same, e2, e3, beq_eq_false_iff_ne.mpr (Ne.symm (Nat.ne_of_lt I.big)), by show 2 ≤ sizeLine; decide, ?_, .inl rfl, ?_⟩
  · simp [hne]
  · refine pairs_back (P := X.prog) k.w.symm (fun e he => e4 e (Array.mem_toList_iff.mp he)) e5 ?_
    rw [← ep]
    exact PvR.put (k := .str k2) (v := .int v2) (x := .int v2) rfl (by simp [dput]) (PvR.put (k := .str k1) (v := .int v1) (x := .int v1) rfl List.nodup_nil .nil ⟨_, rfl⟩ (.int _)) ⟨_, rfl⟩ (.int _)
end
end MP
end
section
set_option Elab.async false
set_option linter.all false
set_option maxRecDepth 100000
/-! MQ1: how ends of the small Python are shown: sat, and the rules of its loops. -/
namespace MP
open PySem
/-- it ends well, in what Q says -/
def Out.sat {α : Type} (x : Out α) (Q : α → Mem → Prop) : Prop := match x with
  | .ok a M => Q a M
  | _ => False
section
variable {α β : Type} {Q R : α → Mem → Prop}
theorem sat_ok (a : α) (M : Mem) : (Out.ok a M).sat Q ↔ Q a M := Iff.rfl
theorem sat_bind (x : Out α) (f : α → Mem → Out β) (Q : β → Mem → Prop) : (x.bind f).sat Q ↔ x.sat fun a M => (f a M).sat Q := by
  cases x <;> exact Iff.rfl
theorem sat_some (a : α) (M : Mem) : (Out.ofO (some a) M).sat Q ↔ Q a M := Iff.rfl
theorem sat_chk (b : Bool) (x : Out α) : (Out.chk b x).sat Q ↔ b = true ∧ x.sat Q := by
  cases b
  · exact ⟨fun h => h.elim, fun h => by cases h.1⟩
  · exact ⟨fun h => ⟨rfl, h⟩, fun h => h.2⟩
theorem sat_mono {x : Out α} (h : x.sat Q) (m : ∀ a M, Q a M → R a M) : x.sat R := by
  cases x with
  | ok a M => exact m a M h
  | exc _ _ => exact h
  | bad => exact h
theorem sat_ex {x : Out α} (h : x.sat Q) : ∃ a M, x = .ok a M ∧ Q a M := by
  cases x with
  | ok a M => exact ⟨a, M, rfl, h⟩
  | exc _ _ => exact h.elim
  | bad => exact h.elim
theorem sat_of {x : Out α} {a : α} {M : Mem} (e : x = .ok a M) (h : Q a M) : x.sat Q := by rw [e]; exact h
theorem sat_ite (c : Prop) [Decidable c] (x y : Out α) : (if c then x else y).sat Q ↔ if c then x.sat Q else y.sat Q := by
  split <;> exact Iff.rfl
theorem sat_noExc (x : Out α) : x.noExc.sat Q ↔ x.sat Q := by cases x <;> exact Iff.rfl
theorem sat_unlk (ps : List (Nat × Ob)) (x : Out α) : (x.unlk ps).sat Q ↔ x.sat fun a M => Q a (unlkM ps M) := by cases x <;> exact Iff.rfl
theorem sat_ofO (o : Option α) (M : Mem) : (Out.ofO o M).sat Q ↔ ∃ a, o = some a ∧ Q a M := by
  cases o with
  | none => exact ⟨fun h => h.elim, fun ⟨_, h, _⟩ => by cases h⟩
  | some a => exact ⟨fun h => ⟨a, rfl, h⟩, fun ⟨_, h, q⟩ => by cases h; exact q⟩
end
/-! ### lookups -/
theorem get_some {i : Nat} {σ : Sw} {w : Wv} (h : σ[i]? = some (some w)) : getV i σ = some w := by unfold getV; rw [h]
@[simp] theorem getV_0 (w : Wv) (σ : Sw) : getV 0 (some w :: σ) = some w := rfl
@[simp] theorem getV_s (i : Nat) (a : Option Wv) (σ : Sw) : getV (i + 1) (a :: σ) = getV i σ := rfl
/-! ### memory that grows -/
theorem pre_get {M M' : Mem} (h : M <+: M') {l : Nat} {o : Ob} (e : M[l]? = some o) : M'[l]? = some o := by
  obtain ⟨L, rfl⟩ := h
  rw [List.getElem?_append_left (List.getElem?_eq_some_iff.mp e).1]
  exact e
theorem pre_set {M M' : Mem} (h : M <+: M') {l : Nat} {o : Ob} (hl : M.length ≤ l) : M <+: M'.set l o := by
  obtain ⟨L, rfl⟩ := h
  rw [List.set_append_right _ _ hl]
  exact ⟨_, rfl⟩
theorem pre_snoc {M M' : Mem} (h : M <+: M') (o : Ob) : M <+: M' ++ [o] := h.trans (List.prefix_append _ _)
theorem pre_len {M M' : Mem} (h : M <+: M') : M.length ≤ M'.length := h.length_le
theorem at_new (M : Mem) (o : Ob) : (M ++ [o])[M.length]? = some o := by simp
/-! ### loops -/
variable {G : Pg}
theorem whl_rule {t : Sw → Mem → Out Wv} {b : Sw → Mem → Out (Fl × Sw)} {Q : Fl × Sw → Mem → Prop} (I : Nat → Sw → Mem → Prop)
    (step : ∀ m σ M, I m σ M → (t σ M).sat fun x M1 => ∃ c, truW G x M1 = some c ∧ (c = true → (b σ M1).sat fun r M2 => match r.1 with
      | .nx => ∃ m', m' < m ∧ I m' r.2 M2
      | .ct => ∃ m', m' < m ∧ I m' r.2 M2
      | .brk => Q (.nx, r.2) M2
      | .ret w => Q (.ret w, r.2) M2) ∧ (c = false → Q (.nx, σ) M1)) :
    ∀ (n m : Nat) (σ : Sw) (M : Mem), I m σ M → m < n → (whlGo G t b n σ M).sat Q
  | 0, m, _, _, _, h => absurd h (Nat.not_lt_zero m)
  | n + 1, m, σ, M, hI, h => by
    unfold whlGo
    rw [sat_bind]
    refine sat_mono (step m σ M hI) fun x M1 ⟨c, hc, h1, h2⟩ => ?_
    rw [hc]
    show Out.sat (if c = true then _ else _) Q
    cases c with
    | false => exact h2 rfl
    | true =>
      rw [if_pos rfl, sat_bind]
      refine sat_mono (h1 rfl) fun r M2 hr => ?_
      obtain ⟨fl, σ2⟩ := r
      cases fl with
      | nx => obtain ⟨m', hm, hI'⟩ := hr; exact whl_rule I step n m' _ _ hI' (by omega)
      | ct => obtain ⟨m', hm, hI'⟩ := hr; exact whl_rule I step n m' _ _ hI' (by omega)
      | brk => exact hr
      | ret w => exact hr
theorem for_rule {t : Tg} {b : Sw → Mem → Out (Fl × Sw)} {ps : List (Nat × Ob)} {Q : Fl × Sw → Mem → Prop} (I : List Wv → List Wv → Sw → Mem → Prop)
    (step : ∀ pre x post σ M, I pre (x :: post) σ M → stays ps M = true ∧ ∃ τ, tgW t x σ = some τ ∧ (b τ M).sat fun r M2 => match r.1 with
      | .nx => I (pre ++ [x]) post r.2 M2
      | .ct => I (pre ++ [x]) post r.2 M2
      | .brk => Q (.nx, r.2) M2
      | .ret w => Q (.ret w, r.2) M2)
    (stop : ∀ pre σ M, I pre [] σ M → stays ps M = true ∧ Q (.nx, σ) M) :
    ∀ (xs pre : List Wv) (σ : Sw) (M : Mem), I pre xs σ M → (forGo t b ps xs σ M).sat Q
  | [], pre, σ, M, h => by
    unfold forGo
    rw [sat_chk]
    exact stop pre σ M h
  | x :: xs, pre, σ, M, h => by
    unfold forGo
    rw [sat_chk]
    obtain ⟨h1, τ, h2, h3⟩ := step pre x xs σ M h
    refine ⟨h1, ?_⟩
    rw [h2]
    show Out.sat (Out.bind (b τ M) _) Q
    rw [sat_bind]
    refine sat_mono h3 fun r M2 hr => ?_
    obtain ⟨fl, σ2⟩ := r
    cases fl with
    | nx => exact for_rule I step stop xs _ _ _ hr
    | ct => exact for_rule I step stop xs _ _ _ hr
    | brk => exact hr
    | ret w => exact hr
theorem lc_rule {t : Tg} {c e : Sw → Mem → Out Wv} {ps : List (Nat × Ob)} {σ : Sw} {Q : List Wv → Mem → Prop} (I : List Wv → List Wv → List Wv → Mem → Prop)
    (step : ∀ pre x post acc M, I pre (x :: post) acc M → stays ps M = true ∧ ∃ τ, tgW t x σ = some τ ∧ (c τ M).sat fun b M1 => ∃ q, truW G b M1 = some q ∧
      (q = true → (e τ M1).sat fun y M2 => lenOk (acc.length + 1) = true ∧ I (pre ++ [x]) post (acc ++ [y]) M2) ∧ (q = false → I (pre ++ [x]) post acc M1))
    (stop : ∀ pre acc M, I pre [] acc M → stays ps M = true ∧ Q acc M) :
    ∀ (xs pre acc : List Wv) (M : Mem), I pre xs acc M → (lcGo G t c e ps xs σ acc M).sat Q
  | [], pre, acc, M, h => by
    unfold lcGo
    rw [sat_chk]
    exact stop pre acc M h
  | x :: xs, pre, acc, M, h => by
    unfold lcGo
    rw [sat_chk]
    obtain ⟨h1, τ, h2, h3⟩ := step pre x xs acc M h
    refine ⟨h1, ?_⟩
    rw [h2]
    show Out.sat (Out.bind (c τ M) _) Q
    rw [sat_bind]
    refine sat_mono h3 fun b M1 ⟨q, hq, g1, g2⟩ => ?_
    rw [hq]
    show Out.sat (if q = true then _ else _) Q
    cases q with
    | false => exact lc_rule I step stop xs _ _ _ (g2 rfl)
    | true =>
      rw [if_pos rfl, sat_bind]
      refine sat_mono (g1 rfl) fun y M2 ⟨hl, hI⟩ => ?_
      rw [sat_chk]
      exact ⟨hl, lc_rule I step stop xs _ _ _ hI⟩
/-- a comprehension that leaves the memory as it is -/
theorem lc_pure {t : Tg} {c e : Sw → Mem → Out Wv} {ps : List (Nat × Ob)} {σ : Sw} {M : Mem} {xs : List Wv} (p : Wv → Bool) (f : Wv → Wv) (hs : stays ps M = true) (hl : xs.length ≤ sizeLine)
    (h : ∀ x ∈ xs, ∃ τ, tgW t x σ = some τ ∧ (∃ b, c τ M = .ok b M ∧ truW G b M = some (p x)) ∧ (p x = true → e τ M = .ok (f x) M)) :
    lcGo G t c e ps xs σ [] M = .ok ((xs.filter p).map f) M := by
  have key : ∀ (xs acc : List Wv), acc.length + xs.length ≤ sizeLine → (∀ x ∈ xs, ∃ τ, tgW t x σ = some τ ∧ (∃ b, c τ M = .ok b M ∧ truW G b M = some (p x)) ∧ (p x = true → e τ M = .ok (f x) M)) →
      lcGo G t c e ps xs σ acc M = .ok (acc ++ (xs.filter p).map f) M := by
    intro xs
    induction xs with
    | nil =>
      intro acc _ _
      unfold lcGo
      rw [hs]
      simp [Out.chk]
    | cons x xs ih =>
      intro acc hl h
      obtain ⟨τ, h1, ⟨b, h2, h3⟩, h4⟩ := h x (List.mem_cons_self ..)
      unfold lcGo
      rw [hs, h1]
      simp only [Out.chk, h2, Out.bind_ok, h3, Out.ofO]
      simp only [List.length_cons] at hl
      cases hp : p x with
      | false =>
        simp only [Bool.false_eq_true, if_false]
        rw [ih acc (by omega) fun y hy => h y (List.mem_cons_of_mem _ hy)]
        simp [List.filter_cons, hp]
      | true =>
        simp only [if_true, h4 hp, Out.bind_ok]
        have : lenOk (acc.length + 1) = true := decide_eq_true (by omega)
        rw [this]
        simp only []
        rw [ih (acc ++ [f x]) (by simp; omega) fun y hy => h y (List.mem_cons_of_mem _ hy)]
        simp [List.filter_cons, hp]
  have := key xs [] (by simpa using hl) h
  simpa using this
theorem dc_pure {t : Tg} {c k v : Sw → Mem → Out Wv} {ps : List (Nat × Ob)} {σ : Sw} {M : Mem} {xs : List Wv} (f g : Wv → Wv) (hs : stays ps M = true)
    (h : ∀ x ∈ xs, ∃ τ, tgW t x σ = some τ ∧ (∃ b, c τ M = .ok b M ∧ truW G b M = some true) ∧ k τ M = .ok (f x) M ∧ v τ M = .ok (g x) M) :
    ∀ acc, (∀ pre post x, xs = pre ++ x :: post → keyOk (dputs acc (pre.map fun y => (f y, g y))) (f x) = true ∧ lenOk ((dputs acc (pre.map fun y => (f y, g y))).length + 1) = true) →
    dcGo G t c k v ps xs σ acc M = .ok (dputs acc (xs.map fun y => (f y, g y))) M := by
  induction xs with
  | nil =>
    intro acc _
    unfold dcGo
    rw [hs]
    rfl
  | cons x xs ih =>
    intro acc hk
    obtain ⟨τ, h1, ⟨b, h2, h3⟩, h4, h5⟩ := h x (List.mem_cons_self ..)
    unfold dcGo
    rw [hs, h1]
    simp only [Out.chk, h2, Out.bind_ok, h3, Out.ofO, if_true, h4, h5]
    obtain ⟨k1, k2⟩ := hk [] xs x rfl
    simp only [List.map_nil, dputs] at k1 k2
    rw [k1, k2]
    simp only [Bool.and_self, List.map_cons, dputs]
    refine ih (fun y hy => h y (List.mem_cons_of_mem _ hy)) _ fun pre post y e => ?_
    have := hk (x :: pre) post y (by rw [e]; rfl)
    simpa [dputs] using this
end MP
end
section
set_option Elab.async false
set_option linter.all false
set_option maxRecDepth 100000
/-! MQ2: how the small Python's code is stepped through: one rule a construct. -/
namespace MP
open PySem
section
variable (G : Pg) (C C1 : Nat → List Wv → Mem → Out Wv) (fu : Nat)
/-- what comes behind a statement -/
def kont (r : Sl) (Q : Fl × Sw → Mem → Prop) (q : Fl × Sw) (M : Mem) : Prop := match q.1 with
  | .nx => (evSl G C C1 fu r q.2 M).sat Q
  | f => Q (f, q.2) M
/-- branches, not looked into as long as the test is not known -/
def brS (k : Bool) (a b : Sl) (σ : Sw) (M : Mem) (Q : Fl × Sw → Mem → Prop) : Prop := if k = true then (evSl G C C1 fu a σ M).sat Q else (evSl G C C1 fu b σ M).sat Q
def brE (k : Bool) (a b : Ex) (σ : Sw) (M : Mem) (Q : Wv → Mem → Prop) : Prop := if k = true then (evE G C C1 a σ M).sat Q else (evE G C C1 b σ M).sat Q
def brA (k : Bool) (b : Ex) (σ : Sw) (M : Mem) (x : Wv) (Q : Wv → Mem → Prop) : Prop := if k = true then (evE G C C1 b σ M).sat Q else Q x M
def brO (k : Bool) (b : Ex) (σ : Sw) (M : Mem) (x : Wv) (Q : Wv → Mem → Prop) : Prop := if k = true then Q x M else (evE G C C1 b σ M).sat Q
def brC (k : Bool) (d : Cm) (e : Ex) (y : Wv) (σ : Sw) (M : Mem) (Q : Wv → Mem → Prop) : Prop := if k = true then (evE G C C1 e σ M).sat fun z M => (cmpW G d y z M).sat Q else Q (.bl false) M
/-- a test's answer -/
def tru (x : Wv) (M : Mem) (Q : Bool → Prop) : Prop := ∃ k, truW G x M = some k ∧ Q k
variable {σ : Sw} {M : Mem} {Q : Wv → Mem → Prop} {QS : Fl × Sw → Mem → Prop} {QL : List Wv → Mem → Prop} {QI : List Wv × List (Nat × Ob) → Mem → Prop}
/-! ### statements -/
theorem q_nil : (evSl G C C1 fu .nil σ M).sat QS ↔ QS (.nx, σ) M := by simp only [evSl]; exact Iff.rfl
theorem q_cons (s : St) (r : Sl) : (evSl G C C1 fu (.cons s r) σ M).sat QS ↔ (evS G C C1 fu s σ M).sat (kont G C C1 fu r QS) := by
  simp only [evSl, sat_bind]
  cases evS G C C1 fu s σ M with
  | ok q M1 =>
    obtain ⟨f, σ2⟩ := q
    cases f <;> exact Iff.rfl
  | exc _ _ => exact Iff.rfl
  | bad => exact Iff.rfl
theorem k_nx (r : Sl) : kont G C C1 fu r QS (.nx, σ) M ↔ (evSl G C C1 fu r σ M).sat QS := Iff.rfl
theorem k_ret (r : Sl) (w : Wv) : kont G C C1 fu r QS (.ret w, σ) M ↔ QS (.ret w, σ) M := Iff.rfl
theorem k_brk (r : Sl) : kont G C C1 fu r QS (.brk, σ) M ↔ QS (.brk, σ) M := Iff.rfl
theorem k_ct (r : Sl) : kont G C C1 fu r QS (.ct, σ) M ↔ QS (.ct, σ) M := Iff.rfl
theorem q_asg (t : Tg) (e : Ex) : (evS G C C1 fu (.asg t e) σ M).sat QS ↔ (evE G C C1 e σ M).sat fun x M => (Out.ofO (tgW t x σ) M).sat fun σ M => QS (.nx, σ) M := by
  simp only [evS, sat_bind, sat_ok]
theorem q_asgA (o : Ex) (f : Str) (e : Ex) : (evS G C C1 fu (.asgA o f e) σ M).sat QS ↔ (evE G C C1 e σ M).sat fun x M => (evE G C C1 o σ M).sat fun y M => (setA G y f x M).sat fun _ M => QS (.nx, σ) M := by
  simp only [evS, sat_bind, sat_ok]
theorem q_asgS (o i e : Ex) : (evS G C C1 fu (.asgS o i e) σ M).sat QS ↔ (evE G C C1 e σ M).sat fun x M => (evE G C C1 o σ M).sat fun y M => (evE G C C1 i σ M).sat fun z M => (setW y z x M).sat fun _ M => QS (.nx, σ) M := by
  simp only [evS, sat_bind, sat_ok]
theorem q_aug (i : Nat) (p : Op) (e : Ex) : (evS G C C1 fu (.aug i p e) σ M).sat QS ↔ (Out.ofO (getV i σ) M).sat fun x M => (evE G C C1 e σ M).sat fun y M => (augW p x y M).sat fun z M => QS (.nx, σ.set i (some z)) M := by
  simp only [evS, sat_bind, sat_ok]
theorem q_ex (e : Ex) : (evS G C C1 fu (.ex e) σ M).sat QS ↔ (evE G C C1 e σ M).sat fun _ M => QS (.nx, σ) M := by
  simp only [evS, sat_bind, sat_ok]
theorem q_ret (e : Ex) : (evS G C C1 fu (.ret e) σ M).sat QS ↔ (evE G C C1 e σ M).sat fun x M => QS (.ret x, σ) M := by
  simp only [evS, sat_bind, sat_ok]
theorem q_retN : (evS G C C1 fu .retN σ M).sat QS ↔ QS (.ret .non, σ) M := by
  simp only [evS, sat_ok]
theorem q_pass : (evS G C C1 fu .pass σ M).sat QS ↔ QS (.nx, σ) M := by
  simp only [evS, sat_ok]
theorem q_brk : (evS G C C1 fu .brk σ M).sat QS ↔ QS (.brk, σ) M := by
  simp only [evS, sat_ok]
theorem q_cont : (evS G C C1 fu .cont σ M).sat QS ↔ QS (.ct, σ) M := by
  simp only [evS, sat_ok]
theorem q_ifs (t : Ex) (a b : Sl) : (evS G C C1 fu (.ifs t a b) σ M).sat QS ↔ (evE G C C1 t σ M).sat fun x M => tru G x M fun k => brS G C C1 fu k a b σ M QS := by
  simp only [evS, sat_bind, sat_ofO, tru, brS, sat_ite]
theorem q_for (t : Tg) (it : It) (b : Sl) : (evS G C C1 fu (.for_ t it b) σ M).sat QS ↔ (evI G C C1 it σ M).sat fun r M => (forGo t (evSl G C C1 fu b) r.2 r.1 σ (lockM r.2 M)).sat fun q M => QS q (unlkM r.2 M) := by
  simp only [evS, sat_bind, sat_unlk]
theorem q_whl (t : Ex) (b : Sl) : (evS G C C1 fu (.whl t b) σ M).sat QS ↔ (whlGo G (evE G C C1 t) (evSl G C C1 fu b) fu σ M).sat QS := by
  simp only [evS]
theorem b_t (a b : Sl) : brS G C C1 fu true a b σ M QS ↔ (evSl G C C1 fu a σ M).sat QS := by simp only [brS, if_true]
theorem b_f (a b : Sl) : brS G C C1 fu false a b σ M QS ↔ (evSl G C C1 fu b σ M).sat QS := by simp only [brS, Bool.false_eq_true, if_false]
theorem be_t (a b : Ex) : brE G C C1 true a b σ M Q ↔ (evE G C C1 a σ M).sat Q := by simp only [brE, if_true]
theorem be_f (a b : Ex) : brE G C C1 false a b σ M Q ↔ (evE G C C1 b σ M).sat Q := by simp only [brE, Bool.false_eq_true, if_false]
theorem ba_t (b : Ex) (x : Wv) : brA G C C1 true b σ M x Q ↔ (evE G C C1 b σ M).sat Q := by simp only [brA, if_true]
theorem ba_f (b : Ex) (x : Wv) : brA G C C1 false b σ M x Q ↔ Q x M := by simp only [brA, Bool.false_eq_true, if_false]
theorem bo_t (b : Ex) (x : Wv) : brO G C C1 true b σ M x Q ↔ Q x M := by simp only [brO, if_true]
theorem bo_f (b : Ex) (x : Wv) : brO G C C1 false b σ M x Q ↔ (evE G C C1 b σ M).sat Q := by simp only [brO, Bool.false_eq_true, if_false]
theorem bc_t (d : Cm) (e : Ex) (y : Wv) : brC G C C1 true d e y σ M Q ↔ (evE G C C1 e σ M).sat fun z M => (cmpW G d y z M).sat Q := by simp only [brC, if_true]
theorem bc_f (d : Cm) (e : Ex) (y : Wv) : brC G C C1 false d e y σ M Q ↔ Q (.bl false) M := by simp only [brC, Bool.false_eq_true, if_false]
theorem t_bl (b : Bool) (Q : Bool → Prop) : tru G (.bl b) M Q ↔ Q b := ⟨fun ⟨k, h, q⟩ => by cases h; exact q, fun q => ⟨b, rfl, q⟩⟩
theorem t_int (i : Int) (Q : Bool → Prop) : tru G (.int i) M Q ↔ Q (i != 0) := ⟨fun ⟨k, h, q⟩ => by cases h; exact q, fun q => ⟨_, rfl, q⟩⟩
theorem t_non (Q : Bool → Prop) : tru G .non M Q ↔ Q false := ⟨fun ⟨k, h, q⟩ => by cases h; exact q, fun q => ⟨_, rfl, q⟩⟩
/-! ### expressions -/
theorem no_no : Ex.isNo .no = true := rfl
theorem q_var (i : Nat) : (evE G C C1 (.var i) σ M).sat Q ↔ (Out.ofO (getV i σ) M).sat Q := by simp only [evE]
theorem q_con (w : Wv) : (evE G C C1 (.con w) σ M).sat Q ↔ Q w M := by simp only [evE, sat_ok]
theorem q_glb (x : Str) : (evE G C C1 (.glb x) σ M).sat Q ↔ (Out.ofO (G.con x) M).sat Q := by simp only [evE]
theorem q_tup (es : El) : (evE G C C1 (.tup es) σ M).sat Q ↔ (evL G C C1 es σ M).sat fun ws M => lenOk ws.length = true ∧ Q (.tup ws) M := by simp only [evE, sat_bind, sat_chk, sat_ok]
theorem q_lst (es : El) : (evE G C C1 (.lst es) σ M).sat Q ↔ (evL G C C1 es σ M).sat fun ws M => lenOk ws.length = true ∧ Q (.ref M.length) (M ++ [.lst ws]) := by simp only [evE, sat_bind, sat_chk, sat_ok]
theorem q_dict0 : (evE G C C1 .dict0 σ M).sat Q ↔ Q (.ref M.length) (M ++ [.dct false []]) := by simp only [evE, sat_ok]
theorem q_bin (o : Op) (a b : Ex) : (evE G C C1 (.bin o a b) σ M).sat Q ↔ (evE G C C1 a σ M).sat fun x M => (evE G C C1 b σ M).sat fun y M => (binW o x y M).sat Q := by simp only [evE, sat_bind]
theorem q_neg (a : Ex) : (evE G C C1 (.neg a) σ M).sat Q ↔ (evE G C C1 a σ M).sat fun x M => (Out.ofO ((toI x).map fun i => .int (-i)) M).sat Q := by simp only [evE, sat_bind]
theorem q_not (a : Ex) : (evE G C C1 (.not a) σ M).sat Q ↔ (evE G C C1 a σ M).sat fun x M => tru G x M fun b => Q (.bl (!b)) M := by
  simp only [evE, sat_bind, sat_ofO, tru, Option.map_eq_some_iff]
  constructor
  · refine fun h => sat_mono h fun x M h => ?_
    obtain ⟨a, ⟨b, h1, rfl⟩, h2⟩ := h
    exact ⟨b, h1, h2⟩
  · refine fun h => sat_mono h fun x M h => ?_
    obtain ⟨b, h1, h2⟩ := h
    exact ⟨_, ⟨b, h1, rfl⟩, h2⟩
theorem q_and (a b : Ex) : (evE G C C1 (.and a b) σ M).sat Q ↔ (evE G C C1 a σ M).sat fun x M => tru G x M fun c => brA G C C1 c b σ M x Q := by
  simp only [evE, sat_bind, sat_ofO, tru, brA, sat_ite, sat_ok]
theorem q_or (a b : Ex) : (evE G C C1 (.or a b) σ M).sat Q ↔ (evE G C C1 a σ M).sat fun x M => tru G x M fun c => brO G C C1 c b σ M x Q := by
  simp only [evE, sat_bind, sat_ofO, tru, brO, sat_ite, sat_ok]
theorem q_ife (t a b : Ex) : (evE G C C1 (.ife t a b) σ M).sat Q ↔ (evE G C C1 t σ M).sat fun x M => tru G x M fun c => brE G C C1 c a b σ M Q := by
  simp only [evE, sat_bind, sat_ofO, tru, brE, sat_ite]
theorem q_cmp (c : Cm) (a b : Ex) : (evE G C C1 (.cmp c a b) σ M).sat Q ↔ (evE G C C1 a σ M).sat fun x M => (evE G C C1 b σ M).sat fun y M => (cmpW G c x y M).sat Q := by simp only [evE, sat_bind]
theorem q_cmp2 (c d : Cm) (a b e : Ex) : (evE G C C1 (.cmp2 c d a b e) σ M).sat Q ↔ (evE G C C1 a σ M).sat fun x M => (evE G C C1 b σ M).sat fun y M => (cmpW G c x y M).sat fun r M => tru G r M fun k => if k = true then (evE G C C1 e σ M).sat fun z M => (cmpW G d y z M).sat Q else Q r M := by
  simp only [evE, sat_bind, sat_ofO, tru, sat_ite, sat_ok]
theorem q_attr (a : Ex) (f : Str) : (evE G C C1 (.attr a f) σ M).sat Q ↔ (evE G C C1 a σ M).sat fun x M => (attrW G x f M).sat Q := by simp only [evE, sat_bind]
theorem q_sub (a i : Ex) : (evE G C C1 (.sub a i) σ M).sat Q ↔ (evE G C C1 a σ M).sat fun x M => (evE G C C1 i σ M).sat fun y M => (subW G x y M).sat Q := by simp only [evE, sat_bind]
theorem q_slcN (a hi : Ex) (hh : hi.isNo = false) : (evE G C C1 (.slc a .no hi) σ M).sat Q ↔ (evE G C C1 a σ M).sat fun x M => (evE G C C1 hi σ M).sat fun y M => (Out.ofO (toI y) M).sat fun h M => (slcW x none (some h) M).sat Q := by
  simp only [evE, sat_bind, no_no, if_true, sat_ok, hh, Bool.false_eq_true, if_false, sat_ofO, Option.map_eq_some_iff]
  constructor
  · refine fun h => sat_mono h fun x M h => sat_mono h fun y M h => ?_
    obtain ⟨_, ⟨i, h1, rfl⟩, h2⟩ := h
    exact ⟨i, h1, h2⟩
  · refine fun h => sat_mono h fun x M h => sat_mono h fun y M h => ?_
    obtain ⟨i, h1, h2⟩ := h
    exact ⟨_, ⟨i, h1, rfl⟩, h2⟩
theorem q_slc (a lo hi : Ex) (hl : lo.isNo = false) (hh : hi.isNo = false) : (evE G C C1 (.slc a lo hi) σ M).sat Q ↔ (evE G C C1 a σ M).sat fun x M => (evE G C C1 lo σ M).sat fun z M => (Out.ofO (toI z) M).sat fun l M => (evE G C C1 hi σ M).sat fun y M => (Out.ofO (toI y) M).sat fun h M => (slcW x (some l) (some h) M).sat Q := by
  simp only [evE, sat_bind, hl, hh, Bool.false_eq_true, if_false, sat_ofO, Option.map_eq_some_iff]
  constructor
  · refine fun h => sat_mono h fun x M h => sat_mono h fun z M h => ?_
    obtain ⟨_, ⟨i, h1, rfl⟩, h2⟩ := h
    refine ⟨i, h1, sat_mono h2 fun y M h => ?_⟩
    obtain ⟨_, ⟨j, h1, rfl⟩, h2⟩ := h
    exact ⟨j, h1, h2⟩
  · refine fun h => sat_mono h fun x M h => sat_mono h fun z M h => ?_
    obtain ⟨i, h1, h2⟩ := h
    refine ⟨_, ⟨i, h1, rfl⟩, sat_mono h2 fun y M h => ?_⟩
    obtain ⟨j, h1, h2⟩ := h
    exact ⟨_, ⟨j, h1, rfl⟩, h2⟩
theorem q_slcL (a lo : Ex) (hl : lo.isNo = false) : (evE G C C1 (.slc a lo .no) σ M).sat Q ↔ (evE G C C1 a σ M).sat fun x M => (evE G C C1 lo σ M).sat fun z M => (Out.ofO (toI z) M).sat fun l M => (slcW x (some l) none M).sat Q := by
  simp only [evE, sat_bind, no_no, if_true, sat_ok, hl, Bool.false_eq_true, if_false, sat_ofO, Option.map_eq_some_iff]
  constructor
  · refine fun h => sat_mono h fun x M h => sat_mono h fun y M h => ?_
    obtain ⟨_, ⟨i, h1, rfl⟩, h2⟩ := h
    exact ⟨i, h1, h2⟩
  · refine fun h => sat_mono h fun x M h => sat_mono h fun y M h => ?_
    obtain ⟨i, h1, h2⟩ := h
    exact ⟨_, ⟨i, h1, rfl⟩, h2⟩
theorem q_srev (z : Bool) (a : Ex) : (evE G C C1 (.srev z a) σ M).sat Q ↔ (evE G C C1 a σ M).sat fun x M => (revW z x M).sat Q := by simp only [evE, sat_bind]
theorem q_call (f : Nat) (es : El) (ds : List Wv) : (evE G C C1 (.call f es ds) σ M).sat Q ↔ (evL G C C1 es σ M).sat fun ws M => (C f (ws ++ ds) M).sat Q := by simp only [evE, sat_bind]
theorem q_callk (f : Nat) (es : El) (k : Ex) : (evE G C C1 (.callk f es k) σ M).sat Q ↔ (evL G C C1 es σ M).sat fun ws M => (evE G C C1 k σ M).sat fun w M => (C f (ws ++ [w]) M).sat Q := by simp only [evE, sat_bind]
theorem q_meth (m : Str) (a : Ex) (es : El) (ds : List Wv) : (evE G C C1 (.meth m a es ds) σ M).sat Q ↔ (evE G C C1 a σ M).sat fun x M => (Out.ofO (metW G m x M) M).sat fun f M => (evL G C C1 es σ M).sat fun ws M => (C f (x :: (ws ++ ds)) M).sat Q := by simp only [evE, sat_bind]
theorem q_bm (m : Bm) (a : Ex) (es : El) : (evE G C C1 (.bm m a es) σ M).sat Q ↔ (evE G C C1 a σ M).sat fun x M => bmT m x M = true ∧ (evL G C C1 es σ M).sat fun ws M => (bmW m x ws M).sat Q := by simp only [evE, sat_bind, sat_chk]
theorem q_new (c : Nat) (es : El) : (evE G C C1 (.new c es) σ M).sat Q ↔ (evL G C C1 es σ M).sat fun ws M => (newW G C1 c ws M).sat Q := by simp only [evE, sat_bind]
theorem q_bi (b : Bi) (es : El) : (evE G C C1 (.bi b es) σ M).sat Q ↔ (evL G C C1 es σ M).sat fun ws M => (biW G b ws M).sat Q := by simp only [evE, sat_bind]
theorem q_isi (k : Kd) (a : Ex) : (evE G C C1 (.isi k a) σ M).sat Q ↔ (evE G C C1 a σ M).sat fun x M => (Out.ofO ((isiW k x M).map .bl) M).sat Q := by simp only [evE, sat_bind]
theorem q_lc (e : Ex) (t : Tg) (it : It) (c : Ex) : (evE G C C1 (.lc e t it c) σ M).sat Q ↔ (evI G C C1 it σ M).sat fun r M => (lcGo G t (evE G C C1 c) (evE G C C1 e) r.2 r.1 (wipeW σ t.slots) [] (lockM r.2 M)).sat fun ws M => Q (.ref (unlkM r.2 M).length) (unlkM r.2 M ++ [.lst ws]) := by
  simp only [evE, sat_bind, sat_unlk, sat_noExc, sat_ok]
theorem q_dc (k v : Ex) (t : Tg) (it : It) (c : Ex) : (evE G C C1 (.dc k v t it c) σ M).sat Q ↔ (evI G C C1 it σ M).sat fun r M => (dcGo G t (evE G C C1 c) (evE G C C1 k) (evE G C C1 v) r.2 r.1 (wipeW σ t.slots) [] (lockM r.2 M)).sat fun ws M => Q (.ref (unlkM r.2 M).length) (unlkM r.2 M ++ [.dct false ws]) := by
  simp only [evE, sat_bind, sat_unlk, sat_noExc, sat_ok]
theorem q_sortk (a : Ex) (k : Ke) : (evE G C C1 (.sortk a k) σ M).sat Q ↔ (evE G C C1 a σ M).sat fun x M => (newL ((lstOf x M).bind fun ws => (mapO (keyOf G k M) ws).bind fun ds => sortBy ds ws) M).sat Q := by simp only [evE, sat_bind]
theorem q_sortv (a : Ex) (k : Ke) : (evE G C C1 (.sortv a k) σ M).sat Q ↔ (evE G C C1 a σ M).sat fun x M => (newL ((valsOf x M).bind fun ws => (mapO (keyOf G k M) ws).bind fun ds => sortBy ds ws) M).sat Q := by simp only [evE, sat_bind]
theorem q_dict2 (k1 : Str) (v1 : Int) (k2 : Str) (v2 : Int) : (evE G C C1 (.dict2 k1 v1 k2 v2) σ M).sat Q ↔ decide (k1 ≠ k2) = true ∧ Q (.ref M.length) (M ++ [.dct false [(.str k1, .int v1), (.str k2, .int v2)]]) := by simp only [evE, sat_chk, sat_ok]
theorem q_anil : (evL G C C1 .nil σ M).sat QL ↔ QL [] M := by simp only [evL, sat_ok]
theorem q_acons (e : Ex) (es : El) : (evL G C C1 (.cons e es) σ M).sat QL ↔ (evE G C C1 e σ M).sat fun w M => (evL G C C1 es σ M).sat fun ws M => QL (w :: ws) M := by simp only [evL, sat_bind, sat_ok]
theorem q_ival (e : Ex) : (evI G C C1 (.val e) σ M).sat QI ↔ (evE G C C1 e σ M).sat fun x M => (Out.ofO (walkV G x M) M).sat QI := by simp only [evI, sat_bind]
theorem q_items (e : Ex) : (evI G C C1 (.items e) σ M).sat QI ↔ (evE G C C1 e σ M).sat fun x M => (Out.ofO (itmW x M) M).sat fun r M => QI (r.1.map fun p => .tup [p.1, p.2], r.2) M := by simp only [evI, sat_bind, sat_ok]
theorem q_vals (e : Ex) : (evI G C C1 (.vals e) σ M).sat QI ↔ (evE G C C1 e σ M).sat fun x M => (Out.ofO (itmW x M) M).sat fun r M => QI (r.1.map fun p => p.2, r.2) M := by simp only [evI, sat_bind, sat_ok]
theorem q_rng (a b : Ex) : (evI G C C1 (.rng a b) σ M).sat QI ↔ (evE G C C1 a σ M).sat fun x M => (evE G C C1 b σ M).sat fun y M => (Out.ofO (toI x) M).sat fun i M => (Out.ofO (toI y) M).sat fun j M => (rngOk i && rngOk j) = true ∧ QI (rngW i j, []) M := by
  simp only [evI, sat_bind]
  refine ⟨fun h => sat_mono h fun x M h => sat_mono h fun y M h => ?_, fun h => sat_mono h fun x M h => sat_mono h fun y M h => ?_⟩
  · cases ex : toI x with
    | none => rw [ex] at h; exact h.elim
    | some i =>
      cases ey : toI y with
      | none => rw [ex, ey] at h; exact h.elim
      | some j =>
        rw [ex, ey] at h
        rw [sat_chk] at h
        exact h
  · cases ex : toI x with
    | none => rw [ex] at h; exact h.elim
    | some i =>
      cases ey : toI y with
      | none => rw [ex, ey] at h; exact h.elim
      | some j =>
        rw [ex, ey] at h
        simp only [sat_chk]
        exact h
/-! ### operators -/
theorem o_add (i j : Int) : (binW .add (.int i) (.int j) M).sat Q ↔ Q (.int (i + j)) M := Iff.rfl
theorem o_sub (i j : Int) : (binW .sub (.int i) (.int j) M).sat Q ↔ Q (.int (i - j)) M := Iff.rfl
theorem o_mul (i j : Int) : (binW .mul (.int i) (.int j) M).sat Q ↔ mulOk i j = true ∧ Q (.int (i * j)) M := by simp only [binW, sat_chk, sat_ok]
theorem o_fdiv (i j : Int) : (binW .fdiv (.int i) (.int j) M).sat Q ↔ (decide (0 < j) && decide (j < 2 ^ 200)) = true ∧ Q (.int (i / j)) M := by simp only [binW, sat_chk, sat_ok]
theorem o_mod (i j : Int) : (binW .mod (.int i) (.int j) M).sat Q ↔ decide (0 < j) = true ∧ Q (.int (i % j)) M := by simp only [binW, sat_chk, sat_ok]
theorem o_pow18 : (binW .pow (.int 10) (.int 18) M).sat Q ↔ Q (.int 1000000000000000000) M := Iff.rfl
theorem o_addT (a b : List Wv) : (binW .add (.tup a) (.tup b) M).sat Q ↔ lenOk (a.length + b.length) = true ∧ Q (.tup (a ++ b)) M := by simp only [binW, sat_chk, sat_ok]
theorem o_addL (a b : Nat) (xs ys : List Wv) (ha : M[a]? = some (.lst xs)) (hb : M[b]? = some (.lst ys)) (hl : lenOk (xs.length + ys.length) = true) (h : Q (.ref M.length) (M ++ [.lst (xs ++ ys)])) : (binW .add (.ref a) (.ref b) M).sat Q := by
  simp only [binW, ha, hb, sat_chk, sat_ok]
  exact ⟨hl, h⟩
theorem ag_add (i j : Int) : (augW .add (.int i) (.int j) M).sat Q ↔ Q (.int (i + j)) M := Iff.rfl
theorem ag_sub (i j : Int) : (augW .sub (.int i) (.int j) M).sat Q ↔ Q (.int (i - j)) M := Iff.rfl
theorem c_lt (i j : Int) : (cmpW G .lt (.int i) (.int j) M).sat Q ↔ Q (.bl (decide (i < j))) M := Iff.rfl
theorem c_gt (i j : Int) : (cmpW G .gt (.int i) (.int j) M).sat Q ↔ Q (.bl (decide (j < i))) M := Iff.rfl
theorem c_le (i j : Int) : (cmpW G .le (.int i) (.int j) M).sat Q ↔ Q (.bl (decide (i ≤ j))) M := Iff.rfl
theorem c_ge (i j : Int) : (cmpW G .ge (.int i) (.int j) M).sat Q ↔ Q (.bl (decide (j ≤ i))) M := Iff.rfl
theorem c_eq (x y : Wv) : (cmpW G .eq x y M).sat Q ↔ ∃ b, eqW G x y M = some b ∧ Q (.bl b) M := by simp only [cmpW, sat_bind, sat_ofO, sat_ok]
theorem c_ne (x y : Wv) : (cmpW G .ne x y M).sat Q ↔ ∃ b, eqW G x y M = some b ∧ Q (.bl (!b)) M := by
  simp only [cmpW, sat_bind, sat_ofO, sat_ok, notO, Option.map_eq_some_iff]
  exact ⟨fun ⟨_, ⟨b, h, e⟩, q⟩ => ⟨b, h, e ▸ q⟩, fun ⟨b, h, q⟩ => ⟨_, ⟨b, h, rfl⟩, q⟩⟩
theorem c_is (x y : Wv) : (cmpW G .is_ x y M).sat Q ↔ ∃ b, isW x y = some b ∧ Q (.bl b) M := by simp only [cmpW, sat_bind, sat_ofO, sat_ok]
theorem c_isn (x y : Wv) : (cmpW G .isn x y M).sat Q ↔ ∃ b, isW x y = some b ∧ Q (.bl (!b)) M := by
  simp only [cmpW, sat_bind, sat_ofO, sat_ok, notO, Option.map_eq_some_iff]
  exact ⟨fun ⟨_, ⟨b, h, e⟩, q⟩ => ⟨b, h, e ▸ q⟩, fun ⟨b, h, q⟩ => ⟨_, ⟨b, h, rfl⟩, q⟩⟩
theorem c_in (x y : Wv) : (cmpW G .in_ x y M).sat Q ↔ ∃ b, inW G x y M = some b ∧ Q (.bl b) M := by simp only [cmpW, sat_bind, sat_ofO, sat_ok]
theorem c_nin (x y : Wv) : (cmpW G .nin x y M).sat Q ↔ ∃ b, inW G x y M = some b ∧ Q (.bl (!b)) M := by
  simp only [cmpW, sat_bind, sat_ofO, sat_ok, notO, Option.map_eq_some_iff]
  exact ⟨fun ⟨_, ⟨b, h, e⟩, q⟩ => ⟨b, h, e ▸ q⟩, fun ⟨b, h, q⟩ => ⟨_, ⟨b, h, rfl⟩, q⟩⟩
theorem u_tup (ws : List Wv) (j : Int) : (subW G (.tup ws) (.int j) M).sat Q ↔ (Out.ofO (atI ws j) M).sat Q := Iff.rfl
theorem u_scr (j : Int) : (subW G .scr (.int j) M).sat Q ↔ ∃ i, atI G.S j = some i ∧ Q (.int i) M := by
  show (Out.ofO ((atI G.S j).map .int) M).sat Q ↔ _
  simp only [sat_ofO, Option.map_eq_some_iff]
  exact ⟨fun ⟨_, ⟨b, h, e⟩, q⟩ => ⟨b, h, e ▸ q⟩, fun ⟨b, h, q⟩ => ⟨_, ⟨b, h, rfl⟩, q⟩⟩
theorem n_scr : (biW G .len [.scr] M).sat Q ↔ Q (.int G.S.length) M := Iff.rfl
theorem n_tup (ws : List Wv) : (biW G .len [.tup ws] M).sat Q ↔ Q (.int ws.length) M := Iff.rfl
theorem n_str (s : Str) : (biW G .len [.str s] M).sat Q ↔ lenOk s.length = true ∧ Q (.int s.length) M := by simp only [biW, sat_chk, sat_ok]
theorem n_abs (i : Int) : (biW G .abs [.int i] M).sat Q ↔ Q (.int (if i < 0 then -i else i)) M := Iff.rfl
theorem n_min2 (i j : Int) : (biW G .min [.int i, .int j] M).sat Q ↔ Q (.int (if j < i then j else i)) M := Iff.rfl
theorem n_max2 (i j : Int) : (biW G .max [.int i, .int j] M).sat Q ↔ Q (.int (if j > i then j else i)) M := Iff.rfl
theorem intsW_map (ns : List Int) : intsW (ns.map .int) = some ns := by
  unfold intsW
  induction ns with
  | nil => rfl
  | cons n ns ih => simp only [List.map_cons, mapO, ih, toI]
theorem bls_map (ns : List Bool) : bls (ns.map .bl) = some ns := by
  unfold bls
  induction ns with
  | nil => rfl
  | cons n ns ih => simp only [List.map_cons, mapO, ih]
theorem n_sum (l : Nat) (ns : List Int) (h : M[l]? = some (.lst (ns.map .int))) : biW G .sum [.ref l] M = .ok (.int ns.sum) M := by
  simp only [biW, lstOf, h, Option.bind_some, intsW_map, Out.ofO, Out.bind_ok]
theorem n_all (l : Nat) (ns : List Bool) (h : M[l]? = some (.lst (ns.map .bl))) : biW G .all [.ref l] M = .ok (.bl (ns.all id)) M := by
  simp only [biW, lstOf, h, Option.bind_some, bls_map, Out.ofO, Out.bind_ok]
theorem n_lenL (l : Nat) (ws : List Wv) (h : M[l]? = some (.lst ws)) : biW G .len [.ref l] M = .ok (.int ws.length) M := by
  simp only [biW, h]
theorem tg_nm (i : Nat) (w : Wv) : tgW (.nm i) w σ = some (σ.set i (some w)) := rfl
theorem i_int (i : Int) : toI (.int i) = some i := rfl
end
end MP
end
section
set_option Elab.async false
set_option linter.all false
set_option maxRecDepth 100000
/-! MQ3: data: what reads as what, equal things, sorted things. -/
namespace MP
open PySem PySem.W
section
variable {G : Pg} {M : Mem} {S : List Int} {n : Nat}
theorem toDs_map {α : Type} {f : α → Wv} {g : α → PyData} : ∀ {xs : List α}, (∀ x ∈ xs, toD S M n (f x) = some (g x)) → toDs S M n (xs.map f) = some (xs.map g)
  | [], _ => by simp only [List.map_nil, toDs]
  | x :: xs, h => by
    simp only [List.map_cons, toDs]
    rw [h x (List.mem_cons_self ..), toDs_map fun y hy => h y (List.mem_cons_of_mem _ hy)]
theorem mapO_map {α β γ : Type} {f : α → β} {g : β → Option γ} {h : α → γ} : ∀ {xs : List α}, (∀ x ∈ xs, g (f x) = some (h x)) → mapO g (xs.map f) = some (xs.map h)
  | [], _ => rfl
  | x :: xs, e => by
    simp only [List.map_cons, mapO]
    rw [e x (List.mem_cons_self ..), mapO_map fun y hy => e y (List.mem_cons_of_mem _ hy)]
theorem toD_lst {l : Nat} {ws : List Wv} {ds : List PyData} (h : M[l]? = some (.lst ws)) (e : toDs S M n ws = some ds) : toD S M (n + 1) (.ref l) = some (.list ds) := by
  simp only [toD, h, e, Option.map_some]
theorem canLayAll_map {α : Type} {g : α → PyData} : ∀ {xs : List α}, (∀ x ∈ xs, (g x).canLay0 = true) → PyData.canLayAll0 (xs.map g) = true
  | [], _ => by simp only [List.map_nil, PyData.canLayAll0]
  | x :: xs, h => by
    simp only [List.map_cons, PyData.canLayAll0]
    rw [h x (List.mem_cons_self ..), canLayAll_map fun y hy => h y (List.mem_cons_of_mem _ hy)]
    rfl
theorem depthAll_map {α : Type} {g : α → PyData} {d : Nat} : ∀ {xs : List α}, (∀ x ∈ xs, (g x).depth ≤ d) → PyData.depthAll (xs.map g) ≤ d
  | [], _ => by simp only [List.map_nil, PyData.depthAll]; exact Nat.zero_le _
  | x :: xs, h => by
    simp only [List.map_cons, PyData.depthAll]
    exact Nat.max_le.mpr ⟨h x (List.mem_cons_self ..), depthAll_map fun y hy => h y (List.mem_cons_of_mem _ hy)⟩
theorem shaped_lst {α : Type} {g : α → PyData} {d : Nat} {xs : List α} (hd : d < 64) (h : ∀ x ∈ xs, (g x).canLay0 = true ∧ (g x).depth ≤ d) : SeqAt.shaped (.list (xs.map g)) = true := by
  unfold SeqAt.shaped
  rw [Bool.and_eq_true]
  refine ⟨?_, decide_eq_true ?_⟩
  · simp only [PyData.canLay0]
    exact canLayAll_map fun x hx => (h x hx).1
  · simp only [PyData.depth]
    have := depthAll_map (g := g) (d := d) (xs := xs) fun x hx => (h x hx).2
    omega
theorem eqW_same {x y : Wv} {d : PyData} (hx : toD G.S M deepD x = some d) (hy : toD G.S M deepD y = some d) (hs : SeqAt.shaped d = true) : eqW G x y M = some true := by
  unfold eqW
  rw [hx, hy]
  simp only [hs, Bool.and_self, if_true]
  have : d.canLay0 = true := by
    unfold SeqAt.shaped at hs
    rw [Bool.and_eq_true] at hs
    exact hs.1
  rw [SeqAt.eqv_refl d this]
theorem eqW_of {x y : Wv} {d e : PyData} (hx : toD G.S M deepD x = some d) (hy : toD G.S M deepD y = some e) (hs : SeqAt.shaped d = true) (ht : SeqAt.shaped e = true) : eqW G x y M = some (PyData.eqv d e) := by
  unfold eqW
  rw [hx, hy]
  simp only [hs, ht, Bool.and_self, if_true]
/-- a list against the empty one -/
theorem eqW_nil {x : Wv} {l : Nat} {ds : List PyData} (hx : toD G.S M deepD x = some (.list ds)) (hl : M[l]? = some (.lst [])) (hs : SeqAt.shaped (.list ds) = true) : eqW G x (.ref l) M = some ds.isEmpty := by
  rw [eqW_of (e := .list []) hx (toD_lst (n := 11) hl (by simp only [toDs])) hs (by decide)]
  cases ds <;> rfl
theorem eqW_scr {l : Nat} (hl : M[l]? = some (.lst [])) : eqW G .scr (.ref l) M = some G.S.isEmpty := by
  have h1 : toD G.S M deepD .scr = some (.list (G.S.map .int)) := by simp only [deepD, toD]
  rw [eqW_nil h1 hl (shaped_lst (d := 0) (by omega) fun x _ => ⟨rfl, Nat.le_refl _⟩)]
  simp
theorem eqW_int (i j : Int) : eqW G (.int i) (.int j) M = some (decide (i = j)) := by
  have : PyData.eqv (.int i) (.int j) = decide (i = j) := by simp [PyData.eqv]; rfl
  rw [eqW_of (d := .int i) (e := .int j) (by simp only [deepD, toD]) (by simp only [deepD, toD]) rfl rfl, this]
theorem eqW_str {i j : Str} (hi : SeqAt.shaped (.str i) = true) (hj : SeqAt.shaped (.str j) = true) : eqW G (.str i) (.str j) M = some (decide (i = j)) := by
  have : PyData.eqv (.str i) (.str j) = decide (i = j) := by
    simp only [PyData.eqv]
    by_cases h : i = j
    · subst h; simp
    · simp [h]
  rw [eqW_of (d := .str i) (e := .str j) (by simp only [deepD, toD]) (by simp only [deepD, toD]) hi hj, this]
theorem tg_2 {σ : Sw} (i j : Nat) (a b : Wv) : tgW (.tup [i, j]) (.tup [a, b]) σ = some ((σ.set i (some a)).set j (some b)) := rfl
theorem tg_3 {σ : Sw} (i j k : Nat) (a b c : Wv) : tgW (.tup [i, j, k]) (.tup [a, b, c]) σ = some (((σ.set i (some a)).set j (some b)).set k (some c)) := rfl
theorem at_0 {α : Type} (x : α) (xs : List α) : atI (x :: xs) 0 = some x := rfl
theorem at_1 {α : Type} (x y : α) (xs : List α) : atI (x :: y :: xs) 1 = some y := rfl
theorem at_2 {α : Type} (x y z : α) (xs : List α) : atI (x :: y :: z :: xs) 2 = some z := rfl
theorem at_3 {α : Type} (x y z u : α) (xs : List α) : atI (x :: y :: z :: u :: xs) 3 = some u := rfl
theorem at_4 {α : Type} (x y z u v : α) (xs : List α) : atI (x :: y :: z :: u :: v :: xs) 4 = some v := rfl
theorem isi_int (i : Int) : isiW .int (.int i) M = some true := rfl
theorem isi_bool (i : Int) : isiW .bool (.int i) M = some false := rfl
theorem isi_str (s : Str) : isiW .str (.str s) M = some true := rfl
theorem mul_l {i j : Int} (h : i.natAbs < 2 ^ 62) : mulOk i j = true := by unfold mulOk; rw [decide_eq_true h]; rfl
theorem mul_r {i j : Int} (h : j.natAbs < 2 ^ 62) : mulOk i j = true := by unfold mulOk; rw [decide_eq_true h, Bool.or_true]
theorem len_ok {n : Nat} (h : n ≤ sizeLine) : lenOk n = true := decide_eq_true h
theorem at_nat {α : Type} {xs : List α} {i : Nat} {x : α} (h : xs[i]? = some x) : atI xs (i : Int) = some x := by
  unfold atI
  rw [if_pos (by omega)]
  simpa using h
end
end MP
end
section
set_option Elab.async false
set_option linter.all false
set_option maxRecDepth 100000
/-! MQ4: dicts as key lists; locks. -/
namespace MP
open PySem PySem.W
section
variable {G : Pg} {M : Mem}
def addK (g : List Wv) (k : Wv) : List Wv := if k ∈ g then g else g ++ [k]
def sets (g : List Wv) : List (Wv × Wv) := g.map fun x => (x, .bl true)
theorem dput_sets (g : List Wv) (k : Wv) : dput (sets g) k (.bl true) = sets (addK g k) := by
  unfold sets addK
  induction g with
  | nil => rfl
  | cons x g ih =>
    simp only [List.map_cons, dput]
    by_cases h : x = k
    · subst h; simp
    · rw [if_neg h, ih]
      have h2 : ¬ k = x := fun e => h e.symm
      by_cases hm : k ∈ g
      · simp [hm, h2]
      · simp [hm, h2]
theorem dget_sets (g : List Wv) (k : Wv) : (dget (sets g) k).isSome = decide (k ∈ g) := by
  unfold sets
  induction g with
  | nil => rfl
  | cons x g ih =>
    simp only [List.map_cons, dget]
    by_cases h : x = k
    · subst h; simp
    · rw [if_neg h, ih]
      have h2 : ¬ k = x := fun e => h e.symm
      simp [h2]
theorem sets_len (g : List Wv) : (sets g).length = g.length := by unfold sets; simp
theorem sets_keys (g : List Wv) : (sets g).map (·.1) = g := by unfold sets; simp [List.map_map, Function.comp_def]
theorem keyOk_T {kvs : List (Wv × Wv)} {k : Wv} (h : keyT k = true) (hk : ∀ p ∈ kvs, keyT p.1 = true) : keyOk kvs k = true := by
  unfold keyOk
  rw [h, List.all_eq_true.mpr hk]
  simp
theorem keyOk_sets {g : List Wv} {k : Wv} (h : keyT k = true) (hk : ∀ x ∈ g, keyT x = true) : keyOk (sets g) k = true := by
  refine keyOk_T h fun p hp => ?_
  unfold sets at hp
  obtain ⟨x, hx, rfl⟩ := List.mem_map.mp hp
  exact hk x hx
theorem addK_mem {g : List Wv} {k x : Wv} (h : x ∈ addK g k) : x ∈ g ∨ x = k := by
  unfold addK at h
  split at h
  · exact .inl h
  · rcases List.mem_append.mp h with h | h
    · exact .inl h
    · exact .inr (List.mem_singleton.mp h)
theorem addK_len (g : List Wv) (k : Wv) : (addK g k).length ≤ g.length + 1 := by
  unfold addK
  split
  · omega
  · simp
/-- keys put one behind another -/
def keysOf (ws : List Wv) : List Wv := ws.foldl addK []
theorem dputs_sets (g ws : List Wv) : dputs (sets g) (ws.map fun x => (x, .bl true)) = sets (ws.foldl addK g) := by
  induction ws generalizing g with
  | nil => rfl
  | cons x ws ih => simp only [List.map_cons, dputs, List.foldl_cons, dput_sets, ih]
theorem foldl_addK_mem {g ws : List Wv} {x : Wv} (h : x ∈ ws.foldl addK g) : x ∈ g ∨ x ∈ ws := by
  induction ws generalizing g with
  | nil => exact .inl h
  | cons y ws ih =>
    rcases ih h with h | h
    · rcases addK_mem h with h | h
      · exact .inl h
      · exact .inr (h ▸ List.mem_cons_self ..)
    · exact .inr (List.mem_cons_of_mem _ h)
theorem foldl_addK_len (g ws : List Wv) : (ws.foldl addK g).length ≤ g.length + ws.length := by
  induction ws generalizing g with
  | nil => simp
  | cons y ws ih =>
    have := ih (addK g y)
    have := addK_len g y
    simp only [List.foldl_cons, List.length_cons]
    omega
theorem foldl_addK_nodup {g ws : List Wv} (h : (g ++ ws).Nodup) : ws.foldl addK g = g ++ ws := by
  induction ws generalizing g with
  | nil => simp
  | cons y ws ih =>
    have hy : y ∉ g := by
      intro hy
      have := List.nodup_append.mp h
      exact this.2.2 y hy y (List.mem_cons_self ..) rfl
    have e : addK g y = g ++ [y] := by unfold addK; rw [if_neg hy]
    rw [List.foldl_cons, e, ih (by simpa using h)]
    simp
theorem keysOf_nodup {ws : List Wv} (h : ws.Nodup) : keysOf ws = ws := foldl_addK_nodup (g := []) (by simpa using h)
/-! ### locks -/
theorem set_self {α : Type} {M : List α} {l : Nat} {o : α} (h : M[l]? = some o) : M.set l o = M := by
  refine List.ext_getElem? fun i => ?_
  rw [List.getElem?_set]
  split
  · rename_i e
    subst e
    rw [if_pos (List.getElem?_eq_some_iff.mp h).1, h]
  · rfl
theorem unlk_lock {l : Nat} {kvs : List (Wv × Wv)} (h : M[l]? = some (.dct false kvs)) : unlkM [(l, .dct false kvs)] (lockM [(l, .dct false kvs)] M) = M := by
  simp only [unlkM, lockM, List.set_set]
  exact set_self h
/-- a dict is unlocked again: all grew -/
theorem pre_unlk {M M' : Mem} {l : Nat} {kvs : List (Wv × Wv)} (h : M[l]? = some (.dct false kvs)) (hp : M.set l (.dct true kvs) <+: M') : M <+: M'.set l (.dct false kvs) := by
  obtain ⟨L, rfl⟩ := hp
  have hl : l < M.length := (List.getElem?_eq_some_iff.mp h).1
  rw [List.set_append_left _ _ (by simpa using hl), List.set_set, set_self h]
  exact List.prefix_append _ _
end
end MP
namespace MP
open PySem PySem.W
section
variable {G : Pg} {M : Mem}
theorem walk_lst {l : Nat} {ws : List Wv} (h : M[l]? = some (.lst ws)) : walkV G (.ref l) M = some (ws, [(l, .lst ws)]) := by simp only [walkV, h]
theorem walk_dct {l : Nat} {z : Bool} {kvs : List (Wv × Wv)} (h : M[l]? = some (.dct z kvs)) : walkV G (.ref l) M = some (kvs.map (·.1), [(l, .dct z kvs)]) := by simp only [walkV, h]
theorem stays_lst {l : Nat} {ws : List Wv} (h : M[l]? = some (.lst ws)) : stays [(l, .lst ws)] M = true := by
  unfold stays
  simp [h]
theorem stays_dct (l : Nat) (z : Bool) (kvs : List (Wv × Wv)) : stays [(l, .dct z kvs)] M = true := rfl
theorem lock_lst (l : Nat) (ws : List Wv) : lockM [(l, .lst ws)] M = M := rfl
theorem unlk_lst (l : Nat) (ws : List Wv) : unlkM [(l, .lst ws)] M = M := rfl
/-- a comprehension's end -/
theorem lc_done {t : Tg} {c e : Sw → Mem → Out Wv} {ps : List (Nat × Ob)} {xs ws : List Wv} {σ : Sw} {Q : Wv → Mem → Prop} (h : lcGo G t c e ps xs σ [] (lockM ps M) = .ok ws (lockM ps M)) (hu : unlkM ps (lockM ps M) = M) (q : Q (.ref M.length) (M ++ [.lst ws])) :
    (lcGo G t c e ps xs σ [] (lockM ps M)).sat fun ws M => Q (.ref (unlkM ps M).length) (unlkM ps M ++ [.lst ws]) := by
  rw [h]
  show Q (.ref (unlkM ps (lockM ps M)).length) (unlkM ps (lockM ps M) ++ [.lst ws])
  rw [hu]
  exact q
theorem n_listD {l : Nat} {z : Bool} {kvs : List (Wv × Wv)} (h : M[l]? = some (.dct z kvs)) (hl : kvs.length ≤ sizeLine) : biW G .list [.ref l] M = .ok (.ref M.length) (M ++ [.lst (kvs.map (·.1))]) := by
  simp only [biW, itemsOf, h, newL, List.length_map, len_ok hl, Out.chk]
theorem bm_append {l : Nat} {ws : List Wv} {y : Wv} (h : M[l]? = some (.lst ws)) (hl : ws.length + 1 ≤ sizeLine) : bmW .append (.ref l) [y] M = .ok .non (M.set l (.lst (ws ++ [y]))) := by
  simp only [bmW, h, len_ok hl, Out.chk]
theorem bmT_append {l : Nat} {ws : List Wv} (h : M[l]? = some (.lst ws)) : bmT .append (.ref l) M = true := by simp only [bmT, h]
theorem bmT_get {l : Nat} {z : Bool} {kvs : List (Wv × Wv)} (h : M[l]? = some (.dct z kvs)) : bmT .get (.ref l) M = true := by simp only [bmT, h]
theorem bm_get2 {l : Nat} {z : Bool} {kvs : List (Wv × Wv)} {k d : Wv} (h : M[l]? = some (.dct z kvs)) (hk : keyOk kvs k = true) : bmW .get (.ref l) [k, d] M = .ok ((dget kvs k).getD d) M := by
  simp only [bmW, h, hk, Out.chk]
theorem set_dct {l : Nat} {kvs : List (Wv × Wv)} {k v : Wv} (h : M[l]? = some (.dct false kvs)) (hk : keyOk kvs k = true) (hl : kvs.length + 1 ≤ sizeLine) : setW (.ref l) k v M = .ok () (M.set l (.dct false (dput kvs k v))) := by
  simp only [setW, h, hk, len_ok hl, Bool.and_self, Out.chk]
theorem in_dct {l : Nat} {z : Bool} {kvs : List (Wv × Wv)} {k : Wv} (h : M[l]? = some (.dct z kvs)) (hk : keyOk kvs k = true) : inW G k (.ref l) M = some (dget kvs k).isSome := by
  simp only [inW, h, hk, if_true]
theorem rev_lst {l : Nat} {ws : List Wv} (h : M[l]? = some (.lst ws)) : revW true (.ref l) M = .ok (.ref M.length) (M ++ [.lst ws.tail.reverse]) := by
  simp only [revW, h, if_true]
theorem sub_dct {l : Nat} {z : Bool} {kvs : List (Wv × Wv)} {k v : Wv} (h : M[l]? = some (.dct z kvs)) (hk : keyOk kvs k = true) (hv : dget kvs k = some v) : subW G (.ref l) k M = .ok v M := by
  simp only [subW, h, hk, hv, Out.chk, Out.ofO]
theorem sub_lst {l : Nat} {ws : List Wv} {j : Int} {v : Wv} (h : M[l]? = some (.lst ws)) (hv : atI ws j = some v) : subW G (.ref l) (.int j) M = .ok v M := by
  simp only [subW, h, hv, Out.ofO]
end
end MP
namespace MP
open PySem PySem.W
theorem for_step {t : Tg} {b : Sw → Mem → Out (Fl × Sw)} {ps : List (Nat × Ob)} {x : Wv} {xs : List Wv} {σ τ : Sw} {M : Mem} {Q : Fl × Sw → Mem → Prop} (hs : stays ps M = true) (ht : tgW t x σ = some τ)
    (h : (b τ M).sat fun r M2 => r.1 = .nx ∧ (forGo t b ps xs r.2 M2).sat Q) : (forGo t b ps (x :: xs) σ M).sat Q := by
  unfold forGo
  rw [sat_chk]
  refine ⟨hs, ?_⟩
  rw [ht]
  show Out.sat (Out.bind (b τ M) _) Q
  rw [sat_bind]
  refine sat_mono h fun r M2 ⟨h1, h2⟩ => ?_
  obtain ⟨f, σ2⟩ := r
  simp only at h1
  subst h1
  exact h2
theorem for_nil {t : Tg} {b : Sw → Mem → Out (Fl × Sw)} {ps : List (Nat × Ob)} {σ : Sw} {M : Mem} {Q : Fl × Sw → Mem → Prop} (hs : stays ps M = true) (h : Q (.nx, σ) M) : (forGo t b ps [] σ M).sat Q := by
  unfold forGo
  rw [sat_chk]
  exact ⟨hs, h⟩
end MP
end
section
set_option Elab.async false
set_option linter.all false
set_option maxRecDepth 100000
/-! MQ5: pure values: numbers, texts, None, tuples of these; their data. -/
namespace MP
open PySem PySem.W
mutual
def dat : Wv → PyData
  | .non => .none
  | .int i => .int i
  | .str s => .str s
  | .tup ws => .tuple (dats ws)
  | .bl b => .bool b
  | .ref _ => .none
  | .scr => .none
def dats : List Wv → List PyData
  | [] => []
  | w :: ws => dat w :: dats ws
end
mutual
/-- pure, so deep -/
def pur : Nat → Wv → Bool
  | _, .non => true
  | _, .int _ => true
  | _, .str s => PyData.strOk s
  | n + 1, .tup ws => purs n ws
  | 0, .tup _ => false
  | _, .bl _ => false
  | _, .ref _ => false
  | _, .scr => false
def purs : Nat → List Wv → Bool
  | _, [] => true
  | n, w :: ws => pur n w && purs n ws
end
mutual
theorem toD_pur {S : List Int} {M : Mem} : ∀ {n m : Nat} {w : Wv}, pur n w = true → n ≤ m → toD S M m w = some (dat w)
  | _, _, .non, _, _ => by simp only [toD, dat]
  | _, _, .int _, _, _ => by simp only [toD, dat]
  | _, _, .str _, _, _ => by simp only [toD, dat]
  | 0, _, .tup _, h, _ => by simp [pur] at h
  | n + 1, 0, .tup _, _, h => by omega
  | n + 1, m + 1, .tup ws, h, hm => by
    simp only [pur] at h
    simp only [toD, dat, toDs_pur (n := n) (m := m) h (Nat.le_of_succ_le_succ hm), Option.map_some]
  | _, _, .bl _, h, _ => by simp [pur] at h
  | _, _, .ref _, h, _ => by simp [pur] at h
  | _, _, .scr, h, _ => by simp [pur] at h
theorem toDs_pur {S : List Int} {M : Mem} : ∀ {n m : Nat} {ws : List Wv}, purs n ws = true → n ≤ m → toDs S M m ws = some (dats ws)
  | _, _, [], _, _ => by simp only [toDs, dats]
  | n, m, w :: ws, h, hm => by
    simp only [purs, Bool.and_eq_true] at h
    simp only [toDs, dats, toD_pur h.1 hm, toDs_pur h.2 hm]
end
mutual
theorem ofD_dat : ∀ {n : Nat} {w : Wv}, pur n w = true → ofD (dat w) = some w
  | _, .non, _ => by simp only [ofD, dat]
  | _, .int _, _ => by simp only [ofD, dat]
  | _, .str _, _ => by simp only [ofD, dat]
  | 0, .tup _, h => by simp [pur] at h
  | n + 1, .tup ws, h => by
    simp only [pur] at h
    simp only [ofD, dat, ofDs_dats h, Option.map_some]
  | _, .bl _, h => by simp [pur] at h
  | _, .ref _, h => by simp [pur] at h
  | _, .scr, h => by simp [pur] at h
theorem ofDs_dats : ∀ {n : Nat} {ws : List Wv}, purs n ws = true → ofDs (dats ws) = some ws
  | _, [], _ => by simp only [ofDs, dats]
  | n, w :: ws, h => by
    simp only [purs, Bool.and_eq_true] at h
    simp only [ofDs, dats, ofD_dat h.1, ofDs_dats h.2]
end
mutual
theorem dat_depth : ∀ {n : Nat} {w : Wv}, pur n w = true → (dat w).depth ≤ n
  | _, .non, _ => by simp [dat, PyData.depth]
  | _, .int _, _ => by simp [dat, PyData.depth]
  | _, .str _, _ => by simp [dat, PyData.depth]
  | 0, .tup _, h => by simp [pur] at h
  | n + 1, .tup ws, h => by
    simp only [pur] at h
    simp only [dat, PyData.depth]
    have := dats_depth h
    omega
  | _, .bl _, h => by simp [pur] at h
  | _, .ref _, h => by simp [pur] at h
  | _, .scr, h => by simp [pur] at h
theorem dats_depth : ∀ {n : Nat} {ws : List Wv}, purs n ws = true → PyData.depthAll (dats ws) ≤ n
  | _, [], _ => by simp [dats, PyData.depthAll]
  | n, w :: ws, h => by
    simp only [purs, Bool.and_eq_true] at h
    simp only [dats, PyData.depthAll]
    exact Nat.max_le.mpr ⟨dat_depth h.1, dats_depth h.2⟩
end
mutual
theorem dat_lay : ∀ {n : Nat} {w : Wv}, pur n w = true → (dat w).canLay0 = true
  | _, .non, _ => by simp [dat, PyData.canLay0]
  | _, .int _, _ => by simp [dat, PyData.canLay0]
  | _, .str _, h => by simpa [dat, PyData.canLay0, pur] using h
  | 0, .tup _, h => by simp [pur] at h
  | n + 1, .tup ws, h => by
    simp only [pur] at h
    simp only [dat, PyData.canLay0]
    exact dats_lay h
  | _, .bl _, h => by simp [pur] at h
  | _, .ref _, h => by simp [pur] at h
  | _, .scr, h => by simp [pur] at h
theorem dats_lay : ∀ {n : Nat} {ws : List Wv}, purs n ws = true → PyData.canLayAll0 (dats ws) = true
  | _, [], _ => by simp [dats, PyData.canLayAll0]
  | n, w :: ws, h => by
    simp only [purs, Bool.and_eq_true] at h
    simp only [dats, PyData.canLayAll0, dat_lay h.1, dats_lay h.2, Bool.and_self]
end
mutual
theorem noL_dat : ∀ {n : Nat} {w : Wv}, pur n w = true → noL (dat w) = true
  | _, .non, _ => by simp [dat, noL]
  | _, .int _, _ => by simp [dat, noL]
  | _, .str _, h => by simp [dat, noL]
  | 0, .tup _, h => by simp [pur] at h
  | n + 1, .tup ws, h => by
    simp only [pur] at h
    simp only [dat, noL]
    exact noLs_dats h
  | _, .bl _, h => by simp [pur] at h
  | _, .ref _, h => by simp [pur] at h
  | _, .scr, h => by simp [pur] at h
theorem noLs_dats : ∀ {n : Nat} {ws : List Wv}, purs n ws = true → noLs (dats ws) = true
  | _, [], _ => by simp [dats, noLs]
  | n, w :: ws, h => by
    simp only [purs, Bool.and_eq_true] at h
    simp only [dats, noLs, noL_dat h.1, noLs_dats h.2, Bool.and_self]
end
mutual
theorem alike_dat : ∀ {n : Nat} {w : Wv}, pur n w = true → alike (dat w) (dat w) = true
  | _, .non, _ => by simp [dat, alike]
  | _, .int _, _ => by simp [dat, alike]
  | _, .str _, h => by simp [dat, alike]
  | 0, .tup _, h => by simp [pur] at h
  | n + 1, .tup ws, h => by
    simp only [pur] at h
    simp only [dat, alike]
    exact alikes_dats h
  | _, .bl _, h => by simp [pur] at h
  | _, .ref _, h => by simp [pur] at h
  | _, .scr, h => by simp [pur] at h
theorem alikes_dats : ∀ {n : Nat} {ws : List Wv}, purs n ws = true → alikeAll (dats ws) (dats ws) = true
  | _, [], _ => by simp [dats, alikeAll]
  | n, w :: ws, h => by
    simp only [purs, Bool.and_eq_true] at h
    simp only [dats, alikeAll, alike_dat h.1, alikes_dats h.2, Bool.and_self]
end
mutual
theorem eqv_dat : ∀ {n m : Nat} {v w : Wv}, pur n v = true → pur m w = true → PyData.eqv (dat v) (dat w) = decide (v = w)
  | _, _, .non, .non, _, _ => by simp [dat, PyData.eqv]
  | _, _, .int i, .int j, _, _ => by
    simp only [dat, PyData.eqv, Wv.int.injEq]
    by_cases h : i = j
    · subst h; simp
    · simp [h]
  | _, _, .str i, .str j, _, _ => by
    simp only [dat, PyData.eqv, Wv.str.injEq]
    by_cases h : i = j
    · subst h; simp
    · simp [h]
  | n + 1, m + 1, .tup vs, .tup ws, h1, h2 => by
    simp only [pur] at h1 h2
    simp only [dat, PyData.eqv, eqvs_dats h1 h2, Wv.tup.injEq]
  | 0, _, .tup _, _, h, _ => by simp [pur] at h
  | _, 0, _, .tup _, _, h => by simp [pur] at h
  | _, _, .non, .int _, _, _ => by simp [dat, PyData.eqv]
  | _, _, .non, .str _, _, _ => by simp [dat, PyData.eqv]
  | _, _, .non, .tup _, _, _ => by simp [dat, PyData.eqv]
  | _, _, .int _, .non, _, _ => by simp [dat, PyData.eqv]
  | _, _, .int _, .str _, _, _ => by simp [dat, PyData.eqv]
  | _, _, .int _, .tup _, _, _ => by simp [dat, PyData.eqv]
  | _, _, .str _, .non, _, _ => by simp [dat, PyData.eqv]
  | _, _, .str _, .int _, _, _ => by simp [dat, PyData.eqv]
  | _, _, .str _, .tup _, _, _ => by simp [dat, PyData.eqv]
  | _, _, .tup _, .non, _, _ => by simp [dat, PyData.eqv]
  | _, _, .tup _, .int _, _, _ => by simp [dat, PyData.eqv]
  | _, _, .tup _, .str _, _, _ => by simp [dat, PyData.eqv]
  | _, _, .bl _, _, h, _ => by simp [pur] at h
  | _, _, .ref _, _, h, _ => by simp [pur] at h
  | _, _, .scr, _, h, _ => by simp [pur] at h
  | _, _, _, .bl _, _, h => by simp [pur] at h
  | _, _, _, .ref _, _, h => by simp [pur] at h
  | _, _, _, .scr, _, h => by simp [pur] at h
theorem eqvs_dats : ∀ {n m : Nat} {vs ws : List Wv}, purs n vs = true → purs m ws = true → PyData.eqvAll (dats vs) (dats ws) = decide (vs = ws)
  | _, _, [], [], _, _ => by simp [dats, PyData.eqvAll]
  | _, _, [], _ :: _, _, _ => by simp [dats, PyData.eqvAll]
  | _, _, _ :: _, [], _, _ => by simp [dats, PyData.eqvAll]
  | _, _, v :: vs, w :: ws, h1, h2 => by
    simp only [purs, Bool.and_eq_true] at h1 h2
    simp only [dats, PyData.eqvAll, eqv_dat h1.1 h2.1, eqvs_dats h1.2 h2.2, List.cons.injEq]
    by_cases h : v = w
    · subst h; simp
    · simp [h]
end
theorem shaped_dat {n : Nat} {w : Wv} (h : pur n w = true) (hn : n ≤ 64) : SeqAt.shaped (dat w) = true := by
  unfold SeqAt.shaped
  rw [Bool.and_eq_true]
  exact ⟨dat_lay h, decide_eq_true (Nat.le_trans (dat_depth h) hn)⟩
theorem eqW_pur {G : Pg} {M : Mem} {n m : Nat} {v w : Wv} (h1 : pur n v = true) (h2 : pur m w = true) (hn : n ≤ 12) (hm : m ≤ 12) : eqW G v w M = some (decide (v = w)) := by
  rw [eqW_of (toD_pur h1 hn) (toD_pur h2 hm) (shaped_dat h1 (by omega)) (shaped_dat h2 (by omega)), eqv_dat h1 h2]
end MP
end
section
set_option Elab.async false
set_option linter.all false
set_option maxRecDepth 100000
/-! MQ6: sorted things, by a number that tells them apart. -/
namespace MP
open PySem PySem.W
mutual
theorem pur_le : ∀ {n m : Nat} {w : Wv}, pur n w = true → n ≤ m → pur m w = true
  | _, _, .non, _, _ => by simp [pur]
  | _, _, .int _, _, _ => by simp [pur]
  | _, _, .str _, h, _ => by simpa [pur] using h
  | 0, _, .tup _, h, _ => by simp [pur] at h
  | n + 1, 0, .tup _, _, h => by omega
  | n + 1, m + 1, .tup ws, h, hm => by
    simp only [pur] at h ⊢
    exact purs_le h (Nat.le_of_succ_le_succ hm)
  | _, _, .bl _, h, _ => by simp [pur] at h
  | _, _, .ref _, h, _ => by simp [pur] at h
  | _, _, .scr, h, _ => by simp [pur] at h
theorem purs_le : ∀ {n m : Nat} {ws : List Wv}, purs n ws = true → n ≤ m → purs m ws = true
  | _, _, [], _, _ => by simp [purs]
  | n, m, w :: ws, h, hm => by
    simp only [purs, Bool.and_eq_true] at h ⊢
    exact ⟨pur_le h.1 hm, purs_le h.2 hm⟩
end
theorem pw_inj {α : Type} {m : α → Int} {ys : List α} (h : ys.Pairwise fun a b => m a < m b) {a b : α} (ha : a ∈ ys) (hb : b ∈ ys) (e : m a = m b) : a = b := by
  induction ys with
  | nil => cases ha
  | cons y ys ih =>
    rw [List.pairwise_cons] at h
    rcases List.mem_cons.mp ha with ha | ha
    · rcases List.mem_cons.mp hb with hb | hb
      · rw [ha, hb]
      · have := h.1 b hb
        rw [ha] at e; omega
    · rcases List.mem_cons.mp hb with hb | hb
      · have := h.1 a ha
        rw [hb] at e; omega
      · exact ih h.2 ha hb
theorem sort_int {α : Type} (m : α → Int) {xs ys : List α} (hp : xs.Perm ys) (hy : ys.Pairwise fun a b => m a < m b) : xs.mergeSort (fun a b => decide (m a ≤ m b)) = ys := by
  refine List.Perm.eq_of_pairwise (le := fun a b => m a ≤ m b) ?_ ?_ ?_ ((List.mergeSort_perm _ _).trans hp)
  · intro a b ha hb h1 h2
    exact pw_inj hy (hp.subset ((List.mergeSort_perm _ _).subset ha)) hb (by omega)
  · have := List.pairwise_mergeSort (le := fun a b => decide (m a ≤ m b)) (fun a b c h1 h2 => by
      have g1 := of_decide_eq_true h1
      have g2 := of_decide_eq_true h2
      exact decide_eq_true (by omega)) (fun a b => by
      by_cases h : m a ≤ m b
      · rw [decide_eq_true h]; rfl
      · rw [decide_eq_true (show m b ≤ m a by omega), Bool.or_true]) xs
    exact this.imp fun h => of_decide_eq_true h
  · exact hy.imp fun h => by omega
theorem sortBy_int {α : Type} {f : α → PyData} {g : α → Wv} (m : α → Int) {xs ys : List α} (hp : xs.Perm ys) (hy : ys.Pairwise fun a b => m a < m b)
    (hlt : ∀ a ∈ xs, ∀ b ∈ xs, W.dataLt (f a) (f b) = decide (m a < m b)) (ha : alikeAllB (xs.map f) = true) (hs : sortableB (xs.map f) = true) (hd : (xs.map f).all dcap = true) : sortBy (xs.map f) (xs.map g) = some (ys.map g) := by
  unfold sortBy
  rw [ha, hs, hd]
  simp only [Bool.and_self, if_true]
  have e1 : (xs.map f).zip (xs.map g) = xs.map fun a => (f a, g a) := by rw [List.zip_map']
  have e2 := List.map_mergeSort (r := fun a b => decide (m a ≤ m b)) (s := fun a b => W.dataLe false (fun p : PyData × Wv => p.1) a b) (f := fun a => (f a, g a)) (l := xs) (fun a ha b hb => by
    rw [W.dataLe_eq]
    show _ = !(W.dataLt (f b) (f a))
    rw [hlt b hb a ha]
    by_cases h : m a ≤ m b
    · rw [decide_eq_true h, decide_eq_false (by omega)]; rfl
    · rw [decide_eq_false h, decide_eq_true (by omega)]; rfl)
  rw [e1, ← e2, sort_int m hp hy, List.map_map]
  rfl
theorem alikeAllB_map {α : Type} {f : α → PyData} {xs : List α} (h : ∀ a ∈ xs, ∀ b ∈ xs, W.alike (f a) (f b) = true) : alikeAllB (xs.map f) = true := by
  unfold alikeAllB
  rw [List.all_eq_true]
  intro d hd
  rw [List.all_eq_true]
  intro e he
  obtain ⟨a, ha, rfl⟩ := List.mem_map.mp hd
  obtain ⟨b, hb, rfl⟩ := List.mem_map.mp he
  exact h a ha b hb
theorem sortableB_tup {α : Type} {f : α → PyData} {xs : List α} (h : ∀ a ∈ xs, ∃ d ds, f a = .tuple (d :: ds)) : sortableB (xs.map f) = true := by
  unfold sortableB
  rw [Bool.or_eq_true]
  refine .inl ?_
  rw [List.all_eq_true]
  intro d hd
  obtain ⟨a, ha, rfl⟩ := List.mem_map.mp hd
  obtain ⟨d, ds, e⟩ := h a ha
  rw [e]
theorem sortableB_int {α : Type} {f : α → Int} {xs : List α} : sortableB (xs.map fun a => .int (f a)) = true := by
  unfold sortableB
  rw [Bool.or_eq_true]
  refine .inr ?_
  rw [List.all_eq_true]
  intro d hd
  obtain ⟨a, ha, rfl⟩ := List.mem_map.mp hd
  rfl
theorem dcap_map {α : Type} {f : α → PyData} {xs : List α} (h : ∀ a ∈ xs, (f a).depth ≤ 32) : (xs.map f).all dcap = true := by
  rw [List.all_eq_true]
  intro d hd
  obtain ⟨a, ha, rfl⟩ := List.mem_map.mp hd
  exact decide_eq_true (h a ha)
end MP
end
section
set_option Elab.async false
set_option linter.all false
set_option maxRecDepth 100000
set_option maxHeartbeats 0

namespace Bh
open PySem PySem.Spec PyProof.Rows L2 MP
def top (i : Nat) : Stmt := PySem.Challenge.pw_basinhouse_k29_forecasts.main.body.getD i (.Pass ⟨0, 0, 0, 0⟩)
def ix__wall : Nat := 0
def ix_is_whole : Nat := 1
def ix_look_whole : Nat := 2
def ix_is_day : Nat := 3
def ix_look_day : Nat := 4
def ix_is_name : Nat := 5
def ix_look_name : Nat := 6
def ix_lowest : Nat := 7
def ix_readings : Nat := 8
def ix_mean_by : Nat := 9
def ix_looked_for : Nat := 10
def ix_near : Nat := 11
def ix_driest : Nat := 12
def ix_thing_of : Nat := 13
def ix_in_force : Nat := 14
def ix_deepness : Nat := 15
def ix_World___init__ : Nat := 16
def ix_World_of : Nat := 17
def ix_World_names : Nat := 18
def ix_World_last : Nat := 19
def ix_World_last_share : Nat := 20
def ix_World_last_of : Nat := 21
def ix_World_on_day : Nat := 22
def ix__law_drawn : Nat := 23
def ix__law_holds : Nat := 24
def ix__law_holding : Nat := 25
def ix__law_thing : Nat := 26
def ix__law_counting : Nat := 27
def ix__law_mean : Nat := 28
def ix__law_apart : Nat := 29
def ix_law : Nat := 30
def ci_World : Nat := 0
def xi_BasinError : Nat := 0
def xi_NoNumber : Nat := 1
def xi_NoDay : Nat := 2
def xi_NoName : Nat := 3
def N0 : List Str := ["k"]
def ps0 : List Str := ["k"]
def sl__wall : MP.Sl := (.cons (.whl (.con (.bl true)) (.cons .pass
  .nil))
  .nil)
def df__wall : MP.Df := ⟨1, 1, [], sl__wall⟩
def N1 : List Str := ["thing", "least", "most"]
def ps1 : List Str := ["thing", "least", "most"]
def sl_is_whole : MP.Sl := (.cons (.ret (.and (.isi .int (.var 0)) (.and (.not (.isi .bool (.var 0))) (.cmp2 .le .le (.var 1) (.var 0) (.var 2)))))
  .nil)
def df_is_whole : MP.Df := ⟨3, 3, [], sl_is_whole⟩
def N2 : List Str := ["thing", "least", "most"]
def ps2 : List Str := ["thing", "least", "most"]
def sl_look_whole : MP.Sl := (.cons (.ifs (.not (.call ix_is_whole (.cons (.var 0) (.cons (.var 1) (.cons (.var 2) .nil))) [])) (.cons (.raise xi_NoNumber)
  .nil) .nil)
  .nil)
def df_look_whole : MP.Df := ⟨3, 3, [], sl_look_whole⟩
def N3 : List Str := ["thing"]
def ps3 : List Str := ["thing"]
def sl_is_day : MP.Sl := (.cons (.ret (.call ix_is_whole (.cons (.var 0) (.cons (.con (.int 0)) (.cons (.glb "LAST_DAY") .nil))) []))
  .nil)
def df_is_day : MP.Df := ⟨1, 1, [], sl_is_day⟩
def N4 : List Str := ["thing"]
def ps4 : List Str := ["thing"]
def sl_look_day : MP.Sl := (.cons (.ifs (.not (.call ix_is_day (.cons (.var 0) .nil) [])) (.cons (.raise xi_NoDay)
  .nil) .nil)
  .nil)
def df_look_day : MP.Df := ⟨1, 1, [], sl_look_day⟩
def N5 : List Str := ["thing", "sign"]
def ps5 : List Str := ["thing"]
def sl_is_name : MP.Sl := (.cons (.ret (.and (.isi .str (.var 0)) (.and (.cmp2 .le .le (.con (.int 1)) (.bi .len (.cons (.var 0) .nil)) (.con (.int 8))) (.bi .all (.cons (.lc (.cmp .in_ (.var 1) (.glb "SMALL")) (.nm 1) (.val (.var 0)) (.con (.bl true))) .nil)))))
  .nil)
def df_is_name : MP.Df := ⟨2, 1, [], sl_is_name⟩
def N6 : List Str := ["thing"]
def ps6 : List Str := ["thing"]
def sl_look_name : MP.Sl := (.cons (.ifs (.not (.call ix_is_name (.cons (.var 0) .nil) [])) (.cons (.raise xi_NoName)
  .nil) .nil)
  .nil)
def df_look_name : MP.Df := ⟨1, 1, [], sl_look_name⟩
def N7 : List Str := ["top", "below", "one", "other"]
def ps7 : List Str := ["top", "below"]
def sl_lowest : MP.Sl := (.cons (.asg (.tup [2, 3]) (.tup (.cons (.var 0) (.cons (.var 1) .nil))))
  (.cons (.whl (.cmp .ne (.var 3) (.con (.int 0))) (.cons (.asg (.tup [2, 3]) (.tup (.cons (.var 3) (.cons (.bin .mod (.var 2) (.var 3)) .nil))))
  .nil))
  (.cons (.ret (.tup (.cons (.bin .fdiv (.var 0) (.var 2)) (.cons (.bin .fdiv (.var 1) (.var 2)) .nil))))
  .nil)))
def df_lowest : MP.Df := ⟨4, 2, [], sl_lowest⟩
def N8 : List Str := ["world", "place", "truth"]
def ps8 : List Str := ["world", "place"]
def sl_readings : MP.Sl := (.cons (.ex (.call ix_look_name (.cons (.var 1) .nil) []))
  (.cons (.ret (.lc (.tup (.cons (.sub (.var 2) (.con (.int 1))) (.cons (.sub (.var 2) (.con (.int 3))) .nil))) (.nm 2) (.val (.meth "of" (.var 0) (.cons (.con (.str "read")) (.cons (.var 1) .nil)) [])) (.con (.bl true))))
  .nil))
def df_readings : MP.Df := ⟨3, 2, [], sl_readings⟩
def N9 : List Str := ["world", "place", "day", "wide", "found", "when", "amount", "apart"]
def ps9 : List Str := ["world", "place", "day", "wide"]
def sl_mean_by : MP.Sl := (.cons (.ex (.call ix_look_name (.cons (.var 1) .nil) []))
  (.cons (.ex (.call ix_look_day (.cons (.var 2) .nil) []))
  (.cons (.ex (.call ix_look_whole (.cons (.var 3) (.cons (.con (.int 0)) (.cons (.con (.int 182)) .nil))) []))
  (.cons (.asg (.nm 4) (.lst .nil))
  (.cons (.for_ (.tup [5, 6]) (.val (.call ix_readings (.cons (.var 0) (.cons (.var 1) .nil)) [])) (.cons (.asg (.nm 7) (.bi .abs (.cons (.bin .sub (.bin .mod (.var 5) (.glb "YEAR")) (.bin .mod (.var 2) (.glb "YEAR"))) .nil)))
  (.cons (.ifs (.and (.cmp .le (.var 5) (.var 2)) (.cmp .le (.bi .min (.cons (.var 7) (.cons (.bin .sub (.glb "YEAR") (.var 7)) .nil))) (.var 3))) (.cons (.ex (.bm .append (.var 4) (.cons (.var 6) .nil)))
  .nil) .nil)
  .nil)))
  (.cons (.ret (.ife (.cmp .ne (.var 4) (.lst .nil)) (.call ix_lowest (.cons (.bi .sum (.cons (.var 4) .nil)) (.cons (.bi .len (.cons (.var 4) .nil)) .nil)) []) (.con .non)))
  .nil))))))
def df_mean_by : MP.Df := ⟨8, 4, [], sl_mean_by⟩
def N10 : List Str := ["world", "place", "day", "many", "wide", "found", "ahead", "rows", "some", "when", "amount"]
def ps10 : List Str := ["world", "place", "day", "many", "wide"]
def sl_looked_for : MP.Sl := (.cons (.ex (.call ix_look_name (.cons (.var 1) .nil) []))
  (.cons (.ex (.call ix_look_day (.cons (.var 2) .nil) []))
  (.cons (.ex (.call ix_look_whole (.cons (.var 3) (.cons (.con (.int 1)) (.cons (.con (.int 99)) .nil))) []))
  (.cons (.ex (.call ix_look_whole (.cons (.var 4) (.cons (.con (.int 0)) (.cons (.con (.int 182)) .nil))) []))
  (.cons (.asg (.nm 5) (.lst .nil))
  (.cons (.for_ (.nm 6) (.rng (.con (.int 1)) (.bin .add (.var 3) (.con (.int 1)))) (.cons (.asg (.nm 7) (.lc (.tup (.cons (.var 9) (.cons (.var 10) .nil))) (.tup [9, 10]) (.val (.call ix_readings (.cons (.var 0) (.cons (.var 1) .nil)) [])) (.cmp .le (.var 9) (.var 2))))
  (.cons (.asg (.nm 8) (.lc (.var 10) (.tup [9, 10]) (.val (.var 7)) (.cmp .le (.call ix_near (.cons (.var 9) (.cons (.bin .add (.var 2) (.var 6)) .nil)) []) (.var 4))))
  (.cons (.ex (.bm .append (.var 5) (.cons (.ife (.cmp .ne (.var 8) (.lst .nil)) (.call ix_lowest (.cons (.bi .sum (.cons (.var 8) .nil)) (.cons (.bi .len (.cons (.var 8) .nil)) .nil)) []) (.con .non)) .nil)))
  .nil))))
  (.cons (.ret (.var 5))
  .nil)))))))
def df_looked_for : MP.Df := ⟨11, 5, [], sl_looked_for⟩
def N11 : List Str := ["one", "other", "apart"]
def ps11 : List Str := ["one", "other"]
def sl_near : MP.Sl := (.cons (.asg (.nm 2) (.bi .abs (.cons (.bin .sub (.bin .mod (.var 0) (.glb "YEAR")) (.bin .mod (.var 1) (.glb "YEAR"))) .nil)))
  (.cons (.ret (.bi .min (.cons (.var 2) (.cons (.bin .sub (.glb "YEAR") (.var 2)) .nil))))
  .nil))
def df_near : MP.Df := ⟨3, 2, [], sl_near⟩
def N12 : List Str := ["world", "place", "day", "many", "rows", "best", "start", "some", "when", "amount"]
def ps12 : List Str := ["world", "place", "day", "many"]
def sl_driest : MP.Sl := (.cons (.ex (.call ix_look_name (.cons (.var 1) .nil) []))
  (.cons (.ex (.call ix_look_day (.cons (.var 2) .nil) []))
  (.cons (.ex (.call ix_look_whole (.cons (.var 3) (.cons (.con (.int 1)) (.cons (.con (.int 99)) .nil))) []))
  (.cons (.asg (.nm 4) (.bi .dict (.cons (.lc (.tup (.cons (.var 8) (.cons (.var 9) .nil))) (.tup [8, 9]) (.val (.call ix_readings (.cons (.var 0) (.cons (.var 1) .nil)) [])) (.cmp .le (.var 8) (.var 2))) .nil)))
  (.cons (.asg (.nm 5) (.con .non))
  (.cons (.for_ (.nm 6) (.val (.bi .sorted (.cons (.var 4) .nil))) (.cons (.asg (.nm 7) (.lc (.sub (.var 4) (.var 8)) (.nm 8) (.rng (.var 6) (.bin .add (.var 6) (.var 3))) (.cmp .in_ (.var 8) (.var 4))))
  (.cons (.ifs (.and (.cmp .eq (.bi .len (.cons (.var 7) .nil)) (.var 3)) (.or (.cmp .is_ (.var 5) (.con .non)) (.cmp .lt (.bi .sum (.cons (.var 7) .nil)) (.sub (.var 5) (.con (.int 0)))))) (.cons (.asg (.nm 5) (.tup (.cons (.bi .sum (.cons (.var 7) .nil)) (.cons (.var 6) .nil))))
  .nil) .nil)
  .nil)))
  (.cons (.ret (.var 5))
  .nil)))))))
def df_driest : MP.Df := ⟨10, 4, [], sl_driest⟩
def N13 : List Str := ["truth"]
def ps13 : List Str := ["truth"]
def sl_thing_of : MP.Sl := (.cons (.ifs (.cmp .eq (.sub (.var 0) (.con (.int 0))) (.con (.str "share"))) (.cons (.ret (.tup (.cons (.sub (.var 0) (.con (.int 0))) (.cons (.sub (.var 0) (.con (.int 2))) (.cons (.sub (.var 0) (.con (.int 3))) .nil)))))
  .nil) .nil)
  (.cons (.ret (.ife (.cmp .eq (.sub (.var 0) (.con (.int 0))) (.con (.str "release"))) (.tup (.cons (.sub (.var 0) (.con (.int 0))) (.cons (.sub (.var 0) (.con (.int 2))) (.cons (.sub (.var 0) (.con (.int 3))) (.cons (.sub (.var 0) (.con (.int 4))) .nil))))) (.tup (.cons (.sub (.var 0) (.con (.int 0))) (.cons (.sub (.var 0) (.con (.int 2))) .nil)))))
  .nil))
def df_thing_of : MP.Df := ⟨1, 1, [], sl_thing_of⟩
def N14 : List Str := ["truths", "known", "depth", "layers", "gone", "layer", "void", "truth"]
def ps14 : List Str := ["truths"]
def sl_in_force : MP.Sl := (.cons (.asg (.nm 1) (.dc (.var 7) (.con (.bl true)) (.nm 7) (.val (.var 0)) (.con (.bl true))))
  (.cons (.asg (.nm 2) (.con (.int 0)))
  (.cons (.asg (.nm 3) (.lst (.cons (.bi .list (.cons (.var 1) .nil)) .nil)))
  (.cons (.whl (.cmp .lt (.var 2) (.glb "MOST_DEEP")) (.cons (.ex (.bm .append (.var 3) (.cons (.lc (.var 7) (.nm 7) (.val (.var 1)) (.cmp .eq (.call ix_deepness (.cons (.var 7) .nil) []) (.bin .add (.var 2) (.con (.int 1))))) .nil)))
  (.cons (.aug 2 .add (.con (.int 1)))
  .nil)))
  (.cons (.asg (.nm 4) .dict0)
  (.cons (.for_ (.nm 5) (.val (.srev true (.var 3))) (.cons (.for_ (.nm 6) (.val (.var 5)) (.cons (.ifs (.cmp .nin (.var 6) (.var 4)) (.cons (.asgS (.var 4) (.sub (.var 6) (.con (.int 1))) (.con (.bl true)))
  .nil) .nil)
  .nil))
  .nil))
  (.cons (.ret (.lc (.var 7) (.nm 7) (.val (.var 1)) (.and (.cmp .ne (.sub (.var 7) (.con (.int 0))) (.glb "VOID")) (.cmp .nin (.var 7) (.var 4)))))
  .nil)))))))
def df_in_force : MP.Df := ⟨8, 1, [], sl_in_force⟩
def N15 : List Str := ["truth", "found"]
def ps15 : List Str := ["truth"]
def sl_deepness : MP.Sl := (.cons (.asg (.nm 1) (.con (.int 0)))
  (.cons (.whl (.cmp .eq (.sub (.var 0) (.con (.int 0))) (.glb "VOID")) (.cons (.asg (.nm 0) (.sub (.var 0) (.con (.int 1))))
  (.cons (.aug 1 .add (.con (.int 1)))
  .nil)))
  (.cons (.ret (.var 1))
  .nil)))
def df_deepness : MP.Df := ⟨2, 1, [], sl_deepness⟩
def N16 : List Str := ["self", "truths", "found", "truth", "key", "thing", "day"]
def ps16 : List Str := ["self", "truths"]
def sl_World___init__ : MP.Sl := (.cons (.asg (.nm 2) .dict0)
  (.cons (.for_ (.nm 3) (.val (.call ix_in_force (.cons (.var 1) .nil) [])) (.cons (.asg (.nm 4) (.tup (.cons (.call ix_thing_of (.cons (.var 3) .nil) []) (.cons (.sub (.var 3) (.con (.int 1))) .nil))))
  (.cons (.asgS (.var 2) (.var 4) (.bi .max (.cons (.bm .get (.var 2) (.cons (.var 4) (.cons (.var 3) .nil))) (.cons (.var 3) .nil))))
  .nil)))
  (.cons (.asgA (.var 0) "rows" .dict0)
  (.cons (.for_ (.tup [5, 6]) (.val (.bi .sorted (.cons (.var 2) .nil))) (.cons (.asgS (.attr (.var 0) "rows") (.var 5) (.bin .add (.bm .get (.attr (.var 0) "rows") (.cons (.var 5) (.cons (.lst .nil) .nil))) (.lst (.cons (.sub (.var 2) (.tup (.cons (.var 5) (.cons (.var 6) .nil)))) .nil))))
  .nil))
  (.cons (.asgA (.var 0) "kept" .dict0)
  .nil)))))
def df_World___init__ : MP.Df := ⟨7, 2, [], sl_World___init__⟩
def N17 : List Str := ["self", "word", "name", "found", "thing", "rows"]
def ps17 : List Str := ["self", "word", "name"]
def sl_World_of : MP.Sl := (.cons (.asg (.nm 3) (.lst .nil))
  (.cons (.for_ (.tup [4, 5]) (.items (.attr (.var 0) "rows")) (.cons (.ifs (.and (.cmp .eq (.sub (.var 4) (.con (.int 0))) (.var 1)) (.cmp .in_ (.var 2) (.tup (.cons (.con .non) (.cons (.sub (.var 4) (.con (.int 1))) .nil))))) (.cons (.asg (.nm 3) (.bin .add (.var 3) (.var 5)))
  .nil) .nil)
  .nil))
  (.cons (.ret (.sortk (.var 3) (.tup (.sub .v 1) .v)))
  .nil)))
def df_World_of : MP.Df := ⟨6, 3, [.non], sl_World_of⟩
def N18 : List Str := ["self", "word", "found", "thing"]
def ps18 : List Str := ["self", "word"]
def sl_World_names : MP.Sl := (.cons (.asg (.nm 2) .dict0)
  (.cons (.for_ (.nm 3) (.val (.attr (.var 0) "rows")) (.cons (.ifs (.cmp .eq (.sub (.var 3) (.con (.int 0))) (.var 1)) (.cons (.asgS (.var 2) (.sub (.var 3) (.con (.int 1))) (.con (.bl true)))
  .nil) .nil)
  .nil))
  (.cons (.ret (.bi .sorted (.cons (.var 2) .nil)))
  .nil)))
def df_World_names : MP.Df := ⟨4, 2, [], sl_World_names⟩
def N19 : List Str := ["self", "word", "name", "day"]
def ps19 : List Str := ["self", "word", "name", "day"]
def sl_World_last : MP.Sl := (.cons (.ex (.call ix__wall (.cons (.con (.int 0)) .nil) []))
  .nil)
def df_World_last : MP.Df := ⟨4, 4, [], sl_World_last⟩
def N20 : List Str := ["self", "place", "owner", "day"]
def ps20 : List Str := ["self", "place", "owner", "day"]
def sl_World_last_share : MP.Sl := (.cons (.ex (.call ix__wall (.cons (.con (.int 1)) .nil) []))
  .nil)
def df_World_last_share : MP.Df := ⟨4, 4, [], sl_World_last_share⟩
def N21 : List Str := ["self", "thing", "day"]
def ps21 : List Str := ["self", "thing", "day"]
def sl_World_last_of : MP.Sl := (.cons (.ex (.call ix__wall (.cons (.con (.int 2)) .nil) []))
  .nil)
def df_World_last_of : MP.Df := ⟨3, 3, [], sl_World_last_of⟩
def N22 : List Str := ["self", "word", "name", "day"]
def ps22 : List Str := ["self", "word", "name", "day"]
def sl_World_on_day : MP.Sl := (.cons (.ex (.call ix__wall (.cons (.con (.int 3)) .nil) []))
  .nil)
def df_World_on_day : MP.Df := ⟨4, 4, [], sl_World_on_day⟩
def N23 : List Str := ["script", "k", "many", "cell", "turn", "rest"]
def ps23 : List Str := ["script", "k", "many"]
def sl__law_drawn : MP.Sl := (.cons (.asg (.nm 3) (.bin .mul (.con (.int 7)) (.var 1)))
  (.cons (.ifs (.cmp .ne (.var 0) (.lst .nil)) (.cons (.asg (.nm 3) (.sub (.var 0) (.bin .mod (.var 1) (.bi .len (.cons (.var 0) .nil)))))
  (.cons (.asg (.nm 4) (.bin .fdiv (.var 1) (.bi .len (.cons (.var 0) .nil))))
  (.cons (.ifs (.and (.cmp .ge (.var 3) (.bin .pow (.con (.int 10)) (.con (.int 18)))) (.cmp .lt (.var 4) (.con (.int 60)))) (.cons (.asg (.nm 5) (.bin .fdiv (.var 3) (.bin .pow (.con (.int 10)) (.con (.int 18)))))
  (.cons (.whl (.and (.cmp .gt (.var 5) (.con (.int 0))) (.cmp .gt (.var 4) (.con (.int 0)))) (.cons (.asg (.nm 5) (.bin .fdiv (.var 5) (.con (.int 1000000))))
  (.cons (.asg (.nm 4) (.bin .sub (.var 4) (.con (.int 1))))
  .nil)))
  (.cons (.ifs (.cmp .gt (.var 5) (.con (.int 0))) (.cons (.ret (.bin .mod (.bin .mod (.var 5) (.con (.int 1000000))) (.var 2)))
  .nil) .nil)
  .nil))) .nil)
  (.cons (.asg (.nm 3) (.bin .add (.var 3) (.bin .mul (.con (.int 6553)) (.bin .fdiv (.var 1) (.bi .len (.cons (.var 0) .nil))))))
  .nil)))) .nil)
  (.cons (.asg (.nm 3) (.bin .mod (.bin .add (.bin .mul (.bin .mod (.var 3) (.con (.int 2147483563))) (.con (.int 69069))) (.bin .mul (.con (.int 104723)) (.bin .add (.var 1) (.con (.int 1))))) (.con (.int 2147483563))))
  (.cons (.asg (.nm 3) (.bin .mod (.bin .add (.bin .mul (.var 3) (.var 3)) (.bin .fdiv (.var 3) (.con (.int 3)))) (.con (.int 2147483399))))
  (.cons (.ret (.bin .mod (.bin .fdiv (.bin .mod (.bin .add (.bin .mul (.var 3) (.var 3)) (.bin .fdiv (.var 3) (.con (.int 7)))) (.con (.int 2147483647))) (.con (.int 11))) (.var 2)))
  .nil)))))
def df__law_drawn : MP.Df := ⟨6, 3, [], sl__law_drawn⟩
def N24 : List Str := ["truth", "truths", "one"]
def ps24 : List Str := ["truth", "truths"]
def sl__law_holds : MP.Sl := (.cons (.ret (.cmp .eq (.lc (.var 2) (.nm 2) (.val (.var 1)) (.and (.cmp .eq (.var 2) (.tup (.cons (.con (.str "void")) (.cons (.var 0) .nil)))) (.call ix__law_holds (.cons (.var 2) (.cons (.var 1) .nil)) []))) (.lst .nil)))
  .nil)
def df__law_holds : MP.Df := ⟨3, 2, [], sl__law_holds⟩
def N25 : List Str := ["truths", "found", "truth"]
def ps25 : List Str := ["truths"]
def sl__law_holding : MP.Sl := (.cons (.asg (.nm 1) (.lst .nil))
  (.cons (.for_ (.nm 2) (.val (.var 0)) (.cons (.ifs (.and (.cmp .ne (.sub (.var 2) (.con (.int 0))) (.con (.str "void"))) (.and (.cmp .nin (.var 2) (.var 1)) (.call ix__law_holds (.cons (.var 2) (.cons (.var 0) .nil)) []))) (.cons (.ex (.bm .append (.var 1) (.cons (.var 2) .nil)))
  .nil) .nil)
  .nil))
  (.cons (.ret (.var 1))
  .nil)))
def df__law_holding : MP.Df := ⟨3, 1, [], sl__law_holding⟩
def N26 : List Str := ["truth", "many"]
def ps26 : List Str := ["truth"]
def sl__law_thing : MP.Sl := (.cons (.asg (.nm 1) (.bm .get (.dict2 "share" 4 "release" 5) (.cons (.sub (.var 0) (.con (.int 0))) (.cons (.con (.int 3)) .nil))))
  (.cons (.ret (.bin .add (.slc (.var 0) .no (.con (.int 1))) (.slc (.var 0) (.con (.int 2)) (.var 1))))
  .nil))
def df__law_thing : MP.Df := ⟨2, 1, [], sl__law_thing⟩
def N27 : List Str := ["truths", "found", "truth", "cell"]
def ps27 : List Str := ["truths"]
def sl__law_counting : MP.Sl := (.cons (.asg (.nm 1) .dict0)
  (.cons (.for_ (.nm 2) (.val (.call ix__law_holding (.cons (.var 0) .nil) [])) (.cons (.asg (.nm 3) (.tup (.cons (.call ix__law_thing (.cons (.var 2) .nil) []) (.cons (.sub (.var 2) (.con (.int 1))) .nil))))
  (.cons (.asgS (.var 1) (.var 3) (.bi .max (.cons (.bm .get (.var 1) (.cons (.var 3) (.cons (.var 2) .nil))) (.cons (.var 2) .nil))))
  .nil)))
  (.cons (.ret (.sortv (.var 1) (.tup (.sub .v 1) .v)))
  .nil)))
def df__law_counting : MP.Df := ⟨4, 1, [], sl__law_counting⟩
def N28 : List Str := ["amounts", "top", "below", "k"]
def ps28 : List Str := ["amounts"]
def sl__law_mean : MP.Sl := (.cons (.ifs (.cmp .eq (.var 0) (.lst .nil)) (.cons (.ret (.con .non))
  .nil) .nil)
  (.cons (.asg (.tup [1, 2]) (.tup (.cons (.bi .sum (.cons (.var 0) .nil)) (.cons (.bi .len (.cons (.var 0) .nil)) .nil))))
  (.cons (.for_ (.nm 3) (.rng (.con (.int 2)) (.bin .add (.var 2) (.con (.int 1)))) (.cons (.whl (.and (.cmp .eq (.bin .mod (.var 1) (.var 3)) (.con (.int 0))) (.cmp .eq (.bin .mod (.var 2) (.var 3)) (.con (.int 0)))) (.cons (.asg (.tup [1, 2]) (.tup (.cons (.bin .fdiv (.var 1) (.var 3)) (.cons (.bin .fdiv (.var 2) (.var 3)) .nil))))
  .nil))
  .nil))
  (.cons (.ret (.tup (.cons (.var 1) (.cons (.var 2) .nil))))
  .nil))))
def df__law_mean : MP.Df := ⟨4, 1, [], sl__law_mean⟩
def N29 : List Str := ["one", "other", "apart"]
def ps29 : List Str := ["one", "other"]
def sl__law_apart : MP.Sl := (.cons (.asg (.nm 2) (.bi .abs (.cons (.bin .sub (.bin .mod (.var 0) (.con (.int 365))) (.bin .mod (.var 1) (.con (.int 365)))) .nil)))
  (.cons (.ret (.bi .min (.cons (.var 2) (.cons (.bin .sub (.con (.int 365)) (.var 2)) .nil))))
  .nil))
def df__law_apart : MP.Df := ⟨3, 2, [], sl__law_apart⟩
def N30 : List Str := ["script", "truths", "k", "day", "truth", "world", "rows", "broad", "many", "known", "some", "due", "best", "amounts", "when", "amount"]
def ps30 : List Str := ["script"]
def sl_law : MP.Sl := (.cons (.asg (.nm 1) (.lst .nil))
  (.cons (.for_ (.nm 2) (.rng (.con (.int 0)) (.call ix__law_drawn (.cons (.var 0) (.cons (.con (.int 0)) (.cons (.con (.int 24)) .nil))) [])) (.cons (.asg (.nm 3) (.bin .add (.sub (.lst (.cons (.con (.int 0)) (.cons (.con (.int 360)) (.cons (.con (.int 365)) (.cons (.con (.int 730)) .nil))))) (.call ix__law_drawn (.cons (.var 0) (.cons (.bin .add (.con (.int 10)) (.bin .mul (.con (.int 4)) (.var 2))) (.cons (.con (.int 4)) .nil))) [])) (.call ix__law_drawn (.cons (.var 0) (.cons (.bin .add (.con (.int 11)) (.bin .mul (.con (.int 4)) (.var 2))) (.cons (.con (.int 14)) .nil))) [])))
  (.cons (.asg (.nm 4) (.tup (.cons (.con (.str "read")) (.cons (.var 3) (.cons (.sub (.con (.str "ab")) (.call ix__law_drawn (.cons (.var 0) (.cons (.bin .add (.con (.int 12)) (.bin .mul (.con (.int 4)) (.var 2))) (.cons (.con (.int 2)) .nil))) [])) (.cons (.call ix__law_drawn (.cons (.var 0) (.cons (.bin .add (.con (.int 13)) (.bin .mul (.con (.int 4)) (.var 2))) (.cons (.con (.int 40)) .nil))) []) .nil))))))
  (.cons (.ex (.bm .append (.var 1) (.cons (.var 4) .nil)))
  (.cons (.ifs (.cmp .eq (.call ix__law_drawn (.cons (.var 0) (.cons (.bin .add (.con (.int 120)) (.var 2)) (.cons (.con (.int 6)) .nil))) []) (.con (.int 0))) (.cons (.ex (.bm .append (.var 1) (.cons (.tup (.cons (.con (.str "void")) (.cons (.var 4) .nil))) .nil)))
  .nil) .nil)
  .nil)))))
  (.cons (.asg (.tup [5, 6]) (.tup (.cons (.new ci_World (.cons (.var 1) .nil)) (.cons (.lc (.tup (.cons (.sub (.var 4) (.con (.int 1))) (.cons (.sub (.var 4) (.con (.int 3))) .nil))) (.nm 4) (.val (.call ix__law_counting (.cons (.var 1) .nil) [])) (.cmp .eq (.sub (.var 4) (.con (.int 2))) (.con (.str "a")))) .nil))))
  (.cons (.ifs (.cmp .ne (.call ix_readings (.cons (.var 5) (.cons (.con (.str "a")) .nil)) []) (.var 6)) (.cons (.ret (.con (.bl false)))
  .nil) .nil)
  (.cons (.asg (.nm 3) (.bin .add (.sub (.lst (.cons (.con (.int 5)) (.cons (.con (.int 366)) (.cons (.con (.int 800)) .nil)))) (.call ix__law_drawn (.cons (.var 0) (.cons (.con (.int 1)) (.cons (.con (.int 3)) .nil))) [])) (.call ix__law_drawn (.cons (.var 0) (.cons (.con (.int 2)) (.cons (.con (.int 12)) .nil))) [])))
  (.cons (.asg (.tup [7, 8]) (.tup (.cons (.call ix__law_drawn (.cons (.var 0) (.cons (.con (.int 3)) (.cons (.con (.int 12)) .nil))) []) (.cons (.bin .add (.con (.int 1)) (.call ix__law_drawn (.cons (.var 0) (.cons (.con (.int 4)) (.cons (.con (.int 4)) .nil))) [])) .nil))))
  (.cons (.asg (.nm 9) (.lc (.tup (.cons (.var 14) (.cons (.var 15) .nil))) (.tup [14, 15]) (.val (.var 6)) (.cmp .le (.var 14) (.var 3))))
  (.cons (.asg (.nm 10) (.lc (.var 15) (.tup [14, 15]) (.val (.var 9)) (.cmp .le (.call ix__law_apart (.cons (.var 14) (.cons (.var 3) .nil)) []) (.var 7))))
  (.cons (.ifs (.cmp .ne (.call ix_mean_by (.cons (.var 5) (.cons (.con (.str "a")) (.cons (.var 3) (.cons (.var 7) .nil)))) []) (.call ix__law_mean (.cons (.var 10) .nil) [])) (.cons (.ret (.con (.bl false)))
  .nil) .nil)
  (.cons (.asg (.nm 11) (.lst .nil))
  (.cons (.for_ (.nm 2) (.rng (.con (.int 1)) (.bin .add (.var 8) (.con (.int 1)))) (.cons (.ex (.bm .append (.var 11) (.cons (.call ix__law_mean (.cons (.lc (.var 15) (.tup [14, 15]) (.val (.var 9)) (.cmp .le (.call ix__law_apart (.cons (.var 14) (.cons (.bin .add (.var 3) (.var 2)) .nil)) []) (.var 7))) .nil) []) .nil)))
  .nil))
  (.cons (.ifs (.cmp .ne (.callk ix_looked_for (.cons (.var 5) (.cons (.con (.str "a")) (.cons (.var 3) (.cons (.var 8) .nil)))) (.var 7)) (.var 11)) (.cons (.ret (.con (.bl false)))
  .nil) .nil)
  (.cons (.ifs (.cmp .ne (.call ix_looked_for (.cons (.var 5) (.cons (.con (.str "a")) (.cons (.var 3) (.cons (.var 8) .nil)))) [(.int 7)]) (.callk ix_looked_for (.cons (.var 5) (.cons (.con (.str "a")) (.cons (.var 3) (.cons (.var 8) .nil)))) (.con (.int 7)))) (.cons (.ret (.con (.bl false)))
  .nil) .nil)
  (.cons (.asg (.tup [12, 13]) (.tup (.cons (.con .non) (.cons (.bi .dict (.cons (.var 9) .nil)) .nil))))
  (.cons (.for_ (.nm 14) (.val (.bi .sorted (.cons (.var 13) .nil))) (.cons (.asg (.nm 10) (.lc (.sub (.var 13) (.bin .add (.var 14) (.var 2))) (.nm 2) (.rng (.con (.int 0)) (.var 8)) (.cmp .in_ (.bin .add (.var 14) (.var 2)) (.var 13))))
  (.cons (.ifs (.and (.cmp .eq (.bi .len (.cons (.var 10) .nil)) (.var 8)) (.or (.cmp .is_ (.var 12) (.con .non)) (.cmp .lt (.bi .sum (.cons (.var 10) .nil)) (.sub (.var 12) (.con (.int 0)))))) (.cons (.asg (.nm 12) (.tup (.cons (.bi .sum (.cons (.var 10) .nil)) (.cons (.var 14) .nil))))
  .nil) .nil)
  .nil)))
  (.cons (.ifs (.not (.and (.cmp .eq (.call ix_driest (.cons (.var 5) (.cons (.con (.str "a")) (.cons (.var 3) (.cons (.var 8) .nil)))) []) (.var 12)) (.cmp .eq (.call ix_readings (.cons (.var 5) (.cons (.con (.str "zz")) .nil)) []) (.lst .nil)))) (.cons (.ret (.con (.bl false)))
  .nil) .nil)
  (.cons (.ret (.cmp .is_ (.call ix_driest (.cons (.var 5) (.cons (.con (.str "zz")) (.cons (.var 3) (.cons (.var 8) .nil)))) []) (.con .non)))
  .nil)))))))))))))))))
def df_law : MP.Df := ⟨16, 1, [], sl_law⟩
def dfs : List MP.Df := [df__wall, df_is_whole, df_look_whole, df_is_day, df_look_day, df_is_name, df_look_name, df_lowest, df_readings, df_mean_by, df_looked_for, df_near, df_driest, df_thing_of, df_in_force, df_deepness, df_World___init__, df_World_of, df_World_names, df_World_last, df_World_last_share, df_World_last_of, df_World_on_day, df__law_drawn, df__law_holds, df__law_holding, df__law_thing, df__law_counting, df__law_mean, df__law_apart, df_law]
def cls : List MP.Cl := [⟨[("of", ix_World_of), ("names", ix_World_names), ("last", ix_World_last), ("last_share", ix_World_last_share), ("last_of", ix_World_last_of), ("on_day", ix_World_on_day)], ix_World___init__⟩]
def cons : List (Str × Wv) := [("SMALL", (.str "abcdefghijklmnopqrstuvwxyz")), ("LAST_DAY", (.int 9999)), ("YEAR", (.int 365)), ("VOID", (.str "void")), ("MOST_DEEP", (.int 3))]
def Gp (S : List Int) : Pg := ⟨S, fun x => cons.lookup x, fun i => cls[i]?, fun i => dfs[i]?⟩
structure En (P : Program) (w : World) (K : PySem.W.Frag) (mg : Str → Option Value) (base : Heap) (A : Around) (Z : Zt) (G : Pg) (C C1 : Nat → List Wv → Mem → Out Wv) : Prop where
  fr : Frs mg
  c1_0 : CalG P w K mg base A Z (C ix_is_whole) "is_whole" []
  x_NoNumber : ExOk K mg "NoNumber" (Z.exc xi_NoNumber)
  g_LAST_DAY : ConOk mg Z G "LAST_DAY"
  c3_0 : CalG P w K mg base A Z (C ix_is_day) "is_day" []
  x_NoDay : ExOk K mg "NoDay" (Z.exc xi_NoDay)
  g_SMALL : ConOk mg Z G "SMALL"
  c5_0 : CalG P w K mg base A Z (C ix_is_name) "is_name" []
  x_NoName : ExOk K mg "NoName" (Z.exc xi_NoName)
  m_of_0 : MetOk P w K mg base A Z G C "of" []
  c6_0 : CalG P w K mg base A Z (C ix_look_name) "look_name" []
  c7_0 : CalG P w K mg base A Z (C ix_lowest) "lowest" []
  c8_0 : CalG P w K mg base A Z (C ix_readings) "readings" []
  g_YEAR : ConOk mg Z G "YEAR"
  c2_0 : CalG P w K mg base A Z (C ix_look_whole) "look_whole" []
  c4_0 : CalG P w K mg base A Z (C ix_look_day) "look_day" []
  c11_0 : CalG P w K mg base A Z (C ix_near) "near" []
  g_VOID : ConOk mg Z G "VOID"
  g_MOST_DEEP : ConOk mg Z G "MOST_DEEP"
  c15_0 : CalG P w K mg base A Z (C ix_deepness) "deepness" []
  a_kept : AtOk Z G "kept"
  a_rows : AtOk Z G "rows"
  c14_0 : CalG P w K mg base A Z (C ix_in_force) "in_force" []
  c13_0 : CalG P w K mg base A Z (C ix_thing_of) "thing_of" []
  c0_0 : CalG P w K mg base A Z (C ix__wall) "_wall" []
  c24_0 : CalG P w K mg base A Z (C ix__law_holds) "_law_holds" []
  c25_0 : CalG P w K mg base A Z (C ix__law_holding) "_law_holding" []
  c26_0 : CalG P w K mg base A Z (C ix__law_thing) "_law_thing" []
  c12_0 : CalG P w K mg base A Z (C ix_driest) "driest" []
  c10_1 : CalG P w K mg base A Z (C ix_looked_for) "looked_for" [(.int 7)]
  k10 : CalK P w K mg base A Z (C ix_looked_for) "looked_for" 4 "wide"
  c28_0 : CalG P w K mg base A Z (C ix__law_mean) "_law_mean" []
  c29_0 : CalG P w K mg base A Z (C ix__law_apart) "_law_apart" []
  c9_0 : CalG P w K mg base A Z (C ix_mean_by) "mean_by" []
  c23_0 : CalG P w K mg base A Z (C ix__law_drawn) "_law_drawn" []
  n_World : MakOk P w K mg base A Z G C1 "World" ci_World
  c27_0 : CalG P w K mg base A Z (C ix__law_counting) "_law_counting" []
def fuel : Nat := 1000000000
theorem at__wall (S : List Int) (k : Nat) (ws : List Wv) (M : Mem) : callN (Gp S) fuel (k + 1) ix__wall ws M = runD (Gp S) (callN (Gp S) fuel k) (callN (Gp S) fuel (k - 1)) fuel df__wall ws M := callN_succ (Gp S) fuel k ix__wall ws M
theorem at_is_whole (S : List Int) (k : Nat) (ws : List Wv) (M : Mem) : callN (Gp S) fuel (k + 1) ix_is_whole ws M = runD (Gp S) (callN (Gp S) fuel k) (callN (Gp S) fuel (k - 1)) fuel df_is_whole ws M := callN_succ (Gp S) fuel k ix_is_whole ws M
theorem at_look_whole (S : List Int) (k : Nat) (ws : List Wv) (M : Mem) : callN (Gp S) fuel (k + 1) ix_look_whole ws M = runD (Gp S) (callN (Gp S) fuel k) (callN (Gp S) fuel (k - 1)) fuel df_look_whole ws M := callN_succ (Gp S) fuel k ix_look_whole ws M
theorem at_is_day (S : List Int) (k : Nat) (ws : List Wv) (M : Mem) : callN (Gp S) fuel (k + 1) ix_is_day ws M = runD (Gp S) (callN (Gp S) fuel k) (callN (Gp S) fuel (k - 1)) fuel df_is_day ws M := callN_succ (Gp S) fuel k ix_is_day ws M
theorem at_look_day (S : List Int) (k : Nat) (ws : List Wv) (M : Mem) : callN (Gp S) fuel (k + 1) ix_look_day ws M = runD (Gp S) (callN (Gp S) fuel k) (callN (Gp S) fuel (k - 1)) fuel df_look_day ws M := callN_succ (Gp S) fuel k ix_look_day ws M
theorem at_is_name (S : List Int) (k : Nat) (ws : List Wv) (M : Mem) : callN (Gp S) fuel (k + 1) ix_is_name ws M = runD (Gp S) (callN (Gp S) fuel k) (callN (Gp S) fuel (k - 1)) fuel df_is_name ws M := callN_succ (Gp S) fuel k ix_is_name ws M
theorem at_look_name (S : List Int) (k : Nat) (ws : List Wv) (M : Mem) : callN (Gp S) fuel (k + 1) ix_look_name ws M = runD (Gp S) (callN (Gp S) fuel k) (callN (Gp S) fuel (k - 1)) fuel df_look_name ws M := callN_succ (Gp S) fuel k ix_look_name ws M
theorem at_lowest (S : List Int) (k : Nat) (ws : List Wv) (M : Mem) : callN (Gp S) fuel (k + 1) ix_lowest ws M = runD (Gp S) (callN (Gp S) fuel k) (callN (Gp S) fuel (k - 1)) fuel df_lowest ws M := callN_succ (Gp S) fuel k ix_lowest ws M
theorem at_readings (S : List Int) (k : Nat) (ws : List Wv) (M : Mem) : callN (Gp S) fuel (k + 1) ix_readings ws M = runD (Gp S) (callN (Gp S) fuel k) (callN (Gp S) fuel (k - 1)) fuel df_readings ws M := callN_succ (Gp S) fuel k ix_readings ws M
theorem at_mean_by (S : List Int) (k : Nat) (ws : List Wv) (M : Mem) : callN (Gp S) fuel (k + 1) ix_mean_by ws M = runD (Gp S) (callN (Gp S) fuel k) (callN (Gp S) fuel (k - 1)) fuel df_mean_by ws M := callN_succ (Gp S) fuel k ix_mean_by ws M
theorem at_looked_for (S : List Int) (k : Nat) (ws : List Wv) (M : Mem) : callN (Gp S) fuel (k + 1) ix_looked_for ws M = runD (Gp S) (callN (Gp S) fuel k) (callN (Gp S) fuel (k - 1)) fuel df_looked_for ws M := callN_succ (Gp S) fuel k ix_looked_for ws M
theorem at_near (S : List Int) (k : Nat) (ws : List Wv) (M : Mem) : callN (Gp S) fuel (k + 1) ix_near ws M = runD (Gp S) (callN (Gp S) fuel k) (callN (Gp S) fuel (k - 1)) fuel df_near ws M := callN_succ (Gp S) fuel k ix_near ws M
theorem at_driest (S : List Int) (k : Nat) (ws : List Wv) (M : Mem) : callN (Gp S) fuel (k + 1) ix_driest ws M = runD (Gp S) (callN (Gp S) fuel k) (callN (Gp S) fuel (k - 1)) fuel df_driest ws M := callN_succ (Gp S) fuel k ix_driest ws M
theorem at_thing_of (S : List Int) (k : Nat) (ws : List Wv) (M : Mem) : callN (Gp S) fuel (k + 1) ix_thing_of ws M = runD (Gp S) (callN (Gp S) fuel k) (callN (Gp S) fuel (k - 1)) fuel df_thing_of ws M := callN_succ (Gp S) fuel k ix_thing_of ws M
theorem at_in_force (S : List Int) (k : Nat) (ws : List Wv) (M : Mem) : callN (Gp S) fuel (k + 1) ix_in_force ws M = runD (Gp S) (callN (Gp S) fuel k) (callN (Gp S) fuel (k - 1)) fuel df_in_force ws M := callN_succ (Gp S) fuel k ix_in_force ws M
theorem at_deepness (S : List Int) (k : Nat) (ws : List Wv) (M : Mem) : callN (Gp S) fuel (k + 1) ix_deepness ws M = runD (Gp S) (callN (Gp S) fuel k) (callN (Gp S) fuel (k - 1)) fuel df_deepness ws M := callN_succ (Gp S) fuel k ix_deepness ws M
theorem at_World___init__ (S : List Int) (k : Nat) (ws : List Wv) (M : Mem) : callN (Gp S) fuel (k + 1) ix_World___init__ ws M = runD (Gp S) (callN (Gp S) fuel k) (callN (Gp S) fuel (k - 1)) fuel df_World___init__ ws M := callN_succ (Gp S) fuel k ix_World___init__ ws M
theorem at_World_of (S : List Int) (k : Nat) (ws : List Wv) (M : Mem) : callN (Gp S) fuel (k + 1) ix_World_of ws M = runD (Gp S) (callN (Gp S) fuel k) (callN (Gp S) fuel (k - 1)) fuel df_World_of ws M := callN_succ (Gp S) fuel k ix_World_of ws M
theorem at_World_names (S : List Int) (k : Nat) (ws : List Wv) (M : Mem) : callN (Gp S) fuel (k + 1) ix_World_names ws M = runD (Gp S) (callN (Gp S) fuel k) (callN (Gp S) fuel (k - 1)) fuel df_World_names ws M := callN_succ (Gp S) fuel k ix_World_names ws M
theorem at_World_last (S : List Int) (k : Nat) (ws : List Wv) (M : Mem) : callN (Gp S) fuel (k + 1) ix_World_last ws M = runD (Gp S) (callN (Gp S) fuel k) (callN (Gp S) fuel (k - 1)) fuel df_World_last ws M := callN_succ (Gp S) fuel k ix_World_last ws M
theorem at_World_last_share (S : List Int) (k : Nat) (ws : List Wv) (M : Mem) : callN (Gp S) fuel (k + 1) ix_World_last_share ws M = runD (Gp S) (callN (Gp S) fuel k) (callN (Gp S) fuel (k - 1)) fuel df_World_last_share ws M := callN_succ (Gp S) fuel k ix_World_last_share ws M
theorem at_World_last_of (S : List Int) (k : Nat) (ws : List Wv) (M : Mem) : callN (Gp S) fuel (k + 1) ix_World_last_of ws M = runD (Gp S) (callN (Gp S) fuel k) (callN (Gp S) fuel (k - 1)) fuel df_World_last_of ws M := callN_succ (Gp S) fuel k ix_World_last_of ws M
theorem at_World_on_day (S : List Int) (k : Nat) (ws : List Wv) (M : Mem) : callN (Gp S) fuel (k + 1) ix_World_on_day ws M = runD (Gp S) (callN (Gp S) fuel k) (callN (Gp S) fuel (k - 1)) fuel df_World_on_day ws M := callN_succ (Gp S) fuel k ix_World_on_day ws M
theorem at__law_drawn (S : List Int) (k : Nat) (ws : List Wv) (M : Mem) : callN (Gp S) fuel (k + 1) ix__law_drawn ws M = runD (Gp S) (callN (Gp S) fuel k) (callN (Gp S) fuel (k - 1)) fuel df__law_drawn ws M := callN_succ (Gp S) fuel k ix__law_drawn ws M
theorem at__law_holds (S : List Int) (k : Nat) (ws : List Wv) (M : Mem) : callN (Gp S) fuel (k + 1) ix__law_holds ws M = runD (Gp S) (callN (Gp S) fuel k) (callN (Gp S) fuel (k - 1)) fuel df__law_holds ws M := callN_succ (Gp S) fuel k ix__law_holds ws M
theorem at__law_holding (S : List Int) (k : Nat) (ws : List Wv) (M : Mem) : callN (Gp S) fuel (k + 1) ix__law_holding ws M = runD (Gp S) (callN (Gp S) fuel k) (callN (Gp S) fuel (k - 1)) fuel df__law_holding ws M := callN_succ (Gp S) fuel k ix__law_holding ws M
theorem at__law_thing (S : List Int) (k : Nat) (ws : List Wv) (M : Mem) : callN (Gp S) fuel (k + 1) ix__law_thing ws M = runD (Gp S) (callN (Gp S) fuel k) (callN (Gp S) fuel (k - 1)) fuel df__law_thing ws M := callN_succ (Gp S) fuel k ix__law_thing ws M
theorem at__law_counting (S : List Int) (k : Nat) (ws : List Wv) (M : Mem) : callN (Gp S) fuel (k + 1) ix__law_counting ws M = runD (Gp S) (callN (Gp S) fuel k) (callN (Gp S) fuel (k - 1)) fuel df__law_counting ws M := callN_succ (Gp S) fuel k ix__law_counting ws M
theorem at__law_mean (S : List Int) (k : Nat) (ws : List Wv) (M : Mem) : callN (Gp S) fuel (k + 1) ix__law_mean ws M = runD (Gp S) (callN (Gp S) fuel k) (callN (Gp S) fuel (k - 1)) fuel df__law_mean ws M := callN_succ (Gp S) fuel k ix__law_mean ws M
theorem at__law_apart (S : List Int) (k : Nat) (ws : List Wv) (M : Mem) : callN (Gp S) fuel (k + 1) ix__law_apart ws M = runD (Gp S) (callN (Gp S) fuel k) (callN (Gp S) fuel (k - 1)) fuel df__law_apart ws M := callN_succ (Gp S) fuel k ix__law_apart ws M
theorem at_law (S : List Int) (k : Nat) (ws : List Wv) (M : Mem) : callN (Gp S) fuel (k + 1) ix_law ws M = runD (Gp S) (callN (Gp S) fuel k) (callN (Gp S) fuel (k - 1)) fuel df_law ws M := callN_succ (Gp S) fuel k ix_law ws M
theorem con_SMALL (S : List Int) : (Gp S).con "SMALL" = some (.str "abcdefghijklmnopqrstuvwxyz") := by kernel_rfl
theorem con_LAST_DAY (S : List Int) : (Gp S).con "LAST_DAY" = some (.int 9999) := by kernel_rfl
theorem con_YEAR (S : List Int) : (Gp S).con "YEAR" = some (.int 365) := by kernel_rfl
theorem con_VOID (S : List Int) : (Gp S).con "VOID" = some (.str "void") := by kernel_rfl
theorem con_MOST_DEEP (S : List Int) : (Gp S).con "MOST_DEEP" = some (.int 3) := by kernel_rfl
theorem cls_World (S : List Int) : (Gp S).cls ci_World = some (cls.getD 0 ⟨[], 0⟩) := rfl
theorem new_World (S : List Int) (C1 : Nat → List Wv → Mem → Out Wv) (ws : List Wv) (M : Mem) : newW (Gp S) C1 ci_World ws M = (C1 ix_World___init__ (.ref M.length :: ws) (M ++ [.ins ci_World []])).bind fun w M' => .chk (decide (w = .non)) (.ok (.ref M.length) M') := rfl
theorem met_World_of {S : List Int} {M : Mem} {l : Nat} {fs : List (Str × Wv)} (h : M[l]? = some (.ins ci_World fs)) (hf : fs.lookup ("of" : Str) = none) : metW (Gp S) "of" (.ref l) M = some ix_World_of := by
  have e : (cls.getD 0 ⟨[], 0⟩).meths.lookup ("of" : Str) = some ix_World_of := by kernel_rfl
  simp only [metW, h, cls_World, Option.bind_some, e, hf, if_true]
theorem met_World_names {S : List Int} {M : Mem} {l : Nat} {fs : List (Str × Wv)} (h : M[l]? = some (.ins ci_World fs)) (hf : fs.lookup ("names" : Str) = none) : metW (Gp S) "names" (.ref l) M = some ix_World_names := by
  have e : (cls.getD 0 ⟨[], 0⟩).meths.lookup ("names" : Str) = some ix_World_names := by kernel_rfl
  simp only [metW, h, cls_World, Option.bind_some, e, hf, if_true]
theorem met_World_last {S : List Int} {M : Mem} {l : Nat} {fs : List (Str × Wv)} (h : M[l]? = some (.ins ci_World fs)) (hf : fs.lookup ("last" : Str) = none) : metW (Gp S) "last" (.ref l) M = some ix_World_last := by
  have e : (cls.getD 0 ⟨[], 0⟩).meths.lookup ("last" : Str) = some ix_World_last := by kernel_rfl
  simp only [metW, h, cls_World, Option.bind_some, e, hf, if_true]
theorem met_World_last_share {S : List Int} {M : Mem} {l : Nat} {fs : List (Str × Wv)} (h : M[l]? = some (.ins ci_World fs)) (hf : fs.lookup ("last_share" : Str) = none) : metW (Gp S) "last_share" (.ref l) M = some ix_World_last_share := by
  have e : (cls.getD 0 ⟨[], 0⟩).meths.lookup ("last_share" : Str) = some ix_World_last_share := by kernel_rfl
  simp only [metW, h, cls_World, Option.bind_some, e, hf, if_true]
theorem met_World_last_of {S : List Int} {M : Mem} {l : Nat} {fs : List (Str × Wv)} (h : M[l]? = some (.ins ci_World fs)) (hf : fs.lookup ("last_of" : Str) = none) : metW (Gp S) "last_of" (.ref l) M = some ix_World_last_of := by
  have e : (cls.getD 0 ⟨[], 0⟩).meths.lookup ("last_of" : Str) = some ix_World_last_of := by kernel_rfl
  simp only [metW, h, cls_World, Option.bind_some, e, hf, if_true]
theorem met_World_on_day {S : List Int} {M : Mem} {l : Nat} {fs : List (Str × Wv)} (h : M[l]? = some (.ins ci_World fs)) (hf : fs.lookup ("on_day" : Str) = none) : metW (Gp S) "on_day" (.ref l) M = some ix_World_on_day := by
  have e : (cls.getD 0 ⟨[], 0⟩).meths.lookup ("on_day" : Str) = some ix_World_on_day := by kernel_rfl
  simp only [metW, h, cls_World, Option.bind_some, e, hf, if_true]
section
variable {P : Program} {w : World} {K : PySem.W.Frag} {mg : Str → Option Value} {base : Heap} {Z : Zt} {Wx : Wish} {G : Pg} {C C1 : Nat → List Wv → Mem → Out Wv} {fu : Nat} {f : Addr} {cdv : Value} {A : Around} {outer : List Env} {s : Shared} {H : Hp} {E : XK}
abbrev X0 (P : Program) (w : World) (K : PySem.W.Frag) (mg : Str → Option Value) (base : Heap) (f : Addr) (cdv : Value) (A : Around) (outer : List Env) (s : Shared) (H : Hp) (E : XK) : Cx := cxOf (L2.CX P w) P w K mg base N0 "_wall" (defScope (top 0)) f cdv A outer s H E
theorem b0 (k : Bx (X0 P w K mg base f cdv A outer s H E) Z Wx G) (po : PassesOwn (model P w) (X0 P w K mg base f cdv A outer s H E).A (X0 P w K mg base f cdv A outer s H E).env (X0 P w K mg base f cdv A outer s H E).xe) (en : En P w K mg base (X0 P w K mg base f cdv A outer s H E).A Z G C C1) : PSs (X0 P w K mg base f cdv A outer s H E) (defBody (top 0)) (TSl Z Wx G C C1 fu sl__wall) :=
  (ss_cons (s_whl po (t_val k (e_bl true)) (ss_cons s_pass
  ss_nil))
  ss_nil)
abbrev X1 (P : Program) (w : World) (K : PySem.W.Frag) (mg : Str → Option Value) (base : Heap) (f : Addr) (cdv : Value) (A : Around) (outer : List Env) (s : Shared) (H : Hp) (E : XK) : Cx := cxOf (L2.CX P w) P w K mg base N1 "is_whole" (defScope (top 10)) f cdv A outer s H E
theorem b1 (k : Bx (X1 P w K mg base f cdv A outer s H E) Z Wx G) (po : PassesOwn (model P w) (X1 P w K mg base f cdv A outer s H E).A (X1 P w K mg base f cdv A outer s H E).env (X1 P w K mg base f cdv A outer s H E).xe) (en : En P w K mg base (X1 P w K mg base f cdv A outer s H E).A Z G C C1) : PSs (X1 P w K mg base f cdv A outer s H E) (defBody (top 10)) (TSl Z Wx G C C1 fu sl_is_whole) :=
  (ss_cons (s_ret (e_and k (e_isi k .int en.fr.isinstance en.fr.int (e_var 0)) (e_and k (e_not k (e_isi k .bool en.fr.isinstance en.fr.bool (e_var 0))) (e_one (e_cmp2 k .le .le (e_var 1) (e_var 0) (e_var 2))))))
  ss_nil)
abbrev X2 (P : Program) (w : World) (K : PySem.W.Frag) (mg : Str → Option Value) (base : Heap) (f : Addr) (cdv : Value) (A : Around) (outer : List Env) (s : Shared) (H : Hp) (E : XK) : Cx := cxOf (L2.CX P w) P w K mg base N2 "look_whole" (defScope (top 11)) f cdv A outer s H E
theorem b2 (k : Bx (X2 P w K mg base f cdv A outer s H E) Z Wx G) (po : PassesOwn (model P w) (X2 P w K mg base f cdv A outer s H E).A (X2 P w K mg base f cdv A outer s H E).env (X2 P w K mg base f cdv A outer s H E).xe) (en : En P w K mg base (X2 P w K mg base f cdv A outer s H E).A Z G C C1) : PSs (X2 P w K mg base f cdv A outer s H E) (defBody (top 11)) (TSl Z Wx G C C1 fu sl_look_whole) :=
  (ss_cons (s_if (t_not (t_val k (e_call k en.c1_0 (a_cons (e_var 0) (a_cons (e_var 1) (a_cons (e_var 2) a_nil)))))) (ss_cons (s_raise k xi_NoNumber en.x_NoNumber)
  ss_nil) ss_nil)
  ss_nil)
abbrev X3 (P : Program) (w : World) (K : PySem.W.Frag) (mg : Str → Option Value) (base : Heap) (f : Addr) (cdv : Value) (A : Around) (outer : List Env) (s : Shared) (H : Hp) (E : XK) : Cx := cxOf (L2.CX P w) P w K mg base N3 "is_day" (defScope (top 12)) f cdv A outer s H E
theorem b3 (k : Bx (X3 P w K mg base f cdv A outer s H E) Z Wx G) (po : PassesOwn (model P w) (X3 P w K mg base f cdv A outer s H E).A (X3 P w K mg base f cdv A outer s H E).env (X3 P w K mg base f cdv A outer s H E).xe) (en : En P w K mg base (X3 P w K mg base f cdv A outer s H E).A Z G C C1) : PSs (X3 P w K mg base f cdv A outer s H E) (defBody (top 12)) (TSl Z Wx G C C1 fu sl_is_day) :=
  (ss_cons (s_ret (e_call k en.c1_0 (a_cons (e_var 0) (a_cons (e_int 0) (a_cons (e_con en.g_LAST_DAY) a_nil)))))
  ss_nil)
abbrev X4 (P : Program) (w : World) (K : PySem.W.Frag) (mg : Str → Option Value) (base : Heap) (f : Addr) (cdv : Value) (A : Around) (outer : List Env) (s : Shared) (H : Hp) (E : XK) : Cx := cxOf (L2.CX P w) P w K mg base N4 "look_day" (defScope (top 13)) f cdv A outer s H E
theorem b4 (k : Bx (X4 P w K mg base f cdv A outer s H E) Z Wx G) (po : PassesOwn (model P w) (X4 P w K mg base f cdv A outer s H E).A (X4 P w K mg base f cdv A outer s H E).env (X4 P w K mg base f cdv A outer s H E).xe) (en : En P w K mg base (X4 P w K mg base f cdv A outer s H E).A Z G C C1) : PSs (X4 P w K mg base f cdv A outer s H E) (defBody (top 13)) (TSl Z Wx G C C1 fu sl_look_day) :=
  (ss_cons (s_if (t_not (t_val k (e_call k en.c3_0 (a_cons (e_var 0) a_nil)))) (ss_cons (s_raise k xi_NoDay en.x_NoDay)
  ss_nil) ss_nil)
  ss_nil)
abbrev X5 (P : Program) (w : World) (K : PySem.W.Frag) (mg : Str → Option Value) (base : Heap) (f : Addr) (cdv : Value) (A : Around) (outer : List Env) (s : Shared) (H : Hp) (E : XK) : Cx := cxOf (L2.CX P w) P w K mg base N5 "is_name" (defScope (top 14)) f cdv A outer s H E
theorem b5 (k : Bx (X5 P w K mg base f cdv A outer s H E) Z Wx G) (po : PassesOwn (model P w) (X5 P w K mg base f cdv A outer s H E).A (X5 P w K mg base f cdv A outer s H E).env (X5 P w K mg base f cdv A outer s H E).xe) (en : En P w K mg base (X5 P w K mg base f cdv A outer s H E).A Z G C C1) : PSs (X5 P w K mg base f cdv A outer s H E) (defBody (top 14)) (TSl Z Wx G C C1 fu sl_is_name) :=
  (ss_cons (s_ret (e_and k (e_isi k .str en.fr.isinstance en.fr.str (e_var 0)) (e_and k (e_cmp2 k .le .le (e_int 1) (e_bi k .len en.fr.len (a_cons (e_var 0) a_nil)) (e_int 8)) (e_one (e_bi k .all en.fr.all (a_cons (e_lc k (i_val k (e_var 0)) (blk_ok (own := [("sign", 1)]) (by kernel_rfl)) rfl (fun s1 h1 q1 l1 f1 => (g_nm (k.blk s1 h1 _ _ f1).nd _ 1)) (fun s1 h1 q1 l1 f1 => ifs_none) (fun s1 h1 q1 l1 f1 => (e_cmp (k.blk s1 h1 _ _ f1) .in_ (e_var 1) (e_con en.g_SMALL)))) a_nil))))))
  ss_nil)
abbrev X6 (P : Program) (w : World) (K : PySem.W.Frag) (mg : Str → Option Value) (base : Heap) (f : Addr) (cdv : Value) (A : Around) (outer : List Env) (s : Shared) (H : Hp) (E : XK) : Cx := cxOf (L2.CX P w) P w K mg base N6 "look_name" (defScope (top 15)) f cdv A outer s H E
theorem b6 (k : Bx (X6 P w K mg base f cdv A outer s H E) Z Wx G) (po : PassesOwn (model P w) (X6 P w K mg base f cdv A outer s H E).A (X6 P w K mg base f cdv A outer s H E).env (X6 P w K mg base f cdv A outer s H E).xe) (en : En P w K mg base (X6 P w K mg base f cdv A outer s H E).A Z G C C1) : PSs (X6 P w K mg base f cdv A outer s H E) (defBody (top 15)) (TSl Z Wx G C C1 fu sl_look_name) :=
  (ss_cons (s_if (t_not (t_val k (e_call k en.c5_0 (a_cons (e_var 0) a_nil)))) (ss_cons (s_raise k xi_NoName en.x_NoName)
  ss_nil) ss_nil)
  ss_nil)
abbrev X7 (P : Program) (w : World) (K : PySem.W.Frag) (mg : Str → Option Value) (base : Heap) (f : Addr) (cdv : Value) (A : Around) (outer : List Env) (s : Shared) (H : Hp) (E : XK) : Cx := cxOf (L2.CX P w) P w K mg base N7 "lowest" (defScope (top 17)) f cdv A outer s H E
theorem b7 (k : Bx (X7 P w K mg base f cdv A outer s H E) Z Wx G) (po : PassesOwn (model P w) (X7 P w K mg base f cdv A outer s H E).A (X7 P w K mg base f cdv A outer s H E).env (X7 P w K mg base f cdv A outer s H E).xe) (en : En P w K mg base (X7 P w K mg base f cdv A outer s H E).A Z G C C1) : PSs (X7 P w K mg base f cdv A outer s H E) (defBody (top 17)) (TSl Z Wx G C C1 fu sl_lowest) :=
  (ss_cons (s_par k 2 3 (a_cons (e_var 0) (a_cons (e_var 1) a_nil)))
  (ss_cons (s_whl po (t_cmp k .ne (e_var 3) (e_int 0)) (ss_cons (s_par k 2 3 (a_cons (e_var 3) (a_cons (e_bin k .mod (e_var 2) (e_var 3)) a_nil)))
  ss_nil))
  (ss_cons (s_ret (e_tup (a_cons (e_bin k .fdiv (e_var 0) (e_var 2)) (a_cons (e_bin k .fdiv (e_var 1) (e_var 2)) a_nil))))
  ss_nil)))
abbrev X8 (P : Program) (w : World) (K : PySem.W.Frag) (mg : Str → Option Value) (base : Heap) (f : Addr) (cdv : Value) (A : Around) (outer : List Env) (s : Shared) (H : Hp) (E : XK) : Cx := cxOf (L2.CX P w) P w K mg base N8 "readings" (defScope (top 18)) f cdv A outer s H E
theorem b8 (k : Bx (X8 P w K mg base f cdv A outer s H E) Z Wx G) (po : PassesOwn (model P w) (X8 P w K mg base f cdv A outer s H E).A (X8 P w K mg base f cdv A outer s H E).env (X8 P w K mg base f cdv A outer s H E).xe) (en : En P w K mg base (X8 P w K mg base f cdv A outer s H E).A Z G C C1) : PSs (X8 P w K mg base f cdv A outer s H E) (defBody (top 18)) (TSl Z Wx G C C1 fu sl_readings) :=
  (ss_cons (s_ex (e_call k en.c6_0 (a_cons (e_var 1) a_nil)))
  (ss_cons (s_ret (e_lc k (i_val k (e_meth k en.m_of_0 (e_var 0) (a_cons (e_str "read") (a_cons (e_var 1) a_nil)))) (blk_ok (own := [("truth", 2)]) (by kernel_rfl)) rfl (fun s1 h1 q1 l1 f1 => (g_nm (k.blk s1 h1 _ _ f1).nd _ 2)) (fun s1 h1 q1 l1 f1 => ifs_none) (fun s1 h1 q1 l1 f1 => (e_tup (a_cons (e_sub (k.blk s1 h1 _ _ f1) (e_var 2) (e_int 1)) (a_cons (e_sub (k.blk s1 h1 _ _ f1) (e_var 2) (e_int 3)) a_nil))))))
  ss_nil))
abbrev X9 (P : Program) (w : World) (K : PySem.W.Frag) (mg : Str → Option Value) (base : Heap) (f : Addr) (cdv : Value) (A : Around) (outer : List Env) (s : Shared) (H : Hp) (E : XK) : Cx := cxOf (L2.CX P w) P w K mg base N9 "mean_by" (defScope (top 19)) f cdv A outer s H E
theorem b9 (k : Bx (X9 P w K mg base f cdv A outer s H E) Z Wx G) (po : PassesOwn (model P w) (X9 P w K mg base f cdv A outer s H E).A (X9 P w K mg base f cdv A outer s H E).env (X9 P w K mg base f cdv A outer s H E).xe) (en : En P w K mg base (X9 P w K mg base f cdv A outer s H E).A Z G C C1) : PSs (X9 P w K mg base f cdv A outer s H E) (defBody (top 19)) (TSl Z Wx G C C1 fu sl_mean_by) :=
  (ss_cons (s_ex (e_call k en.c6_0 (a_cons (e_var 1) a_nil)))
  (ss_cons (s_ex (e_call k en.c4_0 (a_cons (e_var 2) a_nil)))
  (ss_cons (s_ex (e_call k en.c2_0 (a_cons (e_var 3) (a_cons (e_int 0) (a_cons (e_int 182) a_nil)))))
  (ss_cons (s_asg k (e_lst a_nil) (g_nm k.nd _ 4))
  (ss_cons (s_for k po (i_val k (e_call k en.c8_0 (a_cons (e_var 0) (a_cons (e_var 1) a_nil)))) (g_tup k.calm k.K (gs_cons k.nd 5 (gs_cons k.nd 6 gs_nil))) (ss_cons (s_asg k.lk (e_bi k.lk .abs en.fr.abs (a_cons (e_bin k.lk .sub (e_bin k.lk .mod (e_var 5) (e_con en.g_YEAR)) (e_bin k.lk .mod (e_var 2) (e_con en.g_YEAR))) a_nil)) (g_nm k.lk.nd _ 7))
  (ss_cons (s_if (t_w (t_and (t_cmp k.lk .le (e_var 5) (e_var 2)) (t_one (t_cmp k.lk .le (e_bi k.lk .min en.fr.min (a_cons (e_var 7) (a_cons (e_bin k.lk .sub (e_con en.g_YEAR) (e_var 7)) a_nil))) (e_var 3))))) (ss_cons (s_ex (e_bm k.lk .append (e_var 4) (a_cons (e_var 6) a_nil)))
  ss_nil) ss_nil)
  ss_nil)))
  (ss_cons (s_ret (e_ife (t_cmp k .ne (e_var 4) (e_lst a_nil)) (e_call k en.c7_0 (a_cons (e_bi k .sum en.fr.sum (a_cons (e_var 4) a_nil)) (a_cons (e_bi k .len en.fr.len (a_cons (e_var 4) a_nil)) a_nil))) e_non))
  ss_nil))))))
abbrev X10 (P : Program) (w : World) (K : PySem.W.Frag) (mg : Str → Option Value) (base : Heap) (f : Addr) (cdv : Value) (A : Around) (outer : List Env) (s : Shared) (H : Hp) (E : XK) : Cx := cxOf (L2.CX P w) P w K mg base N10 "looked_for" (defScope (top 20)) f cdv A outer s H E
theorem b10 (k : Bx (X10 P w K mg base f cdv A outer s H E) Z Wx G) (po : PassesOwn (model P w) (X10 P w K mg base f cdv A outer s H E).A (X10 P w K mg base f cdv A outer s H E).env (X10 P w K mg base f cdv A outer s H E).xe) (en : En P w K mg base (X10 P w K mg base f cdv A outer s H E).A Z G C C1) : PSs (X10 P w K mg base f cdv A outer s H E) (defBody (top 20)) (TSl Z Wx G C C1 fu sl_looked_for) :=
  (ss_cons (s_ex (e_call k en.c6_0 (a_cons (e_var 1) a_nil)))
  (ss_cons (s_ex (e_call k en.c4_0 (a_cons (e_var 2) a_nil)))
  (ss_cons (s_ex (e_call k en.c2_0 (a_cons (e_var 3) (a_cons (e_int 1) (a_cons (e_int 99) a_nil)))))
  (ss_cons (s_ex (e_call k en.c2_0 (a_cons (e_var 4) (a_cons (e_int 0) (a_cons (e_int 182) a_nil)))))
  (ss_cons (s_asg k (e_lst a_nil) (g_nm k.nd _ 5))
  (ss_cons (s_for k po (i_rng2 k en.fr.range (e_int 1) (e_bin k .add (e_var 3) (e_int 1))) (g_nm k.nd _ 6) (ss_cons (s_set (s_setLc k.lk (i := 7) (by kernel_rfl) (by rfl) (by rfl) (i_val k.lk (e_call k.lk en.c8_0 (a_cons (e_var 0) (a_cons (e_var 1) a_nil)))) (blk_ok (own := [("when", 9), ("amount", 10)]) (by kernel_rfl)) rfl (fun s2 h2 q2 l2 f2 => (g_tup (k.lk.blk s2 h2 _ _ f2).calm (k.lk.blk s2 h2 _ _ f2).K (gs_cons (k.lk.blk s2 h2 _ _ f2).nd 9 (gs_cons (k.lk.blk s2 h2 _ _ f2).nd 10 gs_nil)))) (fun s2 h2 q2 l2 f2 => (ifs_one (t_cmp (k.lk.blk s2 h2 _ _ f2) .le (e_var 9) (e_var 2)))) (fun s2 h2 q2 l2 f2 => (e_tup (a_cons (e_var 9) (a_cons (e_var 10) a_nil))))))
  (ss_cons (s_set (s_setLc k.lk (i := 8) (by kernel_rfl) (by rfl) (by rfl) (i_val k.lk (e_var 7)) (blk_ok (own := [("when", 9), ("amount", 10)]) (by kernel_rfl)) rfl (fun s1 h1 q1 l1 f1 => (g_tup (k.lk.blk s1 h1 _ _ f1).calm (k.lk.blk s1 h1 _ _ f1).K (gs_cons (k.lk.blk s1 h1 _ _ f1).nd 9 (gs_cons (k.lk.blk s1 h1 _ _ f1).nd 10 gs_nil)))) (fun s1 h1 q1 l1 f1 => (ifs_one (t_cmp (k.lk.blk s1 h1 _ _ f1) .le (e_call (k.lk.blk s1 h1 _ _ f1) en.c11_0 (a_cons (e_var 9) (a_cons (e_bin (k.lk.blk s1 h1 _ _ f1) .add (e_var 2) (e_var 6)) a_nil))) (e_var 4)))) (fun s1 h1 q1 l1 f1 => (e_var 10))))
  (ss_cons (s_ex (e_bm k.lk .append (e_var 5) (a_cons (e_ife (t_cmp k.lk .ne (e_var 8) (e_lst a_nil)) (e_call k.lk en.c7_0 (a_cons (e_bi k.lk .sum en.fr.sum (a_cons (e_var 8) a_nil)) (a_cons (e_bi k.lk .len en.fr.len (a_cons (e_var 8) a_nil)) a_nil))) e_non) a_nil)))
  ss_nil))))
  (ss_cons (s_ret (e_var 5))
  ss_nil)))))))
abbrev X11 (P : Program) (w : World) (K : PySem.W.Frag) (mg : Str → Option Value) (base : Heap) (f : Addr) (cdv : Value) (A : Around) (outer : List Env) (s : Shared) (H : Hp) (E : XK) : Cx := cxOf (L2.CX P w) P w K mg base N11 "near" (defScope (top 21)) f cdv A outer s H E
theorem b11 (k : Bx (X11 P w K mg base f cdv A outer s H E) Z Wx G) (po : PassesOwn (model P w) (X11 P w K mg base f cdv A outer s H E).A (X11 P w K mg base f cdv A outer s H E).env (X11 P w K mg base f cdv A outer s H E).xe) (en : En P w K mg base (X11 P w K mg base f cdv A outer s H E).A Z G C C1) : PSs (X11 P w K mg base f cdv A outer s H E) (defBody (top 21)) (TSl Z Wx G C C1 fu sl_near) :=
  (ss_cons (s_asg k (e_bi k .abs en.fr.abs (a_cons (e_bin k .sub (e_bin k .mod (e_var 0) (e_con en.g_YEAR)) (e_bin k .mod (e_var 1) (e_con en.g_YEAR))) a_nil)) (g_nm k.nd _ 2))
  (ss_cons (s_ret (e_bi k .min en.fr.min (a_cons (e_var 2) (a_cons (e_bin k .sub (e_con en.g_YEAR) (e_var 2)) a_nil))))
  ss_nil))
abbrev X12 (P : Program) (w : World) (K : PySem.W.Frag) (mg : Str → Option Value) (base : Heap) (f : Addr) (cdv : Value) (A : Around) (outer : List Env) (s : Shared) (H : Hp) (E : XK) : Cx := cxOf (L2.CX P w) P w K mg base N12 "driest" (defScope (top 22)) f cdv A outer s H E
theorem b12 (k : Bx (X12 P w K mg base f cdv A outer s H E) Z Wx G) (po : PassesOwn (model P w) (X12 P w K mg base f cdv A outer s H E).A (X12 P w K mg base f cdv A outer s H E).env (X12 P w K mg base f cdv A outer s H E).xe) (en : En P w K mg base (X12 P w K mg base f cdv A outer s H E).A Z G C C1) : PSs (X12 P w K mg base f cdv A outer s H E) (defBody (top 22)) (TSl Z Wx G C C1 fu sl_driest) :=
  (ss_cons (s_ex (e_call k en.c6_0 (a_cons (e_var 1) a_nil)))
  (ss_cons (s_ex (e_call k en.c4_0 (a_cons (e_var 2) a_nil)))
  (ss_cons (s_ex (e_call k en.c2_0 (a_cons (e_var 3) (a_cons (e_int 1) (a_cons (e_int 99) a_nil)))))
  (ss_cons (s_asg k (e_bi k .dict en.fr.dict (a_cons (e_lc k (i_val k (e_call k en.c8_0 (a_cons (e_var 0) (a_cons (e_var 1) a_nil)))) (blk_ok (own := [("when", 8), ("amount", 9)]) (by kernel_rfl)) rfl (fun s2 h2 q2 l2 f2 => (g_tup (k.blk s2 h2 _ _ f2).calm (k.blk s2 h2 _ _ f2).K (gs_cons (k.blk s2 h2 _ _ f2).nd 8 (gs_cons (k.blk s2 h2 _ _ f2).nd 9 gs_nil)))) (fun s2 h2 q2 l2 f2 => (ifs_one (t_cmp (k.blk s2 h2 _ _ f2) .le (e_var 8) (e_var 2)))) (fun s2 h2 q2 l2 f2 => (e_tup (a_cons (e_var 8) (a_cons (e_var 9) a_nil))))) a_nil)) (g_nm k.nd _ 4))
  (ss_cons (s_asg k e_non (g_nm k.nd _ 5))
  (ss_cons (s_for k po (i_val k (e_bi k .sorted en.fr.sorted (a_cons (e_var 4) a_nil))) (g_nm k.nd _ 6) (ss_cons (s_set (s_setLc k.lk (i := 7) (by kernel_rfl) (by rfl) (by rfl) (i_rng2 k.lk en.fr.range (e_var 6) (e_bin k.lk .add (e_var 6) (e_var 3))) (blk_ok (own := [("when", 8)]) (by kernel_rfl)) rfl (fun s1 h1 q1 l1 f1 => (g_nm (k.lk.blk s1 h1 _ _ f1).nd _ 8)) (fun s1 h1 q1 l1 f1 => (ifs_one (t_cmp (k.lk.blk s1 h1 _ _ f1) .in_ (e_var 8) (e_var 4)))) (fun s1 h1 q1 l1 f1 => (e_sub (k.lk.blk s1 h1 _ _ f1) (e_var 4) (e_var 8)))))
  (ss_cons (s_if (t_w (t_and (t_cmp k.lk .eq (e_bi k.lk .len en.fr.len (a_cons (e_var 7) a_nil)) (e_var 3)) (t_one (t_w (t_or (t_cmp k.lk .is_ (e_var 5) e_non) (t_one (t_cmp k.lk .lt (e_bi k.lk .sum en.fr.sum (a_cons (e_var 7) a_nil)) (e_sub k.lk (e_var 5) (e_int 0))))))))) (ss_cons (s_asg k.lk (e_tup (a_cons (e_bi k.lk .sum en.fr.sum (a_cons (e_var 7) a_nil)) (a_cons (e_var 6) a_nil))) (g_nm k.lk.nd _ 5))
  ss_nil) ss_nil)
  ss_nil)))
  (ss_cons (s_ret (e_var 5))
  ss_nil)))))))
abbrev X13 (P : Program) (w : World) (K : PySem.W.Frag) (mg : Str → Option Value) (base : Heap) (f : Addr) (cdv : Value) (A : Around) (outer : List Env) (s : Shared) (H : Hp) (E : XK) : Cx := cxOf (L2.CX P w) P w K mg base N13 "thing_of" (defScope (top 26)) f cdv A outer s H E
theorem b13 (k : Bx (X13 P w K mg base f cdv A outer s H E) Z Wx G) (po : PassesOwn (model P w) (X13 P w K mg base f cdv A outer s H E).A (X13 P w K mg base f cdv A outer s H E).env (X13 P w K mg base f cdv A outer s H E).xe) (en : En P w K mg base (X13 P w K mg base f cdv A outer s H E).A Z G C C1) : PSs (X13 P w K mg base f cdv A outer s H E) (defBody (top 26)) (TSl Z Wx G C C1 fu sl_thing_of) :=
  (ss_cons (s_if (t_cmp k .eq (e_sub k (e_var 0) (e_int 0)) (e_str "share")) (ss_cons (s_ret (e_tup (a_cons (e_sub k (e_var 0) (e_int 0)) (a_cons (e_sub k (e_var 0) (e_int 2)) (a_cons (e_sub k (e_var 0) (e_int 3)) a_nil)))))
  ss_nil) ss_nil)
  (ss_cons (s_ret (e_ife (t_cmp k .eq (e_sub k (e_var 0) (e_int 0)) (e_str "release")) (e_tup (a_cons (e_sub k (e_var 0) (e_int 0)) (a_cons (e_sub k (e_var 0) (e_int 2)) (a_cons (e_sub k (e_var 0) (e_int 3)) (a_cons (e_sub k (e_var 0) (e_int 4)) a_nil))))) (e_tup (a_cons (e_sub k (e_var 0) (e_int 0)) (a_cons (e_sub k (e_var 0) (e_int 2)) a_nil)))))
  ss_nil))
abbrev X14 (P : Program) (w : World) (K : PySem.W.Frag) (mg : Str → Option Value) (base : Heap) (f : Addr) (cdv : Value) (A : Around) (outer : List Env) (s : Shared) (H : Hp) (E : XK) : Cx := cxOf (L2.CX P w) P w K mg base N14 "in_force" (defScope (top 27)) f cdv A outer s H E
theorem b14 (k : Bx (X14 P w K mg base f cdv A outer s H E) Z Wx G) (po : PassesOwn (model P w) (X14 P w K mg base f cdv A outer s H E).A (X14 P w K mg base f cdv A outer s H E).env (X14 P w K mg base f cdv A outer s H E).xe) (en : En P w K mg base (X14 P w K mg base f cdv A outer s H E).A Z G C C1) : PSs (X14 P w K mg base f cdv A outer s H E) (defBody (top 27)) (TSl Z Wx G C C1 fu sl_in_force) :=
  (ss_cons (s_set (s_setDc k (i := 1) (by kernel_rfl) (by rfl) (by rfl) (i_val k (e_var 0)) (blk_ok (own := [("truth", 7)]) (by kernel_rfl)) rfl (fun s3 h3 q3 l3 f3 => (g_nm (k.blk s3 h3 _ _ f3).nd _ 7)) (fun s3 h3 q3 l3 f3 => ifs_none) (fun s3 h3 q3 l3 f3 => (e_var 7)) (fun s3 h3 q3 l3 f3 => (e_bl true))))
  (ss_cons (s_asg k (e_int 0) (g_nm k.nd _ 2))
  (ss_cons (s_asg k (e_lst (a_cons (e_bi k .list en.fr.list (a_cons (e_var 1) a_nil)) a_nil)) (g_nm k.nd _ 3))
  (ss_cons (s_whl po (t_cmp k .lt (e_var 2) (e_con en.g_MOST_DEEP)) (ss_cons (s_ex (e_bm k .append (e_var 3) (a_cons (e_lc k (i_val k (e_var 1)) (blk_ok (own := [("truth", 7)]) (by kernel_rfl)) rfl (fun s2 h2 q2 l2 f2 => (g_nm (k.blk s2 h2 _ _ f2).nd _ 7)) (fun s2 h2 q2 l2 f2 => (ifs_one (t_cmp (k.blk s2 h2 _ _ f2) .eq (e_call (k.blk s2 h2 _ _ f2) en.c15_0 (a_cons (e_var 7) a_nil)) (e_bin (k.blk s2 h2 _ _ f2) .add (e_var 2) (e_int 1))))) (fun s2 h2 q2 l2 f2 => (e_var 7))) a_nil)))
  (ss_cons (s_aug k 2 .add (e_int 1))
  ss_nil)))
  (ss_cons (s_asg k e_dict0 (g_nm k.nd _ 4))
  (ss_cons (s_for k po (i_val k (e_down k (e_var 3))) (g_nm k.nd _ 5) (ss_cons (s_for k.lk po (i_val k.lk (e_var 5)) (g_nm k.lk.nd _ 6) (ss_cons (s_if (t_cmp k.lk.lk .nin (e_var 6) (e_var 4)) (ss_cons (s_asgS k.lk.lk (e_var 4) (e_sub k.lk.lk (e_var 6) (e_int 1)) (e_bl true))
  ss_nil) ss_nil)
  ss_nil))
  ss_nil))
  (ss_cons (s_ret (e_lc k (i_val k (e_var 1)) (blk_ok (own := [("truth", 7)]) (by kernel_rfl)) rfl (fun s1 h1 q1 l1 f1 => (g_nm (k.blk s1 h1 _ _ f1).nd _ 7)) (fun s1 h1 q1 l1 f1 => (ifs_one (t_w (t_and (t_cmp (k.blk s1 h1 _ _ f1) .ne (e_sub (k.blk s1 h1 _ _ f1) (e_var 7) (e_int 0)) (e_con en.g_VOID)) (t_one (t_cmp (k.blk s1 h1 _ _ f1) .nin (e_var 7) (e_var 4))))))) (fun s1 h1 q1 l1 f1 => (e_var 7))))
  ss_nil)))))))
abbrev X15 (P : Program) (w : World) (K : PySem.W.Frag) (mg : Str → Option Value) (base : Heap) (f : Addr) (cdv : Value) (A : Around) (outer : List Env) (s : Shared) (H : Hp) (E : XK) : Cx := cxOf (L2.CX P w) P w K mg base N15 "deepness" (defScope (top 28)) f cdv A outer s H E
theorem b15 (k : Bx (X15 P w K mg base f cdv A outer s H E) Z Wx G) (po : PassesOwn (model P w) (X15 P w K mg base f cdv A outer s H E).A (X15 P w K mg base f cdv A outer s H E).env (X15 P w K mg base f cdv A outer s H E).xe) (en : En P w K mg base (X15 P w K mg base f cdv A outer s H E).A Z G C C1) : PSs (X15 P w K mg base f cdv A outer s H E) (defBody (top 28)) (TSl Z Wx G C C1 fu sl_deepness) :=
  (ss_cons (s_asg k (e_int 0) (g_nm k.nd _ 1))
  (ss_cons (s_whl po (t_cmp k .eq (e_sub k (e_var 0) (e_int 0)) (e_con en.g_VOID)) (ss_cons (s_asg k (e_sub k (e_var 0) (e_int 1)) (g_nm k.nd _ 0))
  (ss_cons (s_aug k 1 .add (e_int 1))
  ss_nil)))
  (ss_cons (s_ret (e_var 1))
  ss_nil)))
abbrev X16 (P : Program) (w : World) (K : PySem.W.Frag) (mg : Str → Option Value) (base : Heap) (f : Addr) (cdv : Value) (A : Around) (outer : List Env) (s : Shared) (H : Hp) (E : XK) : Cx := cxOf (L2.CX P w) P w K mg base N16 "World.__init__" (defScope (inClass (top 30) 0)) f cdv A outer s H E
theorem b16 (k : Bx (X16 P w K mg base f cdv A outer s H E) Z Wx G) (po : PassesOwn (model P w) (X16 P w K mg base f cdv A outer s H E).A (X16 P w K mg base f cdv A outer s H E).env (X16 P w K mg base f cdv A outer s H E).xe) (en : En P w K mg base (X16 P w K mg base f cdv A outer s H E).A Z G C C1) : PSs (X16 P w K mg base f cdv A outer s H E) (defBody (inClass (top 30) 0)) (TSl Z Wx G C C1 fu sl_World___init__) :=
  (ss_cons (s_asg k e_dict0 (g_nm k.nd _ 2))
  (ss_cons (s_for k po (i_val k (e_call k en.c14_0 (a_cons (e_var 1) a_nil))) (g_nm k.nd _ 3) (ss_cons (s_asg k.lk (e_tup (a_cons (e_call k.lk en.c13_0 (a_cons (e_var 3) a_nil)) (a_cons (e_sub k.lk (e_var 3) (e_int 1)) a_nil))) (g_nm k.lk.nd _ 4))
  (ss_cons (s_asgS k.lk (e_var 2) (e_var 4) (e_bi k.lk .max en.fr.max (a_cons (e_bm k.lk .get (e_var 2) (a_cons (e_var 4) (a_cons (e_var 3) a_nil))) (a_cons (e_var 3) a_nil))))
  ss_nil)))
  (ss_cons (s_asgA k en.a_rows (e_var 0) e_dict0)
  (ss_cons (s_for k po (i_val k (e_bi k .sorted en.fr.sorted (a_cons (e_var 2) a_nil))) (g_tup k.calm k.K (gs_cons k.nd 5 (gs_cons k.nd 6 gs_nil))) (ss_cons (s_asgS k.lk (e_attr k.lk en.a_rows (e_var 0)) (e_var 5) (e_bin k.lk .add (e_bm k.lk .get (e_attr k.lk en.a_rows (e_var 0)) (a_cons (e_var 5) (a_cons (e_lst a_nil) a_nil))) (e_lst (a_cons (e_sub k.lk (e_var 2) (e_tup (a_cons (e_var 5) (a_cons (e_var 6) a_nil)))) a_nil))))
  ss_nil))
  (ss_cons (s_asgA k en.a_kept (e_var 0) e_dict0)
  ss_nil)))))
abbrev X17 (P : Program) (w : World) (K : PySem.W.Frag) (mg : Str → Option Value) (base : Heap) (f : Addr) (cdv : Value) (A : Around) (outer : List Env) (s : Shared) (H : Hp) (E : XK) : Cx := cxOf (L2.CX P w) P w K mg base N17 "World.of" (defScope (inClass (top 30) 1)) f cdv A outer s H E
theorem b17 (k : Bx (X17 P w K mg base f cdv A outer s H E) Z Wx G) (po : PassesOwn (model P w) (X17 P w K mg base f cdv A outer s H E).A (X17 P w K mg base f cdv A outer s H E).env (X17 P w K mg base f cdv A outer s H E).xe) (en : En P w K mg base (X17 P w K mg base f cdv A outer s H E).A Z G C C1) (lm : LmOk (X17 P w K mg base f cdv A outer s H E) Z) (rd : (X17 P w K mg base f cdv A outer s H E).A.depth + 4 < recursionLimit) : PSs (X17 P w K mg base f cdv A outer s H E) (defBody (inClass (top 30) 1)) (TSl Z Wx G C C1 fu sl_World_of) :=
  (ss_cons (s_asg k (e_lst a_nil) (g_nm k.nd _ 3))
  (ss_cons (s_for k po (i_items k (e_attr k en.a_rows (e_var 0))) (g_tup k.calm k.K (gs_cons k.nd 4 (gs_cons k.nd 5 gs_nil))) (ss_cons (s_if (t_w (t_and (t_cmp k.lk .eq (e_sub k.lk (e_var 4) (e_int 0)) (e_var 1)) (t_one (t_cmp k.lk .in_ (e_var 2) (e_tup (a_cons e_non (a_cons (e_sub k.lk (e_var 4) (e_int 1)) a_nil))))))) (ss_cons (s_asg k.lk (e_bin k.lk .add (e_var 3) (e_var 5)) (g_nm k.lk.nd _ 3))
  ss_nil) ss_nil)
  ss_nil))
  (ss_cons (s_ret (e_sortk k lm rd en.fr.sorted (e_var 3) (kb_tup (kb_sub 1 (by decide) kb_v) kb_v)))
  ss_nil)))
abbrev X18 (P : Program) (w : World) (K : PySem.W.Frag) (mg : Str → Option Value) (base : Heap) (f : Addr) (cdv : Value) (A : Around) (outer : List Env) (s : Shared) (H : Hp) (E : XK) : Cx := cxOf (L2.CX P w) P w K mg base N18 "World.names" (defScope (inClass (top 30) 2)) f cdv A outer s H E
theorem b18 (k : Bx (X18 P w K mg base f cdv A outer s H E) Z Wx G) (po : PassesOwn (model P w) (X18 P w K mg base f cdv A outer s H E).A (X18 P w K mg base f cdv A outer s H E).env (X18 P w K mg base f cdv A outer s H E).xe) (en : En P w K mg base (X18 P w K mg base f cdv A outer s H E).A Z G C C1) : PSs (X18 P w K mg base f cdv A outer s H E) (defBody (inClass (top 30) 2)) (TSl Z Wx G C C1 fu sl_World_names) :=
  (ss_cons (s_asg k e_dict0 (g_nm k.nd _ 2))
  (ss_cons (s_for k po (i_val k (e_attr k en.a_rows (e_var 0))) (g_nm k.nd _ 3) (ss_cons (s_if (t_cmp k.lk .eq (e_sub k.lk (e_var 3) (e_int 0)) (e_var 1)) (ss_cons (s_asgS k.lk (e_var 2) (e_sub k.lk (e_var 3) (e_int 1)) (e_bl true))
  ss_nil) ss_nil)
  ss_nil))
  (ss_cons (s_ret (e_bi k .sorted en.fr.sorted (a_cons (e_var 2) a_nil)))
  ss_nil)))
abbrev X19 (P : Program) (w : World) (K : PySem.W.Frag) (mg : Str → Option Value) (base : Heap) (f : Addr) (cdv : Value) (A : Around) (outer : List Env) (s : Shared) (H : Hp) (E : XK) : Cx := cxOf (L2.CX P w) P w K mg base N19 "World.last" (defScope (inClass (top 30) 3)) f cdv A outer s H E
theorem b19 (k : Bx (X19 P w K mg base f cdv A outer s H E) Z Wx G) (po : PassesOwn (model P w) (X19 P w K mg base f cdv A outer s H E).A (X19 P w K mg base f cdv A outer s H E).env (X19 P w K mg base f cdv A outer s H E).xe) (en : En P w K mg base (X19 P w K mg base f cdv A outer s H E).A Z G C C1) : PSs (X19 P w K mg base f cdv A outer s H E) (defBody (inClass (top 30) 3)) (TSl Z Wx G C C1 fu sl_World_last) :=
  (ss_cons (s_ex (e_call k en.c0_0 (a_cons (e_int 0) a_nil)))
  ss_nil)
abbrev X20 (P : Program) (w : World) (K : PySem.W.Frag) (mg : Str → Option Value) (base : Heap) (f : Addr) (cdv : Value) (A : Around) (outer : List Env) (s : Shared) (H : Hp) (E : XK) : Cx := cxOf (L2.CX P w) P w K mg base N20 "World.last_share" (defScope (inClass (top 30) 4)) f cdv A outer s H E
theorem b20 (k : Bx (X20 P w K mg base f cdv A outer s H E) Z Wx G) (po : PassesOwn (model P w) (X20 P w K mg base f cdv A outer s H E).A (X20 P w K mg base f cdv A outer s H E).env (X20 P w K mg base f cdv A outer s H E).xe) (en : En P w K mg base (X20 P w K mg base f cdv A outer s H E).A Z G C C1) : PSs (X20 P w K mg base f cdv A outer s H E) (defBody (inClass (top 30) 4)) (TSl Z Wx G C C1 fu sl_World_last_share) :=
  (ss_cons (s_ex (e_call k en.c0_0 (a_cons (e_int 1) a_nil)))
  ss_nil)
abbrev X21 (P : Program) (w : World) (K : PySem.W.Frag) (mg : Str → Option Value) (base : Heap) (f : Addr) (cdv : Value) (A : Around) (outer : List Env) (s : Shared) (H : Hp) (E : XK) : Cx := cxOf (L2.CX P w) P w K mg base N21 "World.last_of" (defScope (inClass (top 30) 5)) f cdv A outer s H E
theorem b21 (k : Bx (X21 P w K mg base f cdv A outer s H E) Z Wx G) (po : PassesOwn (model P w) (X21 P w K mg base f cdv A outer s H E).A (X21 P w K mg base f cdv A outer s H E).env (X21 P w K mg base f cdv A outer s H E).xe) (en : En P w K mg base (X21 P w K mg base f cdv A outer s H E).A Z G C C1) : PSs (X21 P w K mg base f cdv A outer s H E) (defBody (inClass (top 30) 5)) (TSl Z Wx G C C1 fu sl_World_last_of) :=
  (ss_cons (s_ex (e_call k en.c0_0 (a_cons (e_int 2) a_nil)))
  ss_nil)
abbrev X22 (P : Program) (w : World) (K : PySem.W.Frag) (mg : Str → Option Value) (base : Heap) (f : Addr) (cdv : Value) (A : Around) (outer : List Env) (s : Shared) (H : Hp) (E : XK) : Cx := cxOf (L2.CX P w) P w K mg base N22 "World.on_day" (defScope (inClass (top 30) 6)) f cdv A outer s H E
theorem b22 (k : Bx (X22 P w K mg base f cdv A outer s H E) Z Wx G) (po : PassesOwn (model P w) (X22 P w K mg base f cdv A outer s H E).A (X22 P w K mg base f cdv A outer s H E).env (X22 P w K mg base f cdv A outer s H E).xe) (en : En P w K mg base (X22 P w K mg base f cdv A outer s H E).A Z G C C1) : PSs (X22 P w K mg base f cdv A outer s H E) (defBody (inClass (top 30) 6)) (TSl Z Wx G C C1 fu sl_World_on_day) :=
  (ss_cons (s_ex (e_call k en.c0_0 (a_cons (e_int 3) a_nil)))
  ss_nil)
abbrev X23 (P : Program) (w : World) (K : PySem.W.Frag) (mg : Str → Option Value) (base : Heap) (f : Addr) (cdv : Value) (A : Around) (outer : List Env) (s : Shared) (H : Hp) (E : XK) : Cx := cxOf (L2.CX P w) P w K mg base N23 "_law_drawn" (defScope (top 32)) f cdv A outer s H E
theorem b23 (k : Bx (X23 P w K mg base f cdv A outer s H E) Z Wx G) (po : PassesOwn (model P w) (X23 P w K mg base f cdv A outer s H E).A (X23 P w K mg base f cdv A outer s H E).env (X23 P w K mg base f cdv A outer s H E).xe) (en : En P w K mg base (X23 P w K mg base f cdv A outer s H E).A Z G C C1) : PSs (X23 P w K mg base f cdv A outer s H E) (defBody (top 32)) (TSl Z Wx G C C1 fu sl__law_drawn) :=
  (ss_cons (s_asg k (e_bin k .mul (e_int 7) (e_var 1)) (g_nm k.nd _ 3))
  (ss_cons (s_if (t_cmp k .ne (e_var 0) (e_lst a_nil)) (ss_cons (s_asg k (e_sub k (e_var 0) (e_bin k .mod (e_var 1) (e_bi k .len en.fr.len (a_cons (e_var 0) a_nil)))) (g_nm k.nd _ 3))
  (ss_cons (s_asg k (e_bin k .fdiv (e_var 1) (e_bi k .len en.fr.len (a_cons (e_var 0) a_nil))) (g_nm k.nd _ 4))
  (ss_cons (s_if (t_w (t_and (t_cmp k .ge (e_var 3) (e_bin k .pow (e_int 10) (e_int 18))) (t_one (t_cmp k .lt (e_var 4) (e_int 60))))) (ss_cons (s_asg k (e_bin k .fdiv (e_var 3) (e_bin k .pow (e_int 10) (e_int 18))) (g_nm k.nd _ 5))
  (ss_cons (s_whl po (t_w (t_and (t_cmp k .gt (e_var 5) (e_int 0)) (t_one (t_cmp k .gt (e_var 4) (e_int 0))))) (ss_cons (s_asg k (e_bin k .fdiv (e_var 5) (e_int 1000000)) (g_nm k.nd _ 5))
  (ss_cons (s_asg k (e_bin k .sub (e_var 4) (e_int 1)) (g_nm k.nd _ 4))
  ss_nil)))
  (ss_cons (s_if (t_cmp k .gt (e_var 5) (e_int 0)) (ss_cons (s_ret (e_bin k .mod (e_bin k .mod (e_var 5) (e_int 1000000)) (e_var 2)))
  ss_nil) ss_nil)
  ss_nil))) ss_nil)
  (ss_cons (s_asg k (e_bin k .add (e_var 3) (e_bin k .mul (e_int 6553) (e_bin k .fdiv (e_var 1) (e_bi k .len en.fr.len (a_cons (e_var 0) a_nil))))) (g_nm k.nd _ 3))
  ss_nil)))) ss_nil)
  (ss_cons (s_asg k (e_bin k .mod (e_bin k .add (e_bin k .mul (e_bin k .mod (e_var 3) (e_int 2147483563)) (e_int 69069)) (e_bin k .mul (e_int 104723) (e_bin k .add (e_var 1) (e_int 1)))) (e_int 2147483563)) (g_nm k.nd _ 3))
  (ss_cons (s_asg k (e_bin k .mod (e_bin k .add (e_bin k .mul (e_var 3) (e_var 3)) (e_bin k .fdiv (e_var 3) (e_int 3))) (e_int 2147483399)) (g_nm k.nd _ 3))
  (ss_cons (s_ret (e_bin k .mod (e_bin k .fdiv (e_bin k .mod (e_bin k .add (e_bin k .mul (e_var 3) (e_var 3)) (e_bin k .fdiv (e_var 3) (e_int 7))) (e_int 2147483647)) (e_int 11)) (e_var 2)))
  ss_nil)))))
abbrev X24 (P : Program) (w : World) (K : PySem.W.Frag) (mg : Str → Option Value) (base : Heap) (f : Addr) (cdv : Value) (A : Around) (outer : List Env) (s : Shared) (H : Hp) (E : XK) : Cx := cxOf (L2.CX P w) P w K mg base N24 "_law_holds" (defScope (top 33)) f cdv A outer s H E
theorem b24 (k : Bx (X24 P w K mg base f cdv A outer s H E) Z Wx G) (po : PassesOwn (model P w) (X24 P w K mg base f cdv A outer s H E).A (X24 P w K mg base f cdv A outer s H E).env (X24 P w K mg base f cdv A outer s H E).xe) (en : En P w K mg base (X24 P w K mg base f cdv A outer s H E).A Z G C C1) : PSs (X24 P w K mg base f cdv A outer s H E) (defBody (top 33)) (TSl Z Wx G C C1 fu sl__law_holds) :=
  (ss_cons (s_ret (e_cmp k .eq (e_lc k (i_val k (e_var 1)) (blk_ok (own := [("one", 2)]) (by kernel_rfl)) rfl (fun s1 h1 q1 l1 f1 => (g_nm (k.blk s1 h1 _ _ f1).nd _ 2)) (fun s1 h1 q1 l1 f1 => (ifs_one (t_w (t_and (t_cmp (k.blk s1 h1 _ _ f1) .eq (e_var 2) (e_tup (a_cons (e_str "void") (a_cons (e_var 0) a_nil)))) (t_one (t_val (k.blk s1 h1 _ _ f1) (e_call (k.blk s1 h1 _ _ f1) en.c24_0 (a_cons (e_var 2) (a_cons (e_var 1) a_nil))))))))) (fun s1 h1 q1 l1 f1 => (e_var 2))) (e_lst a_nil)))
  ss_nil)
abbrev X25 (P : Program) (w : World) (K : PySem.W.Frag) (mg : Str → Option Value) (base : Heap) (f : Addr) (cdv : Value) (A : Around) (outer : List Env) (s : Shared) (H : Hp) (E : XK) : Cx := cxOf (L2.CX P w) P w K mg base N25 "_law_holding" (defScope (top 34)) f cdv A outer s H E
theorem b25 (k : Bx (X25 P w K mg base f cdv A outer s H E) Z Wx G) (po : PassesOwn (model P w) (X25 P w K mg base f cdv A outer s H E).A (X25 P w K mg base f cdv A outer s H E).env (X25 P w K mg base f cdv A outer s H E).xe) (en : En P w K mg base (X25 P w K mg base f cdv A outer s H E).A Z G C C1) : PSs (X25 P w K mg base f cdv A outer s H E) (defBody (top 34)) (TSl Z Wx G C C1 fu sl__law_holding) :=
  (ss_cons (s_asg k (e_lst a_nil) (g_nm k.nd _ 1))
  (ss_cons (s_for k po (i_val k (e_var 0)) (g_nm k.nd _ 2) (ss_cons (s_if (t_w (t_and (t_cmp k.lk .ne (e_sub k.lk (e_var 2) (e_int 0)) (e_str "void")) (t_and (t_cmp k.lk .nin (e_var 2) (e_var 1)) (t_one (t_val k.lk (e_call k.lk en.c24_0 (a_cons (e_var 2) (a_cons (e_var 0) a_nil)))))))) (ss_cons (s_ex (e_bm k.lk .append (e_var 1) (a_cons (e_var 2) a_nil)))
  ss_nil) ss_nil)
  ss_nil))
  (ss_cons (s_ret (e_var 1))
  ss_nil)))
abbrev X26 (P : Program) (w : World) (K : PySem.W.Frag) (mg : Str → Option Value) (base : Heap) (f : Addr) (cdv : Value) (A : Around) (outer : List Env) (s : Shared) (H : Hp) (E : XK) : Cx := cxOf (L2.CX P w) P w K mg base N26 "_law_thing" (defScope (top 35)) f cdv A outer s H E
theorem b26 (k : Bx (X26 P w K mg base f cdv A outer s H E) Z Wx G) (po : PassesOwn (model P w) (X26 P w K mg base f cdv A outer s H E).A (X26 P w K mg base f cdv A outer s H E).env (X26 P w K mg base f cdv A outer s H E).xe) (en : En P w K mg base (X26 P w K mg base f cdv A outer s H E).A Z G C C1) : PSs (X26 P w K mg base f cdv A outer s H E) (defBody (top 35)) (TSl Z Wx G C C1 fu sl__law_thing) :=
  (ss_cons (s_asg k (e_bm k .get (e_dict2 k) (a_cons (e_sub k (e_var 0) (e_int 0)) (a_cons (e_int 3) a_nil))) (g_nm k.nd _ 1))
  (ss_cons (s_ret (e_bin k .add (e_slc k (e_var 0) o_no (o_some (e_int 1))) (e_slc k (e_var 0) (o_some (e_int 2)) (o_some (e_var 1)))))
  ss_nil))
abbrev X27 (P : Program) (w : World) (K : PySem.W.Frag) (mg : Str → Option Value) (base : Heap) (f : Addr) (cdv : Value) (A : Around) (outer : List Env) (s : Shared) (H : Hp) (E : XK) : Cx := cxOf (L2.CX P w) P w K mg base N27 "_law_counting" (defScope (top 36)) f cdv A outer s H E
theorem b27 (k : Bx (X27 P w K mg base f cdv A outer s H E) Z Wx G) (po : PassesOwn (model P w) (X27 P w K mg base f cdv A outer s H E).A (X27 P w K mg base f cdv A outer s H E).env (X27 P w K mg base f cdv A outer s H E).xe) (en : En P w K mg base (X27 P w K mg base f cdv A outer s H E).A Z G C C1) (lm : LmOk (X27 P w K mg base f cdv A outer s H E) Z) (rd : (X27 P w K mg base f cdv A outer s H E).A.depth + 4 < recursionLimit) : PSs (X27 P w K mg base f cdv A outer s H E) (defBody (top 36)) (TSl Z Wx G C C1 fu sl__law_counting) :=
  (ss_cons (s_asg k e_dict0 (g_nm k.nd _ 1))
  (ss_cons (s_for k po (i_val k (e_call k en.c25_0 (a_cons (e_var 0) a_nil))) (g_nm k.nd _ 2) (ss_cons (s_asg k.lk (e_tup (a_cons (e_call k.lk en.c26_0 (a_cons (e_var 2) a_nil)) (a_cons (e_sub k.lk (e_var 2) (e_int 1)) a_nil))) (g_nm k.lk.nd _ 3))
  (ss_cons (s_asgS k.lk (e_var 1) (e_var 3) (e_bi k.lk .max en.fr.max (a_cons (e_bm k.lk .get (e_var 1) (a_cons (e_var 3) (a_cons (e_var 2) a_nil))) (a_cons (e_var 2) a_nil))))
  ss_nil)))
  (ss_cons (s_ret (e_sortv k lm rd en.fr.sorted (e_var 1) (kb_tup (kb_sub 1 (by decide) kb_v) kb_v)))
  ss_nil)))
abbrev X28 (P : Program) (w : World) (K : PySem.W.Frag) (mg : Str → Option Value) (base : Heap) (f : Addr) (cdv : Value) (A : Around) (outer : List Env) (s : Shared) (H : Hp) (E : XK) : Cx := cxOf (L2.CX P w) P w K mg base N28 "_law_mean" (defScope (top 37)) f cdv A outer s H E
theorem b28 (k : Bx (X28 P w K mg base f cdv A outer s H E) Z Wx G) (po : PassesOwn (model P w) (X28 P w K mg base f cdv A outer s H E).A (X28 P w K mg base f cdv A outer s H E).env (X28 P w K mg base f cdv A outer s H E).xe) (en : En P w K mg base (X28 P w K mg base f cdv A outer s H E).A Z G C C1) : PSs (X28 P w K mg base f cdv A outer s H E) (defBody (top 37)) (TSl Z Wx G C C1 fu sl__law_mean) :=
  (ss_cons (s_if (t_cmp k .eq (e_var 0) (e_lst a_nil)) (ss_cons (s_ret e_non)
  ss_nil) ss_nil)
  (ss_cons (s_par k 1 2 (a_cons (e_bi k .sum en.fr.sum (a_cons (e_var 0) a_nil)) (a_cons (e_bi k .len en.fr.len (a_cons (e_var 0) a_nil)) a_nil)))
  (ss_cons (s_for k po (i_rng2 k en.fr.range (e_int 2) (e_bin k .add (e_var 2) (e_int 1))) (g_nm k.nd _ 3) (ss_cons (s_whl po (t_w (t_and (t_cmp k.lk .eq (e_bin k.lk .mod (e_var 1) (e_var 3)) (e_int 0)) (t_one (t_cmp k.lk .eq (e_bin k.lk .mod (e_var 2) (e_var 3)) (e_int 0))))) (ss_cons (s_par k.lk 1 2 (a_cons (e_bin k.lk .fdiv (e_var 1) (e_var 3)) (a_cons (e_bin k.lk .fdiv (e_var 2) (e_var 3)) a_nil)))
  ss_nil))
  ss_nil))
  (ss_cons (s_ret (e_tup (a_cons (e_var 1) (a_cons (e_var 2) a_nil))))
  ss_nil))))
abbrev X29 (P : Program) (w : World) (K : PySem.W.Frag) (mg : Str → Option Value) (base : Heap) (f : Addr) (cdv : Value) (A : Around) (outer : List Env) (s : Shared) (H : Hp) (E : XK) : Cx := cxOf (L2.CX P w) P w K mg base N29 "_law_apart" (defScope (top 38)) f cdv A outer s H E
theorem b29 (k : Bx (X29 P w K mg base f cdv A outer s H E) Z Wx G) (po : PassesOwn (model P w) (X29 P w K mg base f cdv A outer s H E).A (X29 P w K mg base f cdv A outer s H E).env (X29 P w K mg base f cdv A outer s H E).xe) (en : En P w K mg base (X29 P w K mg base f cdv A outer s H E).A Z G C C1) : PSs (X29 P w K mg base f cdv A outer s H E) (defBody (top 38)) (TSl Z Wx G C C1 fu sl__law_apart) :=
  (ss_cons (s_asg k (e_bi k .abs en.fr.abs (a_cons (e_bin k .sub (e_bin k .mod (e_var 0) (e_int 365)) (e_bin k .mod (e_var 1) (e_int 365))) a_nil)) (g_nm k.nd _ 2))
  (ss_cons (s_ret (e_bi k .min en.fr.min (a_cons (e_var 2) (a_cons (e_bin k .sub (e_int 365) (e_var 2)) a_nil))))
  ss_nil))
abbrev X30 (P : Program) (w : World) (K : PySem.W.Frag) (mg : Str → Option Value) (base : Heap) (f : Addr) (cdv : Value) (A : Around) (outer : List Env) (s : Shared) (H : Hp) (E : XK) : Cx := cxOf (L2.CX P w) P w K mg base N30 "law" (defScope (top 39)) f cdv A outer s H E
theorem b30 (k : Bx (X30 P w K mg base f cdv A outer s H E) Z Wx G) (po : PassesOwn (model P w) (X30 P w K mg base f cdv A outer s H E).A (X30 P w K mg base f cdv A outer s H E).env (X30 P w K mg base f cdv A outer s H E).xe) (en : En P w K mg base (X30 P w K mg base f cdv A outer s H E).A Z G C C1) : PSs (X30 P w K mg base f cdv A outer s H E) (defBody (top 39)) (TSl Z Wx G C C1 fu sl_law) :=
  (ss_cons (s_asg k (e_lst a_nil) (g_nm k.nd _ 1))
  (ss_cons (s_for k po (i_rng1 k en.fr.range (e_call k en.c23_0 (a_cons (e_var 0) (a_cons (e_int 0) (a_cons (e_int 24) a_nil))))) (g_nm k.nd _ 2) (ss_cons (s_asg k.lk (e_bin k.lk .add (e_sub k.lk (e_lst (a_cons (e_int 0) (a_cons (e_int 360) (a_cons (e_int 365) (a_cons (e_int 730) a_nil))))) (e_call k.lk en.c23_0 (a_cons (e_var 0) (a_cons (e_bin k.lk .add (e_int 10) (e_bin k.lk .mul (e_int 4) (e_var 2))) (a_cons (e_int 4) a_nil))))) (e_call k.lk en.c23_0 (a_cons (e_var 0) (a_cons (e_bin k.lk .add (e_int 11) (e_bin k.lk .mul (e_int 4) (e_var 2))) (a_cons (e_int 14) a_nil))))) (g_nm k.lk.nd _ 3))
  (ss_cons (s_asg k.lk (e_tup (a_cons (e_str "read") (a_cons (e_var 3) (a_cons (e_sub k.lk (e_str "ab") (e_call k.lk en.c23_0 (a_cons (e_var 0) (a_cons (e_bin k.lk .add (e_int 12) (e_bin k.lk .mul (e_int 4) (e_var 2))) (a_cons (e_int 2) a_nil))))) (a_cons (e_call k.lk en.c23_0 (a_cons (e_var 0) (a_cons (e_bin k.lk .add (e_int 13) (e_bin k.lk .mul (e_int 4) (e_var 2))) (a_cons (e_int 40) a_nil)))) a_nil))))) (g_nm k.lk.nd _ 4))
  (ss_cons (s_ex (e_bm k.lk .append (e_var 1) (a_cons (e_var 4) a_nil)))
  (ss_cons (s_if (t_cmp k.lk .eq (e_call k.lk en.c23_0 (a_cons (e_var 0) (a_cons (e_bin k.lk .add (e_int 120) (e_var 2)) (a_cons (e_int 6) a_nil)))) (e_int 0)) (ss_cons (s_ex (e_bm k.lk .append (e_var 1) (a_cons (e_tup (a_cons (e_str "void") (a_cons (e_var 4) a_nil))) a_nil)))
  ss_nil) ss_nil)
  ss_nil)))))
  (ss_cons (s_par k 5 6 (a_cons (e_new k en.n_World (a_cons (e_var 1) a_nil)) (a_cons (e_lc k (i_val k (e_call k en.c27_0 (a_cons (e_var 1) a_nil))) (blk_ok (own := [("truth", 4)]) (by kernel_rfl)) rfl (fun s5 h5 q5 l5 f5 => (g_nm (k.blk s5 h5 _ _ f5).nd _ 4)) (fun s5 h5 q5 l5 f5 => (ifs_one (t_cmp (k.blk s5 h5 _ _ f5) .eq (e_sub (k.blk s5 h5 _ _ f5) (e_var 4) (e_int 2)) (e_str "a")))) (fun s5 h5 q5 l5 f5 => (e_tup (a_cons (e_sub (k.blk s5 h5 _ _ f5) (e_var 4) (e_int 1)) (a_cons (e_sub (k.blk s5 h5 _ _ f5) (e_var 4) (e_int 3)) a_nil))))) a_nil)))
  (ss_cons (s_if (t_cmp k .ne (e_call k en.c8_0 (a_cons (e_var 5) (a_cons (e_str "a") a_nil))) (e_var 6)) (ss_cons (s_ret (e_bl false))
  ss_nil) ss_nil)
  (ss_cons (s_asg k (e_bin k .add (e_sub k (e_lst (a_cons (e_int 5) (a_cons (e_int 366) (a_cons (e_int 800) a_nil)))) (e_call k en.c23_0 (a_cons (e_var 0) (a_cons (e_int 1) (a_cons (e_int 3) a_nil))))) (e_call k en.c23_0 (a_cons (e_var 0) (a_cons (e_int 2) (a_cons (e_int 12) a_nil))))) (g_nm k.nd _ 3))
  (ss_cons (s_asg k (e_tup (a_cons (e_call k en.c23_0 (a_cons (e_var 0) (a_cons (e_int 3) (a_cons (e_int 12) a_nil)))) (a_cons (e_bin k .add (e_int 1) (e_call k en.c23_0 (a_cons (e_var 0) (a_cons (e_int 4) (a_cons (e_int 4) a_nil))))) a_nil))) (g_tup k.calm k.K (gs_cons k.nd 7 (gs_cons k.nd 8 gs_nil))))
  (ss_cons (s_set (s_setLc k (i := 9) (by kernel_rfl) (by rfl) (by rfl) (i_val k (e_var 6)) (blk_ok (own := [("when", 14), ("amount", 15)]) (by kernel_rfl)) rfl (fun s4 h4 q4 l4 f4 => (g_tup (k.blk s4 h4 _ _ f4).calm (k.blk s4 h4 _ _ f4).K (gs_cons (k.blk s4 h4 _ _ f4).nd 14 (gs_cons (k.blk s4 h4 _ _ f4).nd 15 gs_nil)))) (fun s4 h4 q4 l4 f4 => (ifs_one (t_cmp (k.blk s4 h4 _ _ f4) .le (e_var 14) (e_var 3)))) (fun s4 h4 q4 l4 f4 => (e_tup (a_cons (e_var 14) (a_cons (e_var 15) a_nil))))))
  (ss_cons (s_set (s_setLc k (i := 10) (by kernel_rfl) (by rfl) (by rfl) (i_val k (e_var 9)) (blk_ok (own := [("when", 14), ("amount", 15)]) (by kernel_rfl)) rfl (fun s3 h3 q3 l3 f3 => (g_tup (k.blk s3 h3 _ _ f3).calm (k.blk s3 h3 _ _ f3).K (gs_cons (k.blk s3 h3 _ _ f3).nd 14 (gs_cons (k.blk s3 h3 _ _ f3).nd 15 gs_nil)))) (fun s3 h3 q3 l3 f3 => (ifs_one (t_cmp (k.blk s3 h3 _ _ f3) .le (e_call (k.blk s3 h3 _ _ f3) en.c29_0 (a_cons (e_var 14) (a_cons (e_var 3) a_nil))) (e_var 7)))) (fun s3 h3 q3 l3 f3 => (e_var 15))))
  (ss_cons (s_if (t_cmp k .ne (e_call k en.c9_0 (a_cons (e_var 5) (a_cons (e_str "a") (a_cons (e_var 3) (a_cons (e_var 7) a_nil))))) (e_call k en.c28_0 (a_cons (e_var 10) a_nil))) (ss_cons (s_ret (e_bl false))
  ss_nil) ss_nil)
  (ss_cons (s_asg k (e_lst a_nil) (g_nm k.nd _ 11))
  (ss_cons (s_for k po (i_rng2 k en.fr.range (e_int 1) (e_bin k .add (e_var 8) (e_int 1))) (g_nm k.nd _ 2) (ss_cons (s_ex (e_bm k.lk .append (e_var 11) (a_cons (e_call k.lk en.c28_0 (a_cons (e_lc k.lk (i_val k.lk (e_var 9)) (blk_ok (own := [("when", 14), ("amount", 15)]) (by kernel_rfl)) rfl (fun s2 h2 q2 l2 f2 => (g_tup (k.lk.blk s2 h2 _ _ f2).calm (k.lk.blk s2 h2 _ _ f2).K (gs_cons (k.lk.blk s2 h2 _ _ f2).nd 14 (gs_cons (k.lk.blk s2 h2 _ _ f2).nd 15 gs_nil)))) (fun s2 h2 q2 l2 f2 => (ifs_one (t_cmp (k.lk.blk s2 h2 _ _ f2) .le (e_call (k.lk.blk s2 h2 _ _ f2) en.c29_0 (a_cons (e_var 14) (a_cons (e_bin (k.lk.blk s2 h2 _ _ f2) .add (e_var 3) (e_var 2)) a_nil))) (e_var 7)))) (fun s2 h2 q2 l2 f2 => (e_var 15))) a_nil)) a_nil)))
  ss_nil))
  (ss_cons (s_if (t_cmp k .ne (e_callk k en.k10 (a_cons (e_var 5) (a_cons (e_str "a") (a_cons (e_var 3) (a_cons (e_var 8) a_nil)))) (e_var 7)) (e_var 11)) (ss_cons (s_ret (e_bl false))
  ss_nil) ss_nil)
  (ss_cons (s_if (t_cmp k .ne (e_call k en.c10_1 (a_cons (e_var 5) (a_cons (e_str "a") (a_cons (e_var 3) (a_cons (e_var 8) a_nil))))) (e_callk k en.k10 (a_cons (e_var 5) (a_cons (e_str "a") (a_cons (e_var 3) (a_cons (e_var 8) a_nil)))) (e_int 7))) (ss_cons (s_ret (e_bl false))
  ss_nil) ss_nil)
  (ss_cons (s_asg k (e_tup (a_cons e_non (a_cons (e_bi k .dict en.fr.dict (a_cons (e_var 9) a_nil)) a_nil))) (g_tup k.calm k.K (gs_cons k.nd 12 (gs_cons k.nd 13 gs_nil))))
  (ss_cons (s_for k po (i_val k (e_bi k .sorted en.fr.sorted (a_cons (e_var 13) a_nil))) (g_nm k.nd _ 14) (ss_cons (s_set (s_setLc k.lk (i := 10) (by kernel_rfl) (by rfl) (by rfl) (i_rng1 k.lk en.fr.range (e_var 8)) (blk_ok (own := [("k", 2)]) (by kernel_rfl)) rfl (fun s1 h1 q1 l1 f1 => (g_nm (k.lk.blk s1 h1 _ _ f1).nd _ 2)) (fun s1 h1 q1 l1 f1 => (ifs_one (t_cmp (k.lk.blk s1 h1 _ _ f1) .in_ (e_bin (k.lk.blk s1 h1 _ _ f1) .add (e_var 14) (e_var 2)) (e_var 13)))) (fun s1 h1 q1 l1 f1 => (e_sub (k.lk.blk s1 h1 _ _ f1) (e_var 13) (e_bin (k.lk.blk s1 h1 _ _ f1) .add (e_var 14) (e_var 2))))))
  (ss_cons (s_if (t_w (t_and (t_cmp k.lk .eq (e_bi k.lk .len en.fr.len (a_cons (e_var 10) a_nil)) (e_var 8)) (t_one (t_w (t_or (t_cmp k.lk .is_ (e_var 12) e_non) (t_one (t_cmp k.lk .lt (e_bi k.lk .sum en.fr.sum (a_cons (e_var 10) a_nil)) (e_sub k.lk (e_var 12) (e_int 0))))))))) (ss_cons (s_asg k.lk (e_tup (a_cons (e_bi k.lk .sum en.fr.sum (a_cons (e_var 10) a_nil)) (a_cons (e_var 14) a_nil))) (g_nm k.lk.nd _ 12))
  ss_nil) ss_nil)
  ss_nil)))
  (ss_cons (s_if (t_not (t_w (t_and (t_cmp k .eq (e_call k en.c12_0 (a_cons (e_var 5) (a_cons (e_str "a") (a_cons (e_var 3) (a_cons (e_var 8) a_nil))))) (e_var 12)) (t_one (t_cmp k .eq (e_call k en.c8_0 (a_cons (e_var 5) (a_cons (e_str "zz") a_nil))) (e_lst a_nil)))))) (ss_cons (s_ret (e_bl false))
  ss_nil) ss_nil)
  (ss_cons (s_ret (e_cmp k .is_ (e_call k en.c12_0 (a_cons (e_var 5) (a_cons (e_str "zz") (a_cons (e_var 3) (a_cons (e_var 8) a_nil))))) e_non))
  ss_nil)))))))))))))))))
end
end Bh
end
section
set_option Elab.async false
set_option linter.all false
set_option maxRecDepth 100000
set_option maxHeartbeats 0

namespace Bh
open PySem PySem.Spec PyProof.Rows L2 MP
def d0 : He.DefD := ⟨("_wall", none), "_wall", "_wall", defArgs (top 0), defBody (top 0), defScope (top 0), [], []⟩
def d1 : He.DefD := ⟨("is_whole", none), "is_whole", "is_whole", defArgs (top 10), defBody (top 10), defScope (top 10), [], []⟩
def d2 : He.DefD := ⟨("look_whole", none), "look_whole", "look_whole", defArgs (top 11), defBody (top 11), defScope (top 11), [], []⟩
def d3 : He.DefD := ⟨("is_day", none), "is_day", "is_day", defArgs (top 12), defBody (top 12), defScope (top 12), [], []⟩
def d4 : He.DefD := ⟨("look_day", none), "look_day", "look_day", defArgs (top 13), defBody (top 13), defScope (top 13), [], []⟩
def d5 : He.DefD := ⟨("is_name", none), "is_name", "is_name", defArgs (top 14), defBody (top 14), defScope (top 14), [], []⟩
def d6 : He.DefD := ⟨("look_name", none), "look_name", "look_name", defArgs (top 15), defBody (top 15), defScope (top 15), [], []⟩
def d7 : He.DefD := ⟨("lowest", none), "lowest", "lowest", defArgs (top 17), defBody (top 17), defScope (top 17), [], []⟩
def d8 : He.DefD := ⟨("readings", none), "readings", "readings", defArgs (top 18), defBody (top 18), defScope (top 18), [], []⟩
def d9 : He.DefD := ⟨("mean_by", none), "mean_by", "mean_by", defArgs (top 19), defBody (top 19), defScope (top 19), [], []⟩
def d10 : He.DefD := ⟨("looked_for", none), "looked_for", "looked_for", defArgs (top 20), defBody (top 20), defScope (top 20), [], [("wide", .int 7)]⟩
def d11 : He.DefD := ⟨("near", none), "near", "near", defArgs (top 21), defBody (top 21), defScope (top 21), [], []⟩
def d12 : He.DefD := ⟨("driest", none), "driest", "driest", defArgs (top 22), defBody (top 22), defScope (top 22), [], []⟩
def d13 : He.DefD := ⟨("thing_of", none), "thing_of", "thing_of", defArgs (top 26), defBody (top 26), defScope (top 26), [], []⟩
def d14 : He.DefD := ⟨("in_force", none), "in_force", "in_force", defArgs (top 27), defBody (top 27), defScope (top 27), [], []⟩
def d15 : He.DefD := ⟨("deepness", none), "deepness", "deepness", defArgs (top 28), defBody (top 28), defScope (top 28), [], []⟩
def d16 : He.DefD := ⟨("World", some "__init__"), "__init__", "World.__init__", defArgs (inClass (top 30) 0), defBody (inClass (top 30) 0), defScope (inClass (top 30) 0), [], []⟩
def d17 : He.DefD := ⟨("World", some "of"), "of", "World.of", defArgs (inClass (top 30) 1), defBody (inClass (top 30) 1), defScope (inClass (top 30) 1), [.non], []⟩
def d18 : He.DefD := ⟨("World", some "names"), "names", "World.names", defArgs (inClass (top 30) 2), defBody (inClass (top 30) 2), defScope (inClass (top 30) 2), [], []⟩
def d19 : He.DefD := ⟨("World", some "last"), "last", "World.last", defArgs (inClass (top 30) 3), defBody (inClass (top 30) 3), defScope (inClass (top 30) 3), [], []⟩
def d20 : He.DefD := ⟨("World", some "last_share"), "last_share", "World.last_share", defArgs (inClass (top 30) 4), defBody (inClass (top 30) 4), defScope (inClass (top 30) 4), [], []⟩
def d21 : He.DefD := ⟨("World", some "last_of"), "last_of", "World.last_of", defArgs (inClass (top 30) 5), defBody (inClass (top 30) 5), defScope (inClass (top 30) 5), [], []⟩
def d22 : He.DefD := ⟨("World", some "on_day"), "on_day", "World.on_day", defArgs (inClass (top 30) 6), defBody (inClass (top 30) 6), defScope (inClass (top 30) 6), [], []⟩
def d23 : He.DefD := ⟨("_law_drawn", none), "_law_drawn", "_law_drawn", defArgs (top 32), defBody (top 32), defScope (top 32), [], []⟩
def d24 : He.DefD := ⟨("_law_holds", none), "_law_holds", "_law_holds", defArgs (top 33), defBody (top 33), defScope (top 33), [], []⟩
def d25 : He.DefD := ⟨("_law_holding", none), "_law_holding", "_law_holding", defArgs (top 34), defBody (top 34), defScope (top 34), [], []⟩
def d26 : He.DefD := ⟨("_law_thing", none), "_law_thing", "_law_thing", defArgs (top 35), defBody (top 35), defScope (top 35), [], []⟩
def d27 : He.DefD := ⟨("_law_counting", none), "_law_counting", "_law_counting", defArgs (top 36), defBody (top 36), defScope (top 36), [], []⟩
def d28 : He.DefD := ⟨("_law_mean", none), "_law_mean", "_law_mean", defArgs (top 37), defBody (top 37), defScope (top 37), [], []⟩
def d29 : He.DefD := ⟨("_law_apart", none), "_law_apart", "_law_apart", defArgs (top 38), defBody (top 38), defScope (top 38), [], []⟩
def d30 : He.DefD := ⟨("law", none), "law", "law", defArgs (top 39), defBody (top 39), defScope (top 39), [], []⟩
def fn0 : List He.DefD := [d0, d1, d2, d3, d4, d5, d6, d7, d8, d9, d10, d11, d12, d13, d14, d15, d16, d17, d18, d19, d20, d21, d22, d23, d24, d25, d26, d27, d28, d29]
def fn1 : List He.DefD := [d30]
def fn : List He.DefD := fn0 ++ fn1
def fa0 : List He.Fa := [.glo "_wall", .glo "is_whole", .glo "look_whole", .glo "is_day", .glo "look_day", .glo "is_name", .glo "look_name", .glo "lowest", .glo "readings", .glo "mean_by", .glo "looked_for", .glo "near", .glo "driest", .glo "thing_of", .glo "in_force", .glo "deepness", .meth "World" "of", .meth "World" "names", .meth "World" "last", .meth "World" "last_share", .meth "World" "last_of", .meth "World" "on_day", .glo "_law_drawn", .glo "_law_holds", .glo "_law_holding", .glo "_law_thing", .glo "_law_counting", .glo "_law_mean", .glo "_law_apart", .glo "law"]
def fa1 : List He.Fa := [.cls "World", .glo "World", .mkr "World", .noat "World" "kept", .noat "World" "rows", .free "isinstance", .free "len", .free "all", .free "any", .free "sum", .free "min", .free "max", .free "sorted", .free "range", .free "zip", .free "enumerate", .free "abs", .free "list", .free "dict", .free "tuple", .free "str", .free "int", .free "set", .free "bool", .glo "BasinError", .exc "BasinError", .glo "NoNumber", .exc "NoNumber", .glo "NoDay", .exc "NoDay"]
def fa2 : List He.Fa := [.glo "NoName", .exc "NoName", .int "LAST_DAY" 9999, .str "SMALL" "abcdefghijklmnopqrstuvwxyz", .int "YEAR" 365, .str "VOID" "void", .int "MOST_DEEP" 3]
def fa : List He.Fa := fa0 ++ fa1 ++ fa2
def nms0 : List PySem.Str := ["_wall", "__name__", "BasinError", "NoNumber", "NoDay", "NoName", "SMALL", "LAST_DAY", "YEAR", "is_whole", "look_whole", "is_day", "look_day", "is_name", "look_name", "lowest", "readings", "mean_by", "looked_for", "near", "driest", "VOID", "MOST_DEEP", "thing_of", "in_force", "deepness", "World", "_law_drawn", "_law_holds", "_law_holding"]
def nms1 : List PySem.Str := ["_law_thing", "_law_counting", "_law_mean", "_law_apart"]
def nms : List PySem.Str := nms0 ++ nms1
def tf : List He.Defn := [d17.at_, d27.at_]
def ex (K : PySem.W.Frag) : Bool := decide ((tf.map fun p => (He.cT K p).2).Nodup)
abbrev R : PySem.W.OpenRow := PySem.W.OpenLaw.row PySem.Challenge.rw_basinhouse_k29_forecasts
abbrev hk : PySem.W.Hook := He.hookX 5 fa fn [] tf ex
def ob (s : PySem.W.SharedT) : He.AlX := He.obsX 5 fa fn [] tf ex (HandSHeadRun.getT s)
theorem ob_eq (s : PySem.W.SharedT) : ob s = hk.obs s.abs := He.obsX_eq (HandSHeadRun.getT_eq s)
theorem run0 (w : World) : HandSHeadRun.RunEq R (PySem.W.view R.prog [39]) hk ob 6000 nms (w.withFollow "special-get-raises" false) := by
  intro os
  kernel_rfl
theorem run1 (w : World) : HandSHeadRun.RunEq R (PySem.W.view R.prog [39]) hk ob 6000 nms (w.withFollow "special-get-raises" true) := by
  intro os
  kernel_rfl
theorem run (w : World) : HandSHeadRun.RunEq R (PySem.W.view R.prog [39]) hk ob 6000 nms w :=
  PySem.W.byRow2 "special-get-raises" (P := fun w => HandSHeadRun.RunEq R (PySem.W.view R.prog [39]) hk ob 6000 nms w) run0 run1 w
def clsN : List Str := ["World"]
def excN : List Str := ["BasinError", "NoNumber", "NoDay", "NoName"]
def Zf (P : Program) (w : World) (K : PySem.W.Frag) (S : List Int) : Zt := ⟨P, w, K, S, fun c => He.ga K (clsN.getD c ""), fun c => He.ga K (excN.getD c ""), [((He.cT K d17.at_).2, "World.of.<locals>.<lambda>"), ((He.cT K d27.at_).2, "_law_counting.<locals>.<lambda>")]⟩

structure Lv (P : Program) (w : World) (K : PySem.W.Frag) (mg : Str → Option Value) (base : Heap) (S : List Int) (n k : Nat) : Prop where
  l0 : FnAt P w K mg base (Zf P w K S) d0 ps0 n (callN (Gp S) fuel k 0)
  l1 : FnAt P w K mg base (Zf P w K S) d1 ps1 n (callN (Gp S) fuel k 1)
  l2 : FnAt P w K mg base (Zf P w K S) d2 ps2 n (callN (Gp S) fuel k 2)
  l3 : FnAt P w K mg base (Zf P w K S) d3 ps3 n (callN (Gp S) fuel k 3)
  l4 : FnAt P w K mg base (Zf P w K S) d4 ps4 n (callN (Gp S) fuel k 4)
  l5 : FnAt P w K mg base (Zf P w K S) d5 ps5 n (callN (Gp S) fuel k 5)
  l6 : FnAt P w K mg base (Zf P w K S) d6 ps6 n (callN (Gp S) fuel k 6)
  l7 : FnAt P w K mg base (Zf P w K S) d7 ps7 n (callN (Gp S) fuel k 7)
  l8 : FnAt P w K mg base (Zf P w K S) d8 ps8 n (callN (Gp S) fuel k 8)
  l9 : FnAt P w K mg base (Zf P w K S) d9 ps9 n (callN (Gp S) fuel k 9)
  l10 : FnAt P w K mg base (Zf P w K S) d10 ps10 n (callN (Gp S) fuel k 10)
  l11 : FnAt P w K mg base (Zf P w K S) d11 ps11 n (callN (Gp S) fuel k 11)
  l12 : FnAt P w K mg base (Zf P w K S) d12 ps12 n (callN (Gp S) fuel k 12)
  l13 : FnAt P w K mg base (Zf P w K S) d13 ps13 n (callN (Gp S) fuel k 13)
  l14 : FnAt P w K mg base (Zf P w K S) d14 ps14 n (callN (Gp S) fuel k 14)
  l15 : FnAt P w K mg base (Zf P w K S) d15 ps15 n (callN (Gp S) fuel k 15)
  l16 : FnAt P w K mg base (Zf P w K S) d16 ps16 n (callN (Gp S) fuel k 16)
  l17 : FnAt P w K mg base (Zf P w K S) d17 ps17 n (callN (Gp S) fuel k 17)
  l18 : FnAt P w K mg base (Zf P w K S) d18 ps18 n (callN (Gp S) fuel k 18)
  l19 : FnAt P w K mg base (Zf P w K S) d19 ps19 n (callN (Gp S) fuel k 19)
  l20 : FnAt P w K mg base (Zf P w K S) d20 ps20 n (callN (Gp S) fuel k 20)
  l21 : FnAt P w K mg base (Zf P w K S) d21 ps21 n (callN (Gp S) fuel k 21)
  l22 : FnAt P w K mg base (Zf P w K S) d22 ps22 n (callN (Gp S) fuel k 22)
  l23 : FnAt P w K mg base (Zf P w K S) d23 ps23 n (callN (Gp S) fuel k 23)
  l24 : FnAt P w K mg base (Zf P w K S) d24 ps24 n (callN (Gp S) fuel k 24)
  l25 : FnAt P w K mg base (Zf P w K S) d25 ps25 n (callN (Gp S) fuel k 25)
  l26 : FnAt P w K mg base (Zf P w K S) d26 ps26 n (callN (Gp S) fuel k 26)
  l27 : FnAt P w K mg base (Zf P w K S) d27 ps27 n (callN (Gp S) fuel k 27)
  l28 : FnAt P w K mg base (Zf P w K S) d28 ps28 n (callN (Gp S) fuel k 28)
  l29 : FnAt P w K mg base (Zf P w K S) d29 ps29 n (callN (Gp S) fuel k 29)
section
variable {P : Program} {w : World} {K : PySem.W.Frag} {mg : Str → Option Value} {base : Heap} {S : List Int} {h : Heap} {n k : Nat} {A : Around}
theorem sc0 : FnScope N0 ps0 (defScope (top 0)) := ⟨rfl, rfl, rfl, by decide +kernel, rfl, by decide +kernel, by decide +kernel⟩
theorem sc1 : FnScope N1 ps1 (defScope (top 10)) := ⟨rfl, rfl, rfl, by decide +kernel, rfl, by decide +kernel, by decide +kernel⟩
theorem sc2 : FnScope N2 ps2 (defScope (top 11)) := ⟨rfl, rfl, rfl, by decide +kernel, rfl, by decide +kernel, by decide +kernel⟩
theorem sc3 : FnScope N3 ps3 (defScope (top 12)) := ⟨rfl, rfl, rfl, by decide +kernel, rfl, by decide +kernel, by decide +kernel⟩
theorem sc4 : FnScope N4 ps4 (defScope (top 13)) := ⟨rfl, rfl, rfl, by decide +kernel, rfl, by decide +kernel, by decide +kernel⟩
theorem sc5 : FnScope N5 ps5 (defScope (top 14)) := ⟨rfl, rfl, rfl, by decide +kernel, rfl, by decide +kernel, by decide +kernel⟩
theorem sc6 : FnScope N6 ps6 (defScope (top 15)) := ⟨rfl, rfl, rfl, by decide +kernel, rfl, by decide +kernel, by decide +kernel⟩
theorem sc7 : FnScope N7 ps7 (defScope (top 17)) := ⟨rfl, rfl, rfl, by decide +kernel, rfl, by decide +kernel, by decide +kernel⟩
theorem sc8 : FnScope N8 ps8 (defScope (top 18)) := ⟨rfl, rfl, rfl, by decide +kernel, rfl, by decide +kernel, by decide +kernel⟩
theorem sc9 : FnScope N9 ps9 (defScope (top 19)) := ⟨rfl, rfl, rfl, by decide +kernel, rfl, by decide +kernel, by decide +kernel⟩
theorem sc10 : FnScope N10 ps10 (defScope (top 20)) := ⟨rfl, rfl, rfl, by decide +kernel, rfl, by decide +kernel, by decide +kernel⟩
theorem sc11 : FnScope N11 ps11 (defScope (top 21)) := ⟨rfl, rfl, rfl, by decide +kernel, rfl, by decide +kernel, by decide +kernel⟩
theorem sc12 : FnScope N12 ps12 (defScope (top 22)) := ⟨rfl, rfl, rfl, by decide +kernel, rfl, by decide +kernel, by decide +kernel⟩
theorem sc13 : FnScope N13 ps13 (defScope (top 26)) := ⟨rfl, rfl, rfl, by decide +kernel, rfl, by decide +kernel, by decide +kernel⟩
theorem sc14 : FnScope N14 ps14 (defScope (top 27)) := ⟨rfl, rfl, rfl, by decide +kernel, rfl, by decide +kernel, by decide +kernel⟩
theorem sc15 : FnScope N15 ps15 (defScope (top 28)) := ⟨rfl, rfl, rfl, by decide +kernel, rfl, by decide +kernel, by decide +kernel⟩
theorem sc16 : FnScope N16 ps16 (defScope (inClass (top 30) 0)) := ⟨rfl, rfl, rfl, by decide +kernel, rfl, by decide +kernel, by decide +kernel⟩
theorem sc17 : FnScope N17 ps17 (defScope (inClass (top 30) 1)) := ⟨rfl, rfl, rfl, by decide +kernel, rfl, by decide +kernel, by decide +kernel⟩
theorem sc18 : FnScope N18 ps18 (defScope (inClass (top 30) 2)) := ⟨rfl, rfl, rfl, by decide +kernel, rfl, by decide +kernel, by decide +kernel⟩
theorem sc19 : FnScope N19 ps19 (defScope (inClass (top 30) 3)) := ⟨rfl, rfl, rfl, by decide +kernel, rfl, by decide +kernel, by decide +kernel⟩
theorem sc20 : FnScope N20 ps20 (defScope (inClass (top 30) 4)) := ⟨rfl, rfl, rfl, by decide +kernel, rfl, by decide +kernel, by decide +kernel⟩
theorem sc21 : FnScope N21 ps21 (defScope (inClass (top 30) 5)) := ⟨rfl, rfl, rfl, by decide +kernel, rfl, by decide +kernel, by decide +kernel⟩
theorem sc22 : FnScope N22 ps22 (defScope (inClass (top 30) 6)) := ⟨rfl, rfl, rfl, by decide +kernel, rfl, by decide +kernel, by decide +kernel⟩
theorem sc23 : FnScope N23 ps23 (defScope (top 32)) := ⟨rfl, rfl, rfl, by decide +kernel, rfl, by decide +kernel, by decide +kernel⟩
theorem sc24 : FnScope N24 ps24 (defScope (top 33)) := ⟨rfl, rfl, rfl, by decide +kernel, rfl, by decide +kernel, by decide +kernel⟩
theorem sc25 : FnScope N25 ps25 (defScope (top 34)) := ⟨rfl, rfl, rfl, by decide +kernel, rfl, by decide +kernel, by decide +kernel⟩
theorem sc26 : FnScope N26 ps26 (defScope (top 35)) := ⟨rfl, rfl, rfl, by decide +kernel, rfl, by decide +kernel, by decide +kernel⟩
theorem sc27 : FnScope N27 ps27 (defScope (top 36)) := ⟨rfl, rfl, rfl, by decide +kernel, rfl, by decide +kernel, by decide +kernel⟩
theorem sc28 : FnScope N28 ps28 (defScope (top 37)) := ⟨rfl, rfl, rfl, by decide +kernel, rfl, by decide +kernel, by decide +kernel⟩
theorem sc29 : FnScope N29 ps29 (defScope (top 38)) := ⟨rfl, rfl, rfl, by decide +kernel, rfl, by decide +kernel, by decide +kernel⟩
theorem sc30 : FnScope N30 ps30 (defScope (top 39)) := ⟨rfl, rfl, rfl, by decide +kernel, rfl, by decide +kernel, by decide +kernel⟩
theorem bi0_0 (fd : FuncData) (F : FunD K d0.name d0.qual d0.params d0.body d0.scope (d0.dvs K) (d0.kws K) (He.fAd K d0.at_) fd) : Fills K (Zf P w K S) fd ps0 [] := fill_n F fun _ _ _ _ _ _ us hl => match us, hl with | [_], _ => rfl
theorem bi1_0 (fd : FuncData) (F : FunD K d1.name d1.qual d1.params d1.body d1.scope (d1.dvs K) (d1.kws K) (He.fAd K d1.at_) fd) : Fills K (Zf P w K S) fd ps1 [] := fill_n F fun _ _ _ _ _ _ us hl => match us, hl with | [_, _, _], _ => rfl
theorem bi2_0 (fd : FuncData) (F : FunD K d2.name d2.qual d2.params d2.body d2.scope (d2.dvs K) (d2.kws K) (He.fAd K d2.at_) fd) : Fills K (Zf P w K S) fd ps2 [] := fill_n F fun _ _ _ _ _ _ us hl => match us, hl with | [_, _, _], _ => rfl
theorem bi3_0 (fd : FuncData) (F : FunD K d3.name d3.qual d3.params d3.body d3.scope (d3.dvs K) (d3.kws K) (He.fAd K d3.at_) fd) : Fills K (Zf P w K S) fd ps3 [] := fill_n F fun _ _ _ _ _ _ us hl => match us, hl with | [_], _ => rfl
theorem bi4_0 (fd : FuncData) (F : FunD K d4.name d4.qual d4.params d4.body d4.scope (d4.dvs K) (d4.kws K) (He.fAd K d4.at_) fd) : Fills K (Zf P w K S) fd ps4 [] := fill_n F fun _ _ _ _ _ _ us hl => match us, hl with | [_], _ => rfl
theorem bi5_0 (fd : FuncData) (F : FunD K d5.name d5.qual d5.params d5.body d5.scope (d5.dvs K) (d5.kws K) (He.fAd K d5.at_) fd) : Fills K (Zf P w K S) fd ps5 [] := fill_n F fun _ _ _ _ _ _ us hl => match us, hl with | [_], _ => rfl
theorem bi6_0 (fd : FuncData) (F : FunD K d6.name d6.qual d6.params d6.body d6.scope (d6.dvs K) (d6.kws K) (He.fAd K d6.at_) fd) : Fills K (Zf P w K S) fd ps6 [] := fill_n F fun _ _ _ _ _ _ us hl => match us, hl with | [_], _ => rfl
theorem bi7_0 (fd : FuncData) (F : FunD K d7.name d7.qual d7.params d7.body d7.scope (d7.dvs K) (d7.kws K) (He.fAd K d7.at_) fd) : Fills K (Zf P w K S) fd ps7 [] := fill_n F fun _ _ _ _ _ _ us hl => match us, hl with | [_, _], _ => rfl
theorem bi8_0 (fd : FuncData) (F : FunD K d8.name d8.qual d8.params d8.body d8.scope (d8.dvs K) (d8.kws K) (He.fAd K d8.at_) fd) : Fills K (Zf P w K S) fd ps8 [] := fill_n F fun _ _ _ _ _ _ us hl => match us, hl with | [_, _], _ => rfl
theorem bi9_0 (fd : FuncData) (F : FunD K d9.name d9.qual d9.params d9.body d9.scope (d9.dvs K) (d9.kws K) (He.fAd K d9.at_) fd) : Fills K (Zf P w K S) fd ps9 [] := fill_n F fun _ _ _ _ _ _ us hl => match us, hl with | [_, _, _, _], _ => rfl
theorem bi10_1 (fd : FuncData) (F : FunD K d10.name d10.qual d10.params d10.body d10.scope (d10.dvs K) (d10.kws K) (He.fAd K d10.at_) fd) : Fills K (Zf P w K S) fd ps10 [(.int 7)] := fill_0 F 4 (by intro e; cases e) rfl (fun _ _ _ _ _ _ us ks hl hk => match us, ks, hl, hk with | [_, _, _, _], [_], _, _ => by first | exact rfl | exact ⟨_, _, _, _, _, _, rfl, rfl, rfl⟩) (fun _ _ => (.cons (.int _) .nil))
theorem bi11_0 (fd : FuncData) (F : FunD K d11.name d11.qual d11.params d11.body d11.scope (d11.dvs K) (d11.kws K) (He.fAd K d11.at_) fd) : Fills K (Zf P w K S) fd ps11 [] := fill_n F fun _ _ _ _ _ _ us hl => match us, hl with | [_, _], _ => rfl
theorem bi12_0 (fd : FuncData) (F : FunD K d12.name d12.qual d12.params d12.body d12.scope (d12.dvs K) (d12.kws K) (He.fAd K d12.at_) fd) : Fills K (Zf P w K S) fd ps12 [] := fill_n F fun _ _ _ _ _ _ us hl => match us, hl with | [_, _, _, _], _ => rfl
theorem bi13_0 (fd : FuncData) (F : FunD K d13.name d13.qual d13.params d13.body d13.scope (d13.dvs K) (d13.kws K) (He.fAd K d13.at_) fd) : Fills K (Zf P w K S) fd ps13 [] := fill_n F fun _ _ _ _ _ _ us hl => match us, hl with | [_], _ => rfl
theorem bi14_0 (fd : FuncData) (F : FunD K d14.name d14.qual d14.params d14.body d14.scope (d14.dvs K) (d14.kws K) (He.fAd K d14.at_) fd) : Fills K (Zf P w K S) fd ps14 [] := fill_n F fun _ _ _ _ _ _ us hl => match us, hl with | [_], _ => rfl
theorem bi15_0 (fd : FuncData) (F : FunD K d15.name d15.qual d15.params d15.body d15.scope (d15.dvs K) (d15.kws K) (He.fAd K d15.at_) fd) : Fills K (Zf P w K S) fd ps15 [] := fill_n F fun _ _ _ _ _ _ us hl => match us, hl with | [_], _ => rfl
theorem bi16_0 (fd : FuncData) (F : FunD K d16.name d16.qual d16.params d16.body d16.scope (d16.dvs K) (d16.kws K) (He.fAd K d16.at_) fd) : Fills K (Zf P w K S) fd ps16 [] := fill_n F fun _ _ _ _ _ _ us hl => match us, hl with | [_, _], _ => rfl
theorem bi17_0 (fd : FuncData) (F : FunD K d17.name d17.qual d17.params d17.body d17.scope (d17.dvs K) (d17.kws K) (He.fAd K d17.at_) fd) : Fills K (Zf P w K S) fd ps17 [] := fill_1 F 3 1 (by intro e; cases e) rfl (fun _ _ _ _ _ _ _ us its hl hi => match us, its, hl, hi with | [_, _, _], [_], _, _ => ⟨_, rfl, rfl⟩) (fun _ _ => .nil)
theorem bi23_0 (fd : FuncData) (F : FunD K d23.name d23.qual d23.params d23.body d23.scope (d23.dvs K) (d23.kws K) (He.fAd K d23.at_) fd) : Fills K (Zf P w K S) fd ps23 [] := fill_n F fun _ _ _ _ _ _ us hl => match us, hl with | [_, _, _], _ => rfl
theorem bi24_0 (fd : FuncData) (F : FunD K d24.name d24.qual d24.params d24.body d24.scope (d24.dvs K) (d24.kws K) (He.fAd K d24.at_) fd) : Fills K (Zf P w K S) fd ps24 [] := fill_n F fun _ _ _ _ _ _ us hl => match us, hl with | [_, _], _ => rfl
theorem bi25_0 (fd : FuncData) (F : FunD K d25.name d25.qual d25.params d25.body d25.scope (d25.dvs K) (d25.kws K) (He.fAd K d25.at_) fd) : Fills K (Zf P w K S) fd ps25 [] := fill_n F fun _ _ _ _ _ _ us hl => match us, hl with | [_], _ => rfl
theorem bi26_0 (fd : FuncData) (F : FunD K d26.name d26.qual d26.params d26.body d26.scope (d26.dvs K) (d26.kws K) (He.fAd K d26.at_) fd) : Fills K (Zf P w K S) fd ps26 [] := fill_n F fun _ _ _ _ _ _ us hl => match us, hl with | [_], _ => rfl
theorem bi27_0 (fd : FuncData) (F : FunD K d27.name d27.qual d27.params d27.body d27.scope (d27.dvs K) (d27.kws K) (He.fAd K d27.at_) fd) : Fills K (Zf P w K S) fd ps27 [] := fill_n F fun _ _ _ _ _ _ us hl => match us, hl with | [_], _ => rfl
theorem bi28_0 (fd : FuncData) (F : FunD K d28.name d28.qual d28.params d28.body d28.scope (d28.dvs K) (d28.kws K) (He.fAd K d28.at_) fd) : Fills K (Zf P w K S) fd ps28 [] := fill_n F fun _ _ _ _ _ _ us hl => match us, hl with | [_], _ => rfl
theorem bi29_0 (fd : FuncData) (F : FunD K d29.name d29.qual d29.params d29.body d29.scope (d29.dvs K) (d29.kws K) (He.fAd K d29.at_) fd) : Fills K (Zf P w K S) fd ps29 [] := fill_n F fun _ _ _ _ _ _ us hl => match us, hl with | [_, _], _ => rfl
theorem fr_of (X : K.In h) (Gn : h.Ns mainGlobals mg) (c : He.SaysD fa fn K) : Frs mg := ⟨He.free_ok X Gn (c.fact 35 (f := .free "isinstance") rfl), He.free_ok X Gn (c.fact 36 (f := .free "len") rfl), He.free_ok X Gn (c.fact 37 (f := .free "all") rfl), He.free_ok X Gn (c.fact 38 (f := .free "any") rfl), He.free_ok X Gn (c.fact 39 (f := .free "sum") rfl), He.free_ok X Gn (c.fact 40 (f := .free "min") rfl), He.free_ok X Gn (c.fact 41 (f := .free "max") rfl), He.free_ok X Gn (c.fact 42 (f := .free "sorted") rfl), He.free_ok X Gn (c.fact 43 (f := .free "range") rfl), He.free_ok X Gn (c.fact 44 (f := .free "zip") rfl), He.free_ok X Gn (c.fact 45 (f := .free "enumerate") rfl), He.free_ok X Gn (c.fact 46 (f := .free "abs") rfl), He.free_ok X Gn (c.fact 47 (f := .free "list") rfl), He.free_ok X Gn (c.fact 48 (f := .free "dict") rfl), He.free_ok X Gn (c.fact 49 (f := .free "tuple") rfl), He.free_ok X Gn (c.fact 50 (f := .free "str") rfl), He.free_ok X Gn (c.fact 51 (f := .free "int") rfl), He.free_ok X Gn (c.fact 52 (f := .free "set") rfl), He.free_ok X Gn (c.fact 53 (f := .free "bool") rfl)⟩
theorem en_of (X : K.In h) (Gn : h.Ns mainGlobals mg) (c : He.SaysD fa fn K) (hr : Room (k + 1) A) (v : Lv P w K mg base S (k + 1) k) (v1 : Lv P w K mg base S k (k - 1)) : En P w K mg base A (Zf P w K S) (Gp S) (callN (Gp S) fuel k) (callN (Gp S) fuel (k - 1)) where
  fr := fr_of X Gn c
  c1_0 := v.l1.calG (He.glo_ok X Gn (c.fact 1 (f := .glo "is_whole") rfl)) hr (bi1_0 (P := P) (w := w) (S := S))
  x_NoNumber := exOk_of (He.glo_ok X Gn (c.fact 56 (f := .glo "NoNumber") rfl)) (c.fact 57 (f := .exc "NoNumber") rfl)
  g_LAST_DAY := con_int (i := 9999) (by kernel_rfl) (He.int_ok X Gn (c.fact 62 (f := .int "LAST_DAY" 9999) rfl))
  c3_0 := v.l3.calG (He.glo_ok X Gn (c.fact 3 (f := .glo "is_day") rfl)) hr (bi3_0 (P := P) (w := w) (S := S))
  x_NoDay := exOk_of (He.glo_ok X Gn (c.fact 58 (f := .glo "NoDay") rfl)) (c.fact 59 (f := .exc "NoDay") rfl)
  g_SMALL := con_str (z := "abcdefghijklmnopqrstuvwxyz") (by kernel_rfl) (He.str_ok X Gn (c.fact 63 (f := .str "SMALL" "abcdefghijklmnopqrstuvwxyz") rfl))
  c5_0 := v.l5.calG (He.glo_ok X Gn (c.fact 5 (f := .glo "is_name") rfl)) hr (bi5_0 (P := P) (w := w) (S := S))
  x_NoName := exOk_of (He.glo_ok X Gn (c.fact 60 (f := .glo "NoName") rfl)) (c.fact 61 (f := .exc "NoName") rfl)
  m_of_0 := fun c0 kk i hc hm => by
    match c0, hc with
    | 0, hc => cases (show (some (cls.getD 0 ⟨[], 0⟩) : Option Cl) = some kk from hc); cases (show (some 17 : Option Nat) = some i from (show (some 17 : Option Nat) = (cls.getD 0 ⟨[], 0⟩).meths.lookup ("of" : Str) by kernel_rfl).trans hm); exact ⟨_, He.cls_ok (c.fact 30 (f := .cls "World") rfl), He.meth_ok (c.fact 16 (f := .meth "World" "of") rfl), v.l17.cal hr (bi17_0 (P := P) (w := w) (S := S))⟩
    | n + 1, hc => cases (show (none : Option Cl) = some kk from hc)
  c6_0 := v.l6.calG (He.glo_ok X Gn (c.fact 6 (f := .glo "look_name") rfl)) hr (bi6_0 (P := P) (w := w) (S := S))
  c7_0 := v.l7.calG (He.glo_ok X Gn (c.fact 7 (f := .glo "lowest") rfl)) hr (bi7_0 (P := P) (w := w) (S := S))
  c8_0 := v.l8.calG (He.glo_ok X Gn (c.fact 8 (f := .glo "readings") rfl)) hr (bi8_0 (P := P) (w := w) (S := S))
  g_YEAR := con_int (i := 365) (by kernel_rfl) (He.int_ok X Gn (c.fact 64 (f := .int "YEAR" 365) rfl))
  c2_0 := v.l2.calG (He.glo_ok X Gn (c.fact 2 (f := .glo "look_whole") rfl)) hr (bi2_0 (P := P) (w := w) (S := S))
  c4_0 := v.l4.calG (He.glo_ok X Gn (c.fact 4 (f := .glo "look_day") rfl)) hr (bi4_0 (P := P) (w := w) (S := S))
  c11_0 := v.l11.calG (He.glo_ok X Gn (c.fact 11 (f := .glo "near") rfl)) hr (bi11_0 (P := P) (w := w) (S := S))
  g_VOID := con_str (z := "void") (by kernel_rfl) (He.str_ok X Gn (c.fact 65 (f := .str "VOID" "void") rfl))
  g_MOST_DEEP := con_int (i := 3) (by kernel_rfl) (He.int_ok X Gn (c.fact 66 (f := .int "MOST_DEEP" 3) rfl))
  c15_0 := v.l15.calG (He.glo_ok X Gn (c.fact 15 (f := .glo "deepness") rfl)) hr (bi15_0 (P := P) (w := w) (S := S))
  a_kept := fun c0 kk hc => by
    match c0, hc with
    | 0, hc => exact ⟨He.cls_ok (c.fact 30 (f := .cls "World") rfl), He.noat_ok (c.fact 33 (f := .noat "World" "kept") rfl)⟩
    | n + 1, hc => cases (show (none : Option Cl) = some kk from hc)
  a_rows := fun c0 kk hc => by
    match c0, hc with
    | 0, hc => exact ⟨He.cls_ok (c.fact 30 (f := .cls "World") rfl), He.noat_ok (c.fact 34 (f := .noat "World" "rows") rfl)⟩
    | n + 1, hc => cases (show (none : Option Cl) = some kk from hc)
  c14_0 := v.l14.calG (He.glo_ok X Gn (c.fact 14 (f := .glo "in_force") rfl)) hr (bi14_0 (P := P) (w := w) (S := S))
  c13_0 := v.l13.calG (He.glo_ok X Gn (c.fact 13 (f := .glo "thing_of") rfl)) hr (bi13_0 (P := P) (w := w) (S := S))
  c0_0 := v.l0.calG (He.glo_ok X Gn (c.fact 0 (f := .glo "_wall") rfl)) hr (bi0_0 (P := P) (w := w) (S := S))
  c24_0 := v.l24.calG (He.glo_ok X Gn (c.fact 23 (f := .glo "_law_holds") rfl)) hr (bi24_0 (P := P) (w := w) (S := S))
  c25_0 := v.l25.calG (He.glo_ok X Gn (c.fact 24 (f := .glo "_law_holding") rfl)) hr (bi25_0 (P := P) (w := w) (S := S))
  c26_0 := v.l26.calG (He.glo_ok X Gn (c.fact 25 (f := .glo "_law_thing") rfl)) hr (bi26_0 (P := P) (w := w) (S := S))
  c12_0 := v.l12.calG (He.glo_ok X Gn (c.fact 12 (f := .glo "driest") rfl)) hr (bi12_0 (P := P) (w := w) (S := S))
  c10_1 := v.l10.calG (He.glo_ok X Gn (c.fact 10 (f := .glo "looked_for") rfl)) hr (bi10_1 (P := P) (w := w) (S := S))
  k10 := v.l10.calK (He.glo_ok X Gn (c.fact 10 (f := .glo "looked_for") rfl)) hr rfl (fun fd F => kb1 F 4 "wide" fun _ _ _ _ _ _ us _ hl => match us, hl with | [_, _, _, _], _ => rfl)
  c28_0 := v.l28.calG (He.glo_ok X Gn (c.fact 27 (f := .glo "_law_mean") rfl)) hr (bi28_0 (P := P) (w := w) (S := S))
  c29_0 := v.l29.calG (He.glo_ok X Gn (c.fact 28 (f := .glo "_law_apart") rfl)) hr (bi29_0 (P := P) (w := w) (S := S))
  c9_0 := v.l9.calG (He.glo_ok X Gn (c.fact 9 (f := .glo "mean_by") rfl)) hr (bi9_0 (P := P) (w := w) (S := S))
  c23_0 := v.l23.calG (He.glo_ok X Gn (c.fact 22 (f := .glo "_law_drawn") rfl)) hr (bi23_0 (P := P) (w := w) (S := S))
  n_World := FnAt.mak (kk := cls.getD 0 ⟨[], 0⟩) v1.l16 rfl (He.glo_ok X Gn (c.fact 31 (f := .glo "World") rfl)) (He.mkr_ok (c.fact 32 (f := .mkr "World") rfl)) hr (fun fd F => (by obtain ⟨ds, dvs, h1, h2, h3⟩ := bi16_0 (P := P) (w := w) (S := S) fd F; cases h3 [] (fun _ => none); cases h2; exact h1))
  c27_0 := v.l27.calG (He.glo_ok X Gn (c.fact 26 (f := .glo "_law_counting") rfl)) hr (bi27_0 (P := P) (w := w) (S := S))
theorem lv0 (c : He.SaysD fa fn K) (n : Nat) : Lv P w K mg base S n 0 where
  l0 := by obtain ⟨fd, F⟩ := c.def_ 0 (d := d0) rfl; exact ⟨fd, F, fn_bad fun _ _ => rfl⟩
  l1 := by obtain ⟨fd, F⟩ := c.def_ 1 (d := d1) rfl; exact ⟨fd, F, fn_bad fun _ _ => rfl⟩
  l2 := by obtain ⟨fd, F⟩ := c.def_ 2 (d := d2) rfl; exact ⟨fd, F, fn_bad fun _ _ => rfl⟩
  l3 := by obtain ⟨fd, F⟩ := c.def_ 3 (d := d3) rfl; exact ⟨fd, F, fn_bad fun _ _ => rfl⟩
  l4 := by obtain ⟨fd, F⟩ := c.def_ 4 (d := d4) rfl; exact ⟨fd, F, fn_bad fun _ _ => rfl⟩
  l5 := by obtain ⟨fd, F⟩ := c.def_ 5 (d := d5) rfl; exact ⟨fd, F, fn_bad fun _ _ => rfl⟩
  l6 := by obtain ⟨fd, F⟩ := c.def_ 6 (d := d6) rfl; exact ⟨fd, F, fn_bad fun _ _ => rfl⟩
  l7 := by obtain ⟨fd, F⟩ := c.def_ 7 (d := d7) rfl; exact ⟨fd, F, fn_bad fun _ _ => rfl⟩
  l8 := by obtain ⟨fd, F⟩ := c.def_ 8 (d := d8) rfl; exact ⟨fd, F, fn_bad fun _ _ => rfl⟩
  l9 := by obtain ⟨fd, F⟩ := c.def_ 9 (d := d9) rfl; exact ⟨fd, F, fn_bad fun _ _ => rfl⟩
  l10 := by obtain ⟨fd, F⟩ := c.def_ 10 (d := d10) rfl; exact ⟨fd, F, fn_bad fun _ _ => rfl⟩
  l11 := by obtain ⟨fd, F⟩ := c.def_ 11 (d := d11) rfl; exact ⟨fd, F, fn_bad fun _ _ => rfl⟩
  l12 := by obtain ⟨fd, F⟩ := c.def_ 12 (d := d12) rfl; exact ⟨fd, F, fn_bad fun _ _ => rfl⟩
  l13 := by obtain ⟨fd, F⟩ := c.def_ 13 (d := d13) rfl; exact ⟨fd, F, fn_bad fun _ _ => rfl⟩
  l14 := by obtain ⟨fd, F⟩ := c.def_ 14 (d := d14) rfl; exact ⟨fd, F, fn_bad fun _ _ => rfl⟩
  l15 := by obtain ⟨fd, F⟩ := c.def_ 15 (d := d15) rfl; exact ⟨fd, F, fn_bad fun _ _ => rfl⟩
  l16 := by obtain ⟨fd, F⟩ := c.def_ 16 (d := d16) rfl; exact ⟨fd, F, fn_bad fun _ _ => rfl⟩
  l17 := by obtain ⟨fd, F⟩ := c.def_ 17 (d := d17) rfl; exact ⟨fd, F, fn_bad fun _ _ => rfl⟩
  l18 := by obtain ⟨fd, F⟩ := c.def_ 18 (d := d18) rfl; exact ⟨fd, F, fn_bad fun _ _ => rfl⟩
  l19 := by obtain ⟨fd, F⟩ := c.def_ 19 (d := d19) rfl; exact ⟨fd, F, fn_bad fun _ _ => rfl⟩
  l20 := by obtain ⟨fd, F⟩ := c.def_ 20 (d := d20) rfl; exact ⟨fd, F, fn_bad fun _ _ => rfl⟩
  l21 := by obtain ⟨fd, F⟩ := c.def_ 21 (d := d21) rfl; exact ⟨fd, F, fn_bad fun _ _ => rfl⟩
  l22 := by obtain ⟨fd, F⟩ := c.def_ 22 (d := d22) rfl; exact ⟨fd, F, fn_bad fun _ _ => rfl⟩
  l23 := by obtain ⟨fd, F⟩ := c.def_ 23 (d := d23) rfl; exact ⟨fd, F, fn_bad fun _ _ => rfl⟩
  l24 := by obtain ⟨fd, F⟩ := c.def_ 24 (d := d24) rfl; exact ⟨fd, F, fn_bad fun _ _ => rfl⟩
  l25 := by obtain ⟨fd, F⟩ := c.def_ 25 (d := d25) rfl; exact ⟨fd, F, fn_bad fun _ _ => rfl⟩
  l26 := by obtain ⟨fd, F⟩ := c.def_ 26 (d := d26) rfl; exact ⟨fd, F, fn_bad fun _ _ => rfl⟩
  l27 := by obtain ⟨fd, F⟩ := c.def_ 27 (d := d27) rfl; exact ⟨fd, F, fn_bad fun _ _ => rfl⟩
  l28 := by obtain ⟨fd, F⟩ := c.def_ 28 (d := d28) rfl; exact ⟨fd, F, fn_bad fun _ _ => rfl⟩
  l29 := by obtain ⟨fd, F⟩ := c.def_ 29 (d := d29) rfl; exact ⟨fd, F, fn_bad fun _ _ => rfl⟩
/-- what is told of the tables of the code objects -/
def TabsB (K : PySem.W.Frag) (mg : Str → Option Value) (base : Heap) : Prop := (∀ p ∈ tf.map (He.cT K), LamX.TabB base mg p.1 p.2) ∧ ex K = true
theorem lm17 (t : TabsB K mg base) {cdv : Value} (hcv : ∀ p, He.fAd K p = He.fAd K d17.at_ → cdv = .ref (He.codeOf K p)) {A : Around} {outer : List Env} {s : Shared} {H : Hp} {E : XK} : LmOk (X17 P w K mg base (He.fAd K d17.at_) cdv A outer s H E) (Zf P w K S) := by
  refine ⟨_, _, t.1 (He.cT K d17.at_) (List.mem_map.mpr ⟨d17.at_, by simp [tf], rfl⟩), hcv d17.at_ rfl, ?_, ?_⟩
  · show ((He.cT K d17.at_).2, ("World.of.<locals>." : Str) ++ "<lambda>") ∈ (Zf P w K S).T
    rw [show ("World.of.<locals>." : Str) ++ "<lambda>" = ("World.of.<locals>.<lambda>" : Str) from by decide +kernel]
    simp [Zf]
  · intro p hp he
    show p.2 = ("World.of.<locals>." : Str) ++ "<lambda>"
    rw [show ("World.of.<locals>." : Str) ++ "<lambda>" = ("World.of.<locals>.<lambda>" : Str) from by decide +kernel]
    have hx := of_decide_eq_true t.2
    simp only [tf, List.map_cons, List.map_nil, List.nodup_cons, List.mem_cons, List.not_mem_nil, or_false, not_or, and_true, List.nodup_nil, not_false_eq_true] at hx
    simp only [Zf, List.mem_cons, List.not_mem_nil, or_false] at hp
    rcases hp with rfl | rfl <;> first | rfl | (exfalso; simp_all)
theorem lm27 (t : TabsB K mg base) {cdv : Value} (hcv : ∀ p, He.fAd K p = He.fAd K d27.at_ → cdv = .ref (He.codeOf K p)) {A : Around} {outer : List Env} {s : Shared} {H : Hp} {E : XK} : LmOk (X27 P w K mg base (He.fAd K d27.at_) cdv A outer s H E) (Zf P w K S) := by
  refine ⟨_, _, t.1 (He.cT K d27.at_) (List.mem_map.mpr ⟨d27.at_, by simp [tf], rfl⟩), hcv d27.at_ rfl, ?_, ?_⟩
  · show ((He.cT K d27.at_).2, ("_law_counting.<locals>." : Str) ++ "<lambda>") ∈ (Zf P w K S).T
    rw [show ("_law_counting.<locals>." : Str) ++ "<lambda>" = ("_law_counting.<locals>.<lambda>" : Str) from by decide +kernel]
    simp [Zf]
  · intro p hp he
    show p.2 = ("_law_counting.<locals>." : Str) ++ "<lambda>"
    rw [show ("_law_counting.<locals>." : Str) ++ "<lambda>" = ("_law_counting.<locals>.<lambda>" : Str) from by decide +kernel]
    have hx := of_decide_eq_true t.2
    simp only [tf, List.map_cons, List.map_nil, List.nodup_cons, List.mem_cons, List.not_mem_nil, or_false, not_or, and_true, List.nodup_nil, not_false_eq_true] at hx
    simp only [Zf, List.mem_cons, List.not_mem_nil, or_false] at hp
    rcases hp with rfl | rfl <;> first | rfl | (exfalso; simp_all)
theorem lv1 (X : K.In h) (Gn : h.Ns mainGlobals mg) (c : He.SaysD fa fn K) (t : TabsB K mg base) (v : Lv P w K mg base S (k + 1) k) (v1 : Lv P w K mg base S k (k - 1)) : Lv P w K mg base S (k + 2) (k + 1) where
  l0 := by
    obtain ⟨fd, F⟩ := c.def_ 0 (d := d0) rfl
    exact ⟨fd, F, fn_mp (k := k + 1) (d := df__wall) (N := N0) F sc0 ⟨rfl, rfl, rfl⟩ rfl rfl rfl (fun ws M => callN_succ (Gp S) fuel k 0 ws M) fun cdv hcv A outer s H E hr kx po => b0 kx po (en_of X Gn c hr v v1)⟩
  l1 := by
    obtain ⟨fd, F⟩ := c.def_ 1 (d := d1) rfl
    exact ⟨fd, F, fn_mp (k := k + 1) (d := df_is_whole) (N := N1) F sc1 ⟨rfl, rfl, rfl⟩ rfl rfl rfl (fun ws M => callN_succ (Gp S) fuel k 1 ws M) fun cdv hcv A outer s H E hr kx po => b1 kx po (en_of X Gn c hr v v1)⟩
  l2 := by
    obtain ⟨fd, F⟩ := c.def_ 2 (d := d2) rfl
    exact ⟨fd, F, fn_mp (k := k + 1) (d := df_look_whole) (N := N2) F sc2 ⟨rfl, rfl, rfl⟩ rfl rfl rfl (fun ws M => callN_succ (Gp S) fuel k 2 ws M) fun cdv hcv A outer s H E hr kx po => b2 kx po (en_of X Gn c hr v v1)⟩
  l3 := by
    obtain ⟨fd, F⟩ := c.def_ 3 (d := d3) rfl
    exact ⟨fd, F, fn_mp (k := k + 1) (d := df_is_day) (N := N3) F sc3 ⟨rfl, rfl, rfl⟩ rfl rfl rfl (fun ws M => callN_succ (Gp S) fuel k 3 ws M) fun cdv hcv A outer s H E hr kx po => b3 kx po (en_of X Gn c hr v v1)⟩
  l4 := by
    obtain ⟨fd, F⟩ := c.def_ 4 (d := d4) rfl
    exact ⟨fd, F, fn_mp (k := k + 1) (d := df_look_day) (N := N4) F sc4 ⟨rfl, rfl, rfl⟩ rfl rfl rfl (fun ws M => callN_succ (Gp S) fuel k 4 ws M) fun cdv hcv A outer s H E hr kx po => b4 kx po (en_of X Gn c hr v v1)⟩
  l5 := by
    obtain ⟨fd, F⟩ := c.def_ 5 (d := d5) rfl
    exact ⟨fd, F, fn_mp (k := k + 1) (d := df_is_name) (N := N5) F sc5 ⟨rfl, rfl, rfl⟩ rfl rfl rfl (fun ws M => callN_succ (Gp S) fuel k 5 ws M) fun cdv hcv A outer s H E hr kx po => b5 kx po (en_of X Gn c hr v v1)⟩
  l6 := by
    obtain ⟨fd, F⟩ := c.def_ 6 (d := d6) rfl
    exact ⟨fd, F, fn_mp (k := k + 1) (d := df_look_name) (N := N6) F sc6 ⟨rfl, rfl, rfl⟩ rfl rfl rfl (fun ws M => callN_succ (Gp S) fuel k 6 ws M) fun cdv hcv A outer s H E hr kx po => b6 kx po (en_of X Gn c hr v v1)⟩
  l7 := by
    obtain ⟨fd, F⟩ := c.def_ 7 (d := d7) rfl
    exact ⟨fd, F, fn_mp (k := k + 1) (d := df_lowest) (N := N7) F sc7 ⟨rfl, rfl, rfl⟩ rfl rfl rfl (fun ws M => callN_succ (Gp S) fuel k 7 ws M) fun cdv hcv A outer s H E hr kx po => b7 kx po (en_of X Gn c hr v v1)⟩
  l8 := by
    obtain ⟨fd, F⟩ := c.def_ 8 (d := d8) rfl
    exact ⟨fd, F, fn_mp (k := k + 1) (d := df_readings) (N := N8) F sc8 ⟨rfl, rfl, rfl⟩ rfl rfl rfl (fun ws M => callN_succ (Gp S) fuel k 8 ws M) fun cdv hcv A outer s H E hr kx po => b8 kx po (en_of X Gn c hr v v1)⟩
  l9 := by
    obtain ⟨fd, F⟩ := c.def_ 9 (d := d9) rfl
    exact ⟨fd, F, fn_mp (k := k + 1) (d := df_mean_by) (N := N9) F sc9 ⟨rfl, rfl, rfl⟩ rfl rfl rfl (fun ws M => callN_succ (Gp S) fuel k 9 ws M) fun cdv hcv A outer s H E hr kx po => b9 kx po (en_of X Gn c hr v v1)⟩
  l10 := by
    obtain ⟨fd, F⟩ := c.def_ 10 (d := d10) rfl
    exact ⟨fd, F, fn_mp (k := k + 1) (d := df_looked_for) (N := N10) F sc10 ⟨rfl, rfl, rfl⟩ rfl rfl rfl (fun ws M => callN_succ (Gp S) fuel k 10 ws M) fun cdv hcv A outer s H E hr kx po => b10 kx po (en_of X Gn c hr v v1)⟩
  l11 := by
    obtain ⟨fd, F⟩ := c.def_ 11 (d := d11) rfl
    exact ⟨fd, F, fn_mp (k := k + 1) (d := df_near) (N := N11) F sc11 ⟨rfl, rfl, rfl⟩ rfl rfl rfl (fun ws M => callN_succ (Gp S) fuel k 11 ws M) fun cdv hcv A outer s H E hr kx po => b11 kx po (en_of X Gn c hr v v1)⟩
  l12 := by
    obtain ⟨fd, F⟩ := c.def_ 12 (d := d12) rfl
    exact ⟨fd, F, fn_mp (k := k + 1) (d := df_driest) (N := N12) F sc12 ⟨rfl, rfl, rfl⟩ rfl rfl rfl (fun ws M => callN_succ (Gp S) fuel k 12 ws M) fun cdv hcv A outer s H E hr kx po => b12 kx po (en_of X Gn c hr v v1)⟩
  l13 := by
    obtain ⟨fd, F⟩ := c.def_ 13 (d := d13) rfl
    exact ⟨fd, F, fn_mp (k := k + 1) (d := df_thing_of) (N := N13) F sc13 ⟨rfl, rfl, rfl⟩ rfl rfl rfl (fun ws M => callN_succ (Gp S) fuel k 13 ws M) fun cdv hcv A outer s H E hr kx po => b13 kx po (en_of X Gn c hr v v1)⟩
  l14 := by
    obtain ⟨fd, F⟩ := c.def_ 14 (d := d14) rfl
    exact ⟨fd, F, fn_mp (k := k + 1) (d := df_in_force) (N := N14) F sc14 ⟨rfl, rfl, rfl⟩ rfl rfl rfl (fun ws M => callN_succ (Gp S) fuel k 14 ws M) fun cdv hcv A outer s H E hr kx po => b14 kx po (en_of X Gn c hr v v1)⟩
  l15 := by
    obtain ⟨fd, F⟩ := c.def_ 15 (d := d15) rfl
    exact ⟨fd, F, fn_mp (k := k + 1) (d := df_deepness) (N := N15) F sc15 ⟨rfl, rfl, rfl⟩ rfl rfl rfl (fun ws M => callN_succ (Gp S) fuel k 15 ws M) fun cdv hcv A outer s H E hr kx po => b15 kx po (en_of X Gn c hr v v1)⟩
  l16 := by
    obtain ⟨fd, F⟩ := c.def_ 16 (d := d16) rfl
    exact ⟨fd, F, fn_mp (k := k + 1) (d := df_World___init__) (N := N16) F sc16 ⟨rfl, rfl, rfl⟩ rfl rfl rfl (fun ws M => callN_succ (Gp S) fuel k 16 ws M) fun cdv hcv A outer s H E hr kx po => b16 kx po (en_of X Gn c hr v v1)⟩
  l17 := by
    obtain ⟨fd, F⟩ := c.def_ 17 (d := d17) rfl
    exact ⟨fd, F, fn_mp (k := k + 1) (d := df_World_of) (N := N17) F sc17 ⟨rfl, rfl, rfl⟩ rfl rfl rfl (fun ws M => callN_succ (Gp S) fuel k 17 ws M) fun cdv hcv A outer s H E hr kx po => b17 kx po (en_of X Gn c hr v v1) (lm17 t hcv) hr.rd4⟩
  l18 := by
    obtain ⟨fd, F⟩ := c.def_ 18 (d := d18) rfl
    exact ⟨fd, F, fn_mp (k := k + 1) (d := df_World_names) (N := N18) F sc18 ⟨rfl, rfl, rfl⟩ rfl rfl rfl (fun ws M => callN_succ (Gp S) fuel k 18 ws M) fun cdv hcv A outer s H E hr kx po => b18 kx po (en_of X Gn c hr v v1)⟩
  l19 := by
    obtain ⟨fd, F⟩ := c.def_ 19 (d := d19) rfl
    exact ⟨fd, F, fn_mp (k := k + 1) (d := df_World_last) (N := N19) F sc19 ⟨rfl, rfl, rfl⟩ rfl rfl rfl (fun ws M => callN_succ (Gp S) fuel k 19 ws M) fun cdv hcv A outer s H E hr kx po => b19 kx po (en_of X Gn c hr v v1)⟩
  l20 := by
    obtain ⟨fd, F⟩ := c.def_ 20 (d := d20) rfl
    exact ⟨fd, F, fn_mp (k := k + 1) (d := df_World_last_share) (N := N20) F sc20 ⟨rfl, rfl, rfl⟩ rfl rfl rfl (fun ws M => callN_succ (Gp S) fuel k 20 ws M) fun cdv hcv A outer s H E hr kx po => b20 kx po (en_of X Gn c hr v v1)⟩
  l21 := by
    obtain ⟨fd, F⟩ := c.def_ 21 (d := d21) rfl
    exact ⟨fd, F, fn_mp (k := k + 1) (d := df_World_last_of) (N := N21) F sc21 ⟨rfl, rfl, rfl⟩ rfl rfl rfl (fun ws M => callN_succ (Gp S) fuel k 21 ws M) fun cdv hcv A outer s H E hr kx po => b21 kx po (en_of X Gn c hr v v1)⟩
  l22 := by
    obtain ⟨fd, F⟩ := c.def_ 22 (d := d22) rfl
    exact ⟨fd, F, fn_mp (k := k + 1) (d := df_World_on_day) (N := N22) F sc22 ⟨rfl, rfl, rfl⟩ rfl rfl rfl (fun ws M => callN_succ (Gp S) fuel k 22 ws M) fun cdv hcv A outer s H E hr kx po => b22 kx po (en_of X Gn c hr v v1)⟩
  l23 := by
    obtain ⟨fd, F⟩ := c.def_ 23 (d := d23) rfl
    exact ⟨fd, F, fn_mp (k := k + 1) (d := df__law_drawn) (N := N23) F sc23 ⟨rfl, rfl, rfl⟩ rfl rfl rfl (fun ws M => callN_succ (Gp S) fuel k 23 ws M) fun cdv hcv A outer s H E hr kx po => b23 kx po (en_of X Gn c hr v v1)⟩
  l24 := by
    obtain ⟨fd, F⟩ := c.def_ 24 (d := d24) rfl
    exact ⟨fd, F, fn_mp (k := k + 1) (d := df__law_holds) (N := N24) F sc24 ⟨rfl, rfl, rfl⟩ rfl rfl rfl (fun ws M => callN_succ (Gp S) fuel k 24 ws M) fun cdv hcv A outer s H E hr kx po => b24 kx po (en_of X Gn c hr v v1)⟩
  l25 := by
    obtain ⟨fd, F⟩ := c.def_ 25 (d := d25) rfl
    exact ⟨fd, F, fn_mp (k := k + 1) (d := df__law_holding) (N := N25) F sc25 ⟨rfl, rfl, rfl⟩ rfl rfl rfl (fun ws M => callN_succ (Gp S) fuel k 25 ws M) fun cdv hcv A outer s H E hr kx po => b25 kx po (en_of X Gn c hr v v1)⟩
  l26 := by
    obtain ⟨fd, F⟩ := c.def_ 26 (d := d26) rfl
    exact ⟨fd, F, fn_mp (k := k + 1) (d := df__law_thing) (N := N26) F sc26 ⟨rfl, rfl, rfl⟩ rfl rfl rfl (fun ws M => callN_succ (Gp S) fuel k 26 ws M) fun cdv hcv A outer s H E hr kx po => b26 kx po (en_of X Gn c hr v v1)⟩
  l27 := by
    obtain ⟨fd, F⟩ := c.def_ 27 (d := d27) rfl
    exact ⟨fd, F, fn_mp (k := k + 1) (d := df__law_counting) (N := N27) F sc27 ⟨rfl, rfl, rfl⟩ rfl rfl rfl (fun ws M => callN_succ (Gp S) fuel k 27 ws M) fun cdv hcv A outer s H E hr kx po => b27 kx po (en_of X Gn c hr v v1) (lm27 t hcv) hr.rd4⟩
  l28 := by
    obtain ⟨fd, F⟩ := c.def_ 28 (d := d28) rfl
    exact ⟨fd, F, fn_mp (k := k + 1) (d := df__law_mean) (N := N28) F sc28 ⟨rfl, rfl, rfl⟩ rfl rfl rfl (fun ws M => callN_succ (Gp S) fuel k 28 ws M) fun cdv hcv A outer s H E hr kx po => b28 kx po (en_of X Gn c hr v v1)⟩
  l29 := by
    obtain ⟨fd, F⟩ := c.def_ 29 (d := d29) rfl
    exact ⟨fd, F, fn_mp (k := k + 1) (d := df__law_apart) (N := N29) F sc29 ⟨rfl, rfl, rfl⟩ rfl rfl rfl (fun ws M => callN_succ (Gp S) fuel k 29 ws M) fun cdv hcv A outer s H E hr kx po => b29 kx po (en_of X Gn c hr v v1)⟩
theorem lvs (X : K.In h) (Gn : h.Ns mainGlobals mg) (c : He.SaysD fa fn K) (t : TabsB K mg base) : ∀ k : Nat, Lv P w K mg base S (k + 1) k ∧ Lv P w K mg base S k (k - 1)
  | 0 => ⟨lv0 c 1, lv0 c 0⟩
  | k + 1 => ⟨lv1 X Gn c t (lvs X Gn c t k).1 (lvs X Gn c t k).2, (lvs X Gn c t k).1⟩
end
theorem facts {P : Program} {w : World} {K : PySem.W.Frag} {h : Heap} {mg : Str → Option Value} {f : Addr} (X : K.In h) (Gn : h.Ns mainGlobals mg) (hfa : mg ("law" : Str) = some (.ref f)) (c : He.SaysD fa fn K) (cx : ex K = true) :
    ∃ fd : FuncData, (∀ (s : Shared) (v : Value), BindsTo s fd ⟨[v], []⟩ [("script", v)]) ∧ ∀ base : Heap, K.In base → base.Ns mainGlobals mg → (∀ p ∈ tf.map (He.cT K), LamX.TabB base mg p.1 p.2) → ∀ S : List Int, FnOk P w K mg base (L2.CX P w) 11 f fd ["script"] (spL (Zf P w K S) (callN (Gp S) fuel 10 30)) := by
  obtain ⟨fd, F⟩ := c.def_ 30 (d := d30) rfl
  have e := hfa.symm.trans (He.glo_ok X Gn (c.fact 29 (f := .glo "law") rfl))
  cases e
  have b := FunD.bindsA (ps := ["script"]) F fun _ _ _ _ _ _ us hl => match us, hl with | [_], _ => rfl
  refine ⟨fd, fun s v => b s [v] rfl, fun base KB GB TB S => ?_⟩
  obtain ⟨v, v1⟩ := lvs (P := P) (w := w) (base := base) (S := S) X Gn c ⟨TB, cx⟩ 9
  exact fn_law (k := 10) (d := df_law) (N := N30) F sc30 ⟨rfl, rfl, rfl⟩ rfl rfl rfl rfl (fun ws M => callN_succ (Gp S) fuel 9 30 ws M) fun cdv A outer s H E hr kx po => b30 kx po (en_of (k := 9) X Gn c hr v v1)
end Bh
open PySem PySem.W PySem.Calls PyProof.Rows in
theorem Bh.holds_of (hm : ∀ S : List Int, S.length ≤ 63 → (∀ z ∈ S, Builtin.Int.intBits z ≤ 1048576) → ∃ M, MP.callN (Bh.Gp S) Bh.fuel 10 Bh.ix_law [.scr] [] = .ok (.bl true) M) : PySem.Challenge.rw_basinhouse_k29_forecasts.Holds := by
  w_on; o_law
  refine HandSHeadRun.head_any (r := OpenLaw.row PySem.Challenge.rw_basinhouse_k29_forecasts) (q := view (OpenLaw.row PySem.Challenge.rw_basinhouse_k29_forecasts).prog [39]) (H := Bh.hk) (ob := Bh.ob) (M := 6000) (loose := Bh.nms) (d := HandSHeadRun.topDef (OpenLaw.row PySem.Challenge.rw_basinhouse_k29_forecasts).prog 39) (kwd := []) Bh.ob_eq
    (by kernel_rfl) (fun s => by kernel_rfl) Bh.run (by kernel_rfl) (by kernel_rfl) (by kernel_rfl) (by rfl) (by first | assumption | decide +kernel) (by decide +kernel) ⟨rfl, rfl, rfl, rfl, rfl, by decide +kernel⟩ ?hw ?hc
  case hw => w_witness2
  case hc =>
    refine LamX.walk_ofTsE (l := PySem.Challenge.rw_basinhouse_k29_forecasts) (n := 63) (k := 11) (x := "script") (CX := fun w => L2.CX (PySem.Challenge.rw_basinhouse_k29_forecasts).prog w) rfl (by decide) (by kernel_rfl) ⟨rfl, by decide, by decide⟩ ?F (fun _ _ _ _ _ z => MP.no_cx z)
    intro w mg fa h Y G hmg0
    obtain ⟨K, KX, c⟩ := Y
    have hmg : mg ("law" : PySem.Str) = some (.ref fa) := by
      have e : (HandSHeadRun.topDef (OpenLaw.row PySem.Challenge.rw_basinhouse_k29_forecasts).prog 39).name = ("law" : PySem.Str) := by kernel_rfl
      rw [← e]
      exact hmg0
    obtain ⟨fd, hb, hF⟩ := Bh.facts (P := (PySem.Challenge.rw_basinhouse_k29_forecasts).prog) (w := w) KX G hmg c.t.d c.more
    exact ⟨K, KX, MP.law_at (Fc := fun S => MP.callN (Bh.Gp S) Bh.fuel 10 30) (Zs := fun S => Bh.Zf _ w K S) KX c hm (fun S => ⟨rfl, rfl, fun p hp => by simp only [Bh.Zf, List.mem_cons, List.not_mem_nil, or_false] at hp; rcases hp with rfl | rfl <;> simp [Bh.tf]⟩) hb hF⟩
end
section
set_option Elab.async false
set_option linter.all false
set_option maxRecDepth 100000
set_option maxHeartbeats 0
namespace Bh
open PySem MP
theorem sat_eqL {α : Type} {x : Out α} {v : α} {M : Mem} (h : x.sat fun a M' => a = v ∧ M <+: M') : ∃ L, x = .ok v (M ++ L) := by
  obtain ⟨a, M', e, rfl, ⟨L, rfl⟩⟩ := sat_ex h
  exact ⟨L, e⟩
theorem sat_eq {α : Type} {x : Out α} {v : α} {M : Mem} (h : x.sat fun a M' => a = v ∧ M' = M) : x = .ok v M := by
  obtain ⟨a, M', e, rfl, rfl⟩ := sat_ex h
  exact e
theorem run_sat {S : List Int} {C C1 : Nat → List Wv → Mem → Out Wv} {d : Df} {ws : List Wv} {M : Mem} {Q : Wv → Mem → Prop} (hn : ws.length = d.npar) (h : (evSl (Gp S) C C1 fuel d.body (ws.map some ++ List.replicate (d.slots - ws.length) none) M).sat fun r M => match r.1 with
    | .ret w => Q w M
    | .nx => Q .non M
    | _ => False) : (runD (Gp S) C C1 fuel d ws M).sat Q := by
  unfold runD
  rw [sat_chk, sat_bind]
  refine ⟨decide_eq_true hn, sat_mono h fun r M h => ?_⟩
  obtain ⟨f, σ⟩ := r
  cases f <;> exact h
theorem drawn_ok (S : List Int) (hl : S.length ≤ 63) (k : Nat) (i many : Int) (hi : 0 ≤ i) (hm : 0 < many) (M : Mem) :
    (callN (Gp S) fuel (k + 1) ix__law_drawn [.scr, .int i, .int many] M).sat fun v M' => M <+: M' ∧ ∃ r : Int, v = .int r ∧ 0 ≤ r ∧ r < many := by
  rw [at__law_drawn]
  refine run_sat rfl ?_
  show (evSl (Gp S) _ _ fuel sl__law_drawn [some .scr, some (.int i), some (.int many), none, none, none] M).sat _
  unfold sl__law_drawn
  simp only [q_nil, q_cons, k_nx, k_ret, k_brk, k_ct, q_asg, q_asgA, q_asgS, q_aug, q_ex, q_ret, q_retN, q_pass, q_brk, q_cont, q_ifs, q_for, q_whl, b_t, b_f, be_t, be_f, ba_t, ba_f, bo_t, bo_f, t_bl, t_int, t_non,     q_var, q_con, q_glb, q_tup, q_lst, q_dict0, q_bin, q_neg, q_not, q_and, q_or, q_ife, q_cmp, q_cmp2, q_attr, q_sub, q_srev, q_call, q_callk, q_meth, q_bm, q_new, q_bi, q_isi, q_lc, q_dc, q_sortk, q_sortv, q_dict2, q_anil, q_acons, q_ival, q_items, q_vals, q_rng,     o_add, o_sub, o_mul, o_fdiv, o_mod, o_pow18, o_addT, ag_add, ag_sub, c_lt, c_gt, c_le, c_ge, c_eq, c_ne, c_is, c_isn, c_in, c_nin, u_tup, u_scr, n_scr, n_tup, n_str, n_abs, n_min2, n_max2, tg_nm, tg_2, tg_3, at_0, at_1, at_2, at_3, at_4, i_int, sat_some, getV_0, getV_s,     List.set_cons_zero, List.set_cons_succ, List.map_cons, List.map_nil, List.replicate_succ, List.replicate_zero, List.cons_append, List.nil_append, List.length_cons, List.length_nil]
  refine ⟨mul_l (by decide), len_ok (by decide), _, eqW_scr (at_new M _), ?_⟩
  generalize hK : kont (Gp S) _ _ fuel _ _ = K
  have h1 : ∀ (c : Int) (a b : Option Wv) (M' : Mem), M <+: M' → K (.nx, [some .scr, some (.int i), some (.int many), some (.int c), a, b]) M' := by
    intro c a b M' hp
    rw [← hK]
    simp only [q_nil, q_cons, k_nx, k_ret, k_brk, k_ct, q_asg, q_asgA, q_asgS, q_aug, q_ex, q_ret, q_retN, q_pass, q_brk, q_cont, q_ifs, q_for, q_whl, b_t, b_f, be_t, be_f, ba_t, ba_f, bo_t, bo_f, t_bl, t_int, t_non,     q_var, q_con, q_glb, q_tup, q_lst, q_dict0, q_bin, q_neg, q_not, q_and, q_or, q_ife, q_cmp, q_cmp2, q_attr, q_sub, q_srev, q_call, q_callk, q_meth, q_bm, q_new, q_bi, q_isi, q_lc, q_dc, q_sortk, q_sortv, q_dict2, q_anil, q_acons, q_ival, q_items, q_vals, q_rng,     o_add, o_sub, o_mul, o_fdiv, o_mod, o_pow18, o_addT, ag_add, ag_sub, c_lt, c_gt, c_le, c_ge, c_eq, c_ne, c_is, c_isn, c_in, c_nin, u_tup, u_scr, n_scr, n_tup, n_str, n_abs, n_min2, n_max2, tg_nm, tg_2, tg_3, at_0, at_1, at_2, at_3, at_4, i_int, sat_some, getV_0, getV_s,     List.set_cons_zero, List.set_cons_succ, List.map_cons, List.map_nil, List.replicate_succ, List.replicate_zero, List.cons_append, List.nil_append, List.length_cons, List.length_nil]
    have m0 : ∀ z : Int, 0 ≤ z % 2147483563 ∧ z % 2147483563 < 2147483563 := fun z => ⟨Int.emod_nonneg _ (by decide), Int.emod_lt_of_pos _ (by decide)⟩
    have m1 : ∀ z : Int, 0 ≤ z % 2147483399 ∧ z % 2147483399 < 2147483399 := fun z => ⟨Int.emod_nonneg _ (by decide), Int.emod_lt_of_pos _ (by decide)⟩
    refine ⟨by decide, mul_r (by decide), mul_l (by decide), by decide, mul_l ?_, by decide, by decide, mul_l ?_, by decide, by decide, by decide, decide_eq_true hm, hp, _, rfl, Int.emod_nonneg _ (by omega), Int.emod_lt_of_pos _ hm⟩
    · have := m0 (c % 2147483563 * 69069 + 104723 * (i + 1)); omega
    · generalize (c % 2147483563 * 69069 + 104723 * (i + 1)) % 2147483563 = z
      have := m1 (z * z + z / 3); omega
  have h2 : ∀ (r : Int) (σ : Sw) (M' : Mem), M <+: M' → 0 ≤ r → r < many → K (.ret (.int r), σ) M' := by
    intro r σ M' hp h1 h2
    rw [← hK]
    simp only [q_nil, q_cons, k_nx, k_ret, k_brk, k_ct, q_asg, q_asgA, q_asgS, q_aug, q_ex, q_ret, q_retN, q_pass, q_brk, q_cont, q_ifs, q_for, q_whl, b_t, b_f, be_t, be_f, ba_t, ba_f, bo_t, bo_f, t_bl, t_int, t_non,     q_var, q_con, q_glb, q_tup, q_lst, q_dict0, q_bin, q_neg, q_not, q_and, q_or, q_ife, q_cmp, q_cmp2, q_attr, q_sub, q_srev, q_call, q_callk, q_meth, q_bm, q_new, q_bi, q_isi, q_lc, q_dc, q_sortk, q_sortv, q_dict2, q_anil, q_acons, q_ival, q_items, q_vals, q_rng,     o_add, o_sub, o_mul, o_fdiv, o_mod, o_pow18, o_addT, ag_add, ag_sub, c_lt, c_gt, c_le, c_ge, c_eq, c_ne, c_is, c_isn, c_in, c_nin, u_tup, u_scr, n_scr, n_tup, n_str, n_abs, n_min2, n_max2, tg_nm, tg_2, tg_3, at_0, at_1, at_2, at_3, at_4, i_int, sat_some, getV_0, getV_s,     List.set_cons_zero, List.set_cons_succ, List.map_cons, List.map_nil, List.replicate_succ, List.replicate_zero, List.cons_append, List.nil_append, List.length_cons, List.length_nil]
    exact ⟨hp, r, rfl, h1, h2⟩
  clear hK
  have hp : M <+: M ++ [Ob.lst []] := List.prefix_append _ _
  cases hS : S with
  | nil =>
    subst hS
    show brS _ _ _ _ false _ _ _ _ _
    simp only [q_nil, q_cons, k_nx, k_ret, k_brk, k_ct, q_asg, q_asgA, q_asgS, q_aug, q_ex, q_ret, q_retN, q_pass, q_brk, q_cont, q_ifs, q_for, q_whl, b_t, b_f, be_t, be_f, ba_t, ba_f, bo_t, bo_f, t_bl, t_int, t_non,     q_var, q_con, q_glb, q_tup, q_lst, q_dict0, q_bin, q_neg, q_not, q_and, q_or, q_ife, q_cmp, q_cmp2, q_attr, q_sub, q_srev, q_call, q_callk, q_meth, q_bm, q_new, q_bi, q_isi, q_lc, q_dc, q_sortk, q_sortv, q_dict2, q_anil, q_acons, q_ival, q_items, q_vals, q_rng,     o_add, o_sub, o_mul, o_fdiv, o_mod, o_pow18, o_addT, ag_add, ag_sub, c_lt, c_gt, c_le, c_ge, c_eq, c_ne, c_is, c_isn, c_in, c_nin, u_tup, u_scr, n_scr, n_tup, n_str, n_abs, n_min2, n_max2, tg_nm, tg_2, tg_3, at_0, at_1, at_2, at_3, at_4, i_int, sat_some, getV_0, getV_s,     List.set_cons_zero, List.set_cons_succ, List.map_cons, List.map_nil, List.replicate_succ, List.replicate_zero, List.cons_append, List.nil_append, List.length_cons, List.length_nil]
    exact h1 _ _ _ _ hp
  | cons s0 S0 =>
    rw [← hS]
    have hb : (!(Gp S).S.isEmpty) = true := by rw [hS]; rfl
    rw [hb]
    have hlen : (0 : Int) < (S.length : Int) := by rw [hS]; simp
    have hmod := Int.emod_nonneg i (show (S.length : Int) ≠ 0 by omega)
    have hmod2 := Int.emod_lt_of_pos i hlen
    have hdiv : 0 ≤ i / (S.length : Int) := Int.ediv_nonneg hi (by omega)
    simp only [q_nil, q_cons, k_nx, k_ret, k_brk, k_ct, q_asg, q_asgA, q_asgS, q_aug, q_ex, q_ret, q_retN, q_pass, q_brk, q_cont, q_ifs, q_for, q_whl, b_t, b_f, be_t, be_f, ba_t, ba_f, bo_t, bo_f, t_bl, t_int, t_non,     q_var, q_con, q_glb, q_tup, q_lst, q_dict0, q_bin, q_neg, q_not, q_and, q_or, q_ife, q_cmp, q_cmp2, q_attr, q_sub, q_srev, q_call, q_callk, q_meth, q_bm, q_new, q_bi, q_isi, q_lc, q_dc, q_sortk, q_sortv, q_dict2, q_anil, q_acons, q_ival, q_items, q_vals, q_rng,     o_add, o_sub, o_mul, o_fdiv, o_mod, o_pow18, o_addT, ag_add, ag_sub, c_lt, c_gt, c_le, c_ge, c_eq, c_ne, c_is, c_isn, c_in, c_nin, u_tup, u_scr, n_scr, n_tup, n_str, n_abs, n_min2, n_max2, tg_nm, tg_2, tg_3, at_0, at_1, at_2, at_3, at_4, i_int, sat_some, getV_0, getV_s,     List.set_cons_zero, List.set_cons_succ, List.map_cons, List.map_nil, List.replicate_succ, List.replicate_zero, List.cons_append, List.nil_append, List.length_cons, List.length_nil]
    obtain ⟨c, hc⟩ : ∃ c, atI S (i % (S.length : Int)) = some c := by
      obtain ⟨j, hj⟩ := Int.eq_ofNat_of_zero_le hmod
      rw [hj]
      refine ⟨S[j]'(by omega), at_nat (List.getElem?_eq_getElem _)⟩
    refine ⟨decide_eq_true hlen, c, hc, ?_⟩
    have hlen2 : (decide (0 < ((Gp S).S.length : Int)) && decide (((Gp S).S.length : Int) < 2 ^ 200)) = true := by
      show (decide (0 < (S.length : Int)) && decide ((S.length : Int) < 2 ^ 200)) = true
      rw [decide_eq_true hlen, decide_eq_true (by omega)]; rfl
    refine ⟨hlen2, ?_⟩
    have e1 : ((Gp S).S.length : Int) = S.length := rfl
    rw [e1]
    generalize hu : i / (S.length : Int) = turn at *
    generalize hK : kont (Gp S) _ _ fuel _ K = K2
    have h3 : ∀ (a b : Option Wv) (M' : Mem), M <+: M' → K2 (.nx, [some .scr, some (.int i), some (.int many), some (.int c), a, b]) M' := by
      intro a b M' hp
      rw [← hK]
      simp only [q_nil, q_cons, k_nx, k_ret, k_brk, k_ct, q_asg, q_asgA, q_asgS, q_aug, q_ex, q_ret, q_retN, q_pass, q_brk, q_cont, q_ifs, q_for, q_whl, b_t, b_f, be_t, be_f, ba_t, ba_f, bo_t, bo_f, t_bl, t_int, t_non,     q_var, q_con, q_glb, q_tup, q_lst, q_dict0, q_bin, q_neg, q_not, q_and, q_or, q_ife, q_cmp, q_cmp2, q_attr, q_sub, q_srev, q_call, q_callk, q_meth, q_bm, q_new, q_bi, q_isi, q_lc, q_dc, q_sortk, q_sortv, q_dict2, q_anil, q_acons, q_ival, q_items, q_vals, q_rng,     o_add, o_sub, o_mul, o_fdiv, o_mod, o_pow18, o_addT, ag_add, ag_sub, c_lt, c_gt, c_le, c_ge, c_eq, c_ne, c_is, c_isn, c_in, c_nin, u_tup, u_scr, n_scr, n_tup, n_str, n_abs, n_min2, n_max2, tg_nm, tg_2, tg_3, at_0, at_1, at_2, at_3, at_4, i_int, sat_some, getV_0, getV_s,     List.set_cons_zero, List.set_cons_succ, List.map_cons, List.map_nil, List.replicate_succ, List.replicate_zero, List.cons_append, List.nil_append, List.length_cons, List.length_nil]
      exact ⟨hlen2, mul_l (by decide), h1 _ _ _ _ hp⟩
    have h4 : ∀ (r : Int) (σ : Sw) (M' : Mem), M <+: M' → 0 ≤ r → r < many → K2 (.ret (.int r), σ) M' := by
      intro r σ M' hp g1 g2
      rw [← hK]
      exact h2 r σ M' hp g1 g2
    clear hK h1 h2
    by_cases hc1 : 1000000000000000000 ≤ c
    · rw [decide_eq_true hc1]
      simp only [q_nil, q_cons, k_nx, k_ret, k_brk, k_ct, q_asg, q_asgA, q_asgS, q_aug, q_ex, q_ret, q_retN, q_pass, q_brk, q_cont, q_ifs, q_for, q_whl, b_t, b_f, be_t, be_f, ba_t, ba_f, bo_t, bo_f, t_bl, t_int, t_non,     q_var, q_con, q_glb, q_tup, q_lst, q_dict0, q_bin, q_neg, q_not, q_and, q_or, q_ife, q_cmp, q_cmp2, q_attr, q_sub, q_srev, q_call, q_callk, q_meth, q_bm, q_new, q_bi, q_isi, q_lc, q_dc, q_sortk, q_sortv, q_dict2, q_anil, q_acons, q_ival, q_items, q_vals, q_rng,     o_add, o_sub, o_mul, o_fdiv, o_mod, o_pow18, o_addT, ag_add, ag_sub, c_lt, c_gt, c_le, c_ge, c_eq, c_ne, c_is, c_isn, c_in, c_nin, u_tup, u_scr, n_scr, n_tup, n_str, n_abs, n_min2, n_max2, tg_nm, tg_2, tg_3, at_0, at_1, at_2, at_3, at_4, i_int, sat_some, getV_0, getV_s,     List.set_cons_zero, List.set_cons_succ, List.map_cons, List.map_nil, List.replicate_succ, List.replicate_zero, List.cons_append, List.nil_append, List.length_cons, List.length_nil]
      by_cases hc2 : turn < 60
      · rw [decide_eq_true hc2]
        simp only [q_nil, q_cons, k_nx, k_ret, k_brk, k_ct, q_asg, q_asgA, q_asgS, q_aug, q_ex, q_ret, q_retN, q_pass, q_brk, q_cont, q_ifs, q_for, q_whl, b_t, b_f, be_t, be_f, ba_t, ba_f, bo_t, bo_f, t_bl, t_int, t_non,     q_var, q_con, q_glb, q_tup, q_lst, q_dict0, q_bin, q_neg, q_not, q_and, q_or, q_ife, q_cmp, q_cmp2, q_attr, q_sub, q_srev, q_call, q_callk, q_meth, q_bm, q_new, q_bi, q_isi, q_lc, q_dc, q_sortk, q_sortv, q_dict2, q_anil, q_acons, q_ival, q_items, q_vals, q_rng,     o_add, o_sub, o_mul, o_fdiv, o_mod, o_pow18, o_addT, ag_add, ag_sub, c_lt, c_gt, c_le, c_ge, c_eq, c_ne, c_is, c_isn, c_in, c_nin, u_tup, u_scr, n_scr, n_tup, n_str, n_abs, n_min2, n_max2, tg_nm, tg_2, tg_3, at_0, at_1, at_2, at_3, at_4, i_int, sat_some, getV_0, getV_s,     List.set_cons_zero, List.set_cons_succ, List.map_cons, List.map_nil, List.replicate_succ, List.replicate_zero, List.cons_append, List.nil_append, List.length_cons, List.length_nil]
        refine ⟨by decide, ?_⟩
        refine whl_rule (fun m σ M' => ∃ t r : Int, σ = [some .scr, some (.int i), some (.int many), some (.int c), some (.int t), some (.int r)] ∧ 0 ≤ t ∧ m = t.toNat ∧ 0 ≤ r ∧ M' = M ++ [Ob.lst []]) ?_ fuel turn.toNat _ _ ⟨turn, _, rfl, hdiv, rfl, Int.ediv_nonneg (by omega) (by decide), rfl⟩ (by unfold fuel; omega)
        rintro m σ M' ⟨t, r, rfl, ht, rfl, hr, rfl⟩
        simp only [q_nil, q_cons, k_nx, k_ret, k_brk, k_ct, q_asg, q_asgA, q_asgS, q_aug, q_ex, q_ret, q_retN, q_pass, q_brk, q_cont, q_ifs, q_for, q_whl, b_t, b_f, be_t, be_f, ba_t, ba_f, bo_t, bo_f, t_bl, t_int, t_non,     q_var, q_con, q_glb, q_tup, q_lst, q_dict0, q_bin, q_neg, q_not, q_and, q_or, q_ife, q_cmp, q_cmp2, q_attr, q_sub, q_srev, q_call, q_callk, q_meth, q_bm, q_new, q_bi, q_isi, q_lc, q_dc, q_sortk, q_sortv, q_dict2, q_anil, q_acons, q_ival, q_items, q_vals, q_rng,     o_add, o_sub, o_mul, o_fdiv, o_mod, o_pow18, o_addT, ag_add, ag_sub, c_lt, c_gt, c_le, c_ge, c_eq, c_ne, c_is, c_isn, c_in, c_nin, u_tup, u_scr, n_scr, n_tup, n_str, n_abs, n_min2, n_max2, tg_nm, tg_2, tg_3, at_0, at_1, at_2, at_3, at_4, i_int, sat_some, getV_0, getV_s,     List.set_cons_zero, List.set_cons_succ, List.map_cons, List.map_nil, List.replicate_succ, List.replicate_zero, List.cons_append, List.nil_append, List.length_cons, List.length_nil]
        by_cases hr0 : 0 < r
        · rw [decide_eq_true hr0]
          simp only [q_nil, q_cons, k_nx, k_ret, k_brk, k_ct, q_asg, q_asgA, q_asgS, q_aug, q_ex, q_ret, q_retN, q_pass, q_brk, q_cont, q_ifs, q_for, q_whl, b_t, b_f, be_t, be_f, ba_t, ba_f, bo_t, bo_f, t_bl, t_int, t_non,     q_var, q_con, q_glb, q_tup, q_lst, q_dict0, q_bin, q_neg, q_not, q_and, q_or, q_ife, q_cmp, q_cmp2, q_attr, q_sub, q_srev, q_call, q_callk, q_meth, q_bm, q_new, q_bi, q_isi, q_lc, q_dc, q_sortk, q_sortv, q_dict2, q_anil, q_acons, q_ival, q_items, q_vals, q_rng,     o_add, o_sub, o_mul, o_fdiv, o_mod, o_pow18, o_addT, ag_add, ag_sub, c_lt, c_gt, c_le, c_ge, c_eq, c_ne, c_is, c_isn, c_in, c_nin, u_tup, u_scr, n_scr, n_tup, n_str, n_abs, n_min2, n_max2, tg_nm, tg_2, tg_3, at_0, at_1, at_2, at_3, at_4, i_int, sat_some, getV_0, getV_s,     List.set_cons_zero, List.set_cons_succ, List.map_cons, List.map_nil, List.replicate_succ, List.replicate_zero, List.cons_append, List.nil_append, List.length_cons, List.length_nil]
          refine ⟨_, rfl, fun h => ?_, fun _ => ⟨by decide, decide_eq_true hm, h4 _ _ _ hp (Int.emod_nonneg _ (by omega)) (Int.emod_lt_of_pos _ hm)⟩⟩
          have ht0 := of_decide_eq_true h
          refine ⟨by decide, _, ?_, _, _, rfl, ?_, rfl, Int.ediv_nonneg hr (by decide), trivial⟩ <;> omega
        · rw [decide_eq_false hr0]
          simp only [q_nil, q_cons, k_nx, k_ret, k_brk, k_ct, q_asg, q_asgA, q_asgS, q_aug, q_ex, q_ret, q_retN, q_pass, q_brk, q_cont, q_ifs, q_for, q_whl, b_t, b_f, be_t, be_f, ba_t, ba_f, bo_t, bo_f, t_bl, t_int, t_non,     q_var, q_con, q_glb, q_tup, q_lst, q_dict0, q_bin, q_neg, q_not, q_and, q_or, q_ife, q_cmp, q_cmp2, q_attr, q_sub, q_srev, q_call, q_callk, q_meth, q_bm, q_new, q_bi, q_isi, q_lc, q_dc, q_sortk, q_sortv, q_dict2, q_anil, q_acons, q_ival, q_items, q_vals, q_rng,     o_add, o_sub, o_mul, o_fdiv, o_mod, o_pow18, o_addT, ag_add, ag_sub, c_lt, c_gt, c_le, c_ge, c_eq, c_ne, c_is, c_isn, c_in, c_nin, u_tup, u_scr, n_scr, n_tup, n_str, n_abs, n_min2, n_max2, tg_nm, tg_2, tg_3, at_0, at_1, at_2, at_3, at_4, i_int, sat_some, getV_0, getV_s,     List.set_cons_zero, List.set_cons_succ, List.map_cons, List.map_nil, List.replicate_succ, List.replicate_zero, List.cons_append, List.nil_append, List.length_cons, List.length_nil]
          exact ⟨_, rfl, fun h => (by cases h), fun _ => h3 _ _ _ hp⟩
      · rw [decide_eq_false hc2]
        simp only [q_nil, q_cons, k_nx, k_ret, k_brk, k_ct, q_asg, q_asgA, q_asgS, q_aug, q_ex, q_ret, q_retN, q_pass, q_brk, q_cont, q_ifs, q_for, q_whl, b_t, b_f, be_t, be_f, ba_t, ba_f, bo_t, bo_f, t_bl, t_int, t_non,     q_var, q_con, q_glb, q_tup, q_lst, q_dict0, q_bin, q_neg, q_not, q_and, q_or, q_ife, q_cmp, q_cmp2, q_attr, q_sub, q_srev, q_call, q_callk, q_meth, q_bm, q_new, q_bi, q_isi, q_lc, q_dc, q_sortk, q_sortv, q_dict2, q_anil, q_acons, q_ival, q_items, q_vals, q_rng,     o_add, o_sub, o_mul, o_fdiv, o_mod, o_pow18, o_addT, ag_add, ag_sub, c_lt, c_gt, c_le, c_ge, c_eq, c_ne, c_is, c_isn, c_in, c_nin, u_tup, u_scr, n_scr, n_tup, n_str, n_abs, n_min2, n_max2, tg_nm, tg_2, tg_3, at_0, at_1, at_2, at_3, at_4, i_int, sat_some, getV_0, getV_s,     List.set_cons_zero, List.set_cons_succ, List.map_cons, List.map_nil, List.replicate_succ, List.replicate_zero, List.cons_append, List.nil_append, List.length_cons, List.length_nil]
        exact h3 _ _ _ hp
    · rw [decide_eq_false hc1]
      simp only [q_nil, q_cons, k_nx, k_ret, k_brk, k_ct, q_asg, q_asgA, q_asgS, q_aug, q_ex, q_ret, q_retN, q_pass, q_brk, q_cont, q_ifs, q_for, q_whl, b_t, b_f, be_t, be_f, ba_t, ba_f, bo_t, bo_f, t_bl, t_int, t_non,     q_var, q_con, q_glb, q_tup, q_lst, q_dict0, q_bin, q_neg, q_not, q_and, q_or, q_ife, q_cmp, q_cmp2, q_attr, q_sub, q_srev, q_call, q_callk, q_meth, q_bm, q_new, q_bi, q_isi, q_lc, q_dc, q_sortk, q_sortv, q_dict2, q_anil, q_acons, q_ival, q_items, q_vals, q_rng,     o_add, o_sub, o_mul, o_fdiv, o_mod, o_pow18, o_addT, ag_add, ag_sub, c_lt, c_gt, c_le, c_ge, c_eq, c_ne, c_is, c_isn, c_in, c_nin, u_tup, u_scr, n_scr, n_tup, n_str, n_abs, n_min2, n_max2, tg_nm, tg_2, tg_3, at_0, at_1, at_2, at_3, at_4, i_int, sat_some, getV_0, getV_s,     List.set_cons_zero, List.set_cons_succ, List.map_cons, List.map_nil, List.replicate_succ, List.replicate_zero, List.cons_append, List.nil_append, List.length_cons, List.length_nil]
      exact h3 _ _ _ hp
/-! ### basics -/
theorem is_whole_int (S : List Int) (k : Nat) (i a b : Int) (M : Mem) : callN (Gp S) fuel (k + 1) ix_is_whole [.int i, .int a, .int b] M = .ok (.bl (decide (a ≤ i) && decide (i ≤ b))) M := by
  refine sat_eq ?_
  rw [at_is_whole]
  refine run_sat rfl ?_
  show (evSl (Gp S) _ _ fuel sl_is_whole [some (.int i), some (.int a), some (.int b)] M).sat _
  unfold sl_is_whole
  simp only [q_nil, q_cons, k_nx, k_ret, k_brk, k_ct, q_asg, q_asgA, q_asgS, q_aug, q_ex, q_ret, q_retN, q_pass, q_brk, q_cont, q_ifs, q_for, q_whl, b_t, b_f, be_t, be_f, ba_t, ba_f, bo_t, bo_f, t_bl, t_int, t_non,     q_var, q_con, q_glb, q_tup, q_lst, q_dict0, q_bin, q_neg, q_not, q_and, q_or, q_ife, q_cmp, q_cmp2, q_attr, q_sub, q_srev, q_call, q_callk, q_meth, q_bm, q_new, q_bi, q_isi, q_lc, q_dc, q_sortk, q_sortv, q_dict2, q_anil, q_acons, q_ival, q_items, q_vals, q_rng,     o_add, o_sub, o_mul, o_fdiv, o_mod, o_pow18, o_addT, ag_add, ag_sub, c_lt, c_gt, c_le, c_ge, c_eq, c_ne, c_is, c_isn, c_in, c_nin, u_tup, u_scr, n_scr, n_tup, n_str, n_abs, n_min2, n_max2, tg_nm, tg_2, tg_3, at_0, at_1, at_2, at_3, at_4, i_int, sat_some, getV_0, getV_s,     List.set_cons_zero, List.set_cons_succ, List.map_cons, List.map_nil, List.replicate_succ, List.replicate_zero, List.cons_append, List.nil_append, List.length_cons, List.length_nil, isi_int, isi_bool, Option.map_some, Bool.not_false]
  by_cases h : a ≤ i
  · rw [decide_eq_true h]; simp
  · rw [decide_eq_false h]; simp
theorem look_whole_ok (S : List Int) (k : Nat) (i a b : Int) (M : Mem) (h1 : a ≤ i) (h2 : i ≤ b) : callN (Gp S) fuel (k + 2) ix_look_whole [.int i, .int a, .int b] M = .ok .non M := by
  refine sat_eq ?_
  rw [at_look_whole]
  refine run_sat rfl ?_
  show (evSl (Gp S) _ _ fuel sl_look_whole [some (.int i), some (.int a), some (.int b)] M).sat _
  unfold sl_look_whole
  simp only [q_nil, q_cons, k_nx, k_ret, k_brk, k_ct, q_asg, q_asgA, q_asgS, q_aug, q_ex, q_ret, q_retN, q_pass, q_brk, q_cont, q_ifs, q_for, q_whl, b_t, b_f, be_t, be_f, ba_t, ba_f, bo_t, bo_f, t_bl, t_int, t_non,     q_var, q_con, q_glb, q_tup, q_lst, q_dict0, q_bin, q_neg, q_not, q_and, q_or, q_ife, q_cmp, q_cmp2, q_attr, q_sub, q_srev, q_call, q_callk, q_meth, q_bm, q_new, q_bi, q_isi, q_lc, q_dc, q_sortk, q_sortv, q_dict2, q_anil, q_acons, q_ival, q_items, q_vals, q_rng,     o_add, o_sub, o_mul, o_fdiv, o_mod, o_pow18, o_addT, ag_add, ag_sub, c_lt, c_gt, c_le, c_ge, c_eq, c_ne, c_is, c_isn, c_in, c_nin, u_tup, u_scr, n_scr, n_tup, n_str, n_abs, n_min2, n_max2, tg_nm, tg_2, tg_3, at_0, at_1, at_2, at_3, at_4, i_int, sat_some, getV_0, getV_s,     List.set_cons_zero, List.set_cons_succ, List.map_cons, List.map_nil, List.replicate_succ, List.replicate_zero, List.cons_append, List.nil_append, List.length_cons, List.length_nil, is_whole_int, sat_ok, decide_eq_true h1, decide_eq_true h2, Bool.and_self, Bool.not_true]
  simp
theorem is_day_int (S : List Int) (k : Nat) (i : Int) (M : Mem) : callN (Gp S) fuel (k + 2) ix_is_day [.int i] M = .ok (.bl (decide (0 ≤ i) && decide (i ≤ 9999))) M := by
  refine sat_eq ?_
  rw [at_is_day]
  refine run_sat rfl ?_
  show (evSl (Gp S) _ _ fuel sl_is_day [some (.int i)] M).sat _
  unfold sl_is_day
  simp only [q_nil, q_cons, k_nx, k_ret, k_brk, k_ct, q_asg, q_asgA, q_asgS, q_aug, q_ex, q_ret, q_retN, q_pass, q_brk, q_cont, q_ifs, q_for, q_whl, b_t, b_f, be_t, be_f, ba_t, ba_f, bo_t, bo_f, t_bl, t_int, t_non,     q_var, q_con, q_glb, q_tup, q_lst, q_dict0, q_bin, q_neg, q_not, q_and, q_or, q_ife, q_cmp, q_cmp2, q_attr, q_sub, q_srev, q_call, q_callk, q_meth, q_bm, q_new, q_bi, q_isi, q_lc, q_dc, q_sortk, q_sortv, q_dict2, q_anil, q_acons, q_ival, q_items, q_vals, q_rng,     o_add, o_sub, o_mul, o_fdiv, o_mod, o_pow18, o_addT, ag_add, ag_sub, c_lt, c_gt, c_le, c_ge, c_eq, c_ne, c_is, c_isn, c_in, c_nin, u_tup, u_scr, n_scr, n_tup, n_str, n_abs, n_min2, n_max2, tg_nm, tg_2, tg_3, at_0, at_1, at_2, at_3, at_4, i_int, sat_some, getV_0, getV_s,     List.set_cons_zero, List.set_cons_succ, List.map_cons, List.map_nil, List.replicate_succ, List.replicate_zero, List.cons_append, List.nil_append, List.length_cons, List.length_nil, is_whole_int, sat_ok, con_LAST_DAY]
  simp
theorem look_day_ok (S : List Int) (k : Nat) (i : Int) (M : Mem) (h1 : 0 ≤ i) (h2 : i ≤ 9999) : callN (Gp S) fuel (k + 3) ix_look_day [.int i] M = .ok .non M := by
  refine sat_eq ?_
  rw [at_look_day]
  refine run_sat rfl ?_
  show (evSl (Gp S) _ _ fuel sl_look_day [some (.int i)] M).sat _
  unfold sl_look_day
  simp only [q_nil, q_cons, k_nx, k_ret, k_brk, k_ct, q_asg, q_asgA, q_asgS, q_aug, q_ex, q_ret, q_retN, q_pass, q_brk, q_cont, q_ifs, q_for, q_whl, b_t, b_f, be_t, be_f, ba_t, ba_f, bo_t, bo_f, t_bl, t_int, t_non,     q_var, q_con, q_glb, q_tup, q_lst, q_dict0, q_bin, q_neg, q_not, q_and, q_or, q_ife, q_cmp, q_cmp2, q_attr, q_sub, q_srev, q_call, q_callk, q_meth, q_bm, q_new, q_bi, q_isi, q_lc, q_dc, q_sortk, q_sortv, q_dict2, q_anil, q_acons, q_ival, q_items, q_vals, q_rng,     o_add, o_sub, o_mul, o_fdiv, o_mod, o_pow18, o_addT, ag_add, ag_sub, c_lt, c_gt, c_le, c_ge, c_eq, c_ne, c_is, c_isn, c_in, c_nin, u_tup, u_scr, n_scr, n_tup, n_str, n_abs, n_min2, n_max2, tg_nm, tg_2, tg_3, at_0, at_1, at_2, at_3, at_4, i_int, sat_some, getV_0, getV_s,     List.set_cons_zero, List.set_cons_succ, List.map_cons, List.map_nil, List.replicate_succ, List.replicate_zero, List.cons_append, List.nil_append, List.length_cons, List.length_nil, is_day_int, sat_ok, decide_eq_true h1, decide_eq_true h2, Bool.and_self, Bool.not_true]
  simp
/-- a name: its signs are small letters -/
def small : Str := "abcdefghijklmnopqrstuvwxyz"
def nameOk (s : Str) : Bool := decide (1 ≤ s.length) && decide (s.length ≤ 8) && s.cps.toList.all fun c => !(Builtin.Str.occurrences small ⟨#[c]⟩ 0 small.length 1).isEmpty
theorem is_name_ok (S : List Int) (k : Nat) (s : Str) (M : Mem) (h : nameOk s = true) : ∃ L, callN (Gp S) fuel (k + 1) ix_is_name [.str s] M = .ok (.bl true) (M ++ L) := by
  unfold nameOk at h
  rw [Bool.and_eq_true, Bool.and_eq_true] at h
  obtain ⟨⟨h1, h2⟩, h3⟩ := h
  have g1 := of_decide_eq_true h1
  have g2 := of_decide_eq_true h2
  have hz : 8 ≤ sizeLine := by decide
  refine sat_eqL ?_
  rw [at_is_name]
  refine run_sat rfl ?_
  show (evSl (Gp S) _ _ fuel sl_is_name [some (.str s), none] M).sat _
  unfold sl_is_name
  simp only [q_nil, q_cons, k_nx, k_ret, k_brk, k_ct, q_asg, q_asgA, q_asgS, q_aug, q_ex, q_ret, q_retN, q_pass, q_brk, q_cont, q_ifs, q_for, q_whl, b_t, b_f, be_t, be_f, ba_t, ba_f, bo_t, bo_f, t_bl, t_int, t_non,     q_var, q_con, q_glb, q_tup, q_lst, q_dict0, q_bin, q_neg, q_not, q_and, q_or, q_ife, q_cmp, q_cmp2, q_attr, q_sub, q_srev, q_call, q_callk, q_meth, q_bm, q_new, q_bi, q_isi, q_lc, q_dc, q_sortk, q_sortv, q_dict2, q_anil, q_acons, q_ival, q_items, q_vals, q_rng,     o_add, o_sub, o_mul, o_fdiv, o_mod, o_pow18, o_addT, ag_add, ag_sub, c_lt, c_gt, c_le, c_ge, c_eq, c_ne, c_is, c_isn, c_in, c_nin, u_tup, u_scr, n_scr, n_tup, n_str, n_abs, n_min2, n_max2, tg_nm, tg_2, tg_3, at_0, at_1, at_2, at_3, at_4, i_int, sat_some, getV_0, getV_s,     List.set_cons_zero, List.set_cons_succ, List.map_cons, List.map_nil, List.replicate_succ, List.replicate_zero, List.cons_append, List.nil_append, List.length_cons, List.length_nil, isi_str, Option.map_some]
  refine ⟨len_ok (by omega), ?_⟩
  rw [if_pos (decide_eq_true (by omega))]
  rw [decide_eq_true (show ((s.length : Nat) : Int) ≤ 8 by omega)]
  simp only [q_nil, q_cons, k_nx, k_ret, k_brk, k_ct, q_asg, q_asgA, q_asgS, q_aug, q_ex, q_ret, q_retN, q_pass, q_brk, q_cont, q_ifs, q_for, q_whl, b_t, b_f, be_t, be_f, ba_t, ba_f, bo_t, bo_f, t_bl, t_int, t_non,     q_var, q_con, q_glb, q_tup, q_lst, q_dict0, q_bin, q_neg, q_not, q_and, q_or, q_ife, q_cmp, q_cmp2, q_attr, q_sub, q_srev, q_call, q_callk, q_meth, q_bm, q_new, q_bi, q_isi, q_lc, q_dc, q_sortk, q_sortv, q_dict2, q_anil, q_acons, q_ival, q_items, q_vals, q_rng,     o_add, o_sub, o_mul, o_fdiv, o_mod, o_pow18, o_addT, ag_add, ag_sub, c_lt, c_gt, c_le, c_ge, c_eq, c_ne, c_is, c_isn, c_in, c_nin, u_tup, u_scr, n_scr, n_tup, n_str, n_abs, n_min2, n_max2, tg_nm, tg_2, tg_3, at_0, at_1, at_2, at_3, at_4, i_int, sat_some, getV_0, getV_s,     List.set_cons_zero, List.set_cons_succ, List.map_cons, List.map_nil, List.replicate_succ, List.replicate_zero, List.cons_append, List.nil_append, List.length_cons, List.length_nil, walkV]
  have e := lc_pure (G := Gp S) (t := .nm 1) (c := evE (Gp S) (callN (Gp S) fuel k) (callN (Gp S) fuel (k - 1)) (.con (.bl true))) (e := evE (Gp S) (callN (Gp S) fuel k) (callN (Gp S) fuel (k - 1)) (.cmp .in_ (.var 1) (.glb "SMALL"))) (ps := []) (σ := [some (.str s), none]) (M := M) (xs := s.cps.toList.map fun c => .str ⟨#[c]⟩)
    (fun _ => true) (fun _ => .bl true) rfl (by rw [List.length_map]; exact Nat.le_trans (by show s.length ≤ 8; omega) hz) (fun x hx => by
      obtain ⟨c, hc, rfl⟩ := List.mem_map.mp hx
      refine ⟨[some (.str s), some (.str ⟨#[c]⟩)], rfl, ⟨.bl true, by simp only [evE], rfl⟩, fun _ => sat_eq ?_⟩
      simp only [q_nil, q_cons, k_nx, k_ret, k_brk, k_ct, q_asg, q_asgA, q_asgS, q_aug, q_ex, q_ret, q_retN, q_pass, q_brk, q_cont, q_ifs, q_for, q_whl, b_t, b_f, be_t, be_f, ba_t, ba_f, bo_t, bo_f, t_bl, t_int, t_non,     q_var, q_con, q_glb, q_tup, q_lst, q_dict0, q_bin, q_neg, q_not, q_and, q_or, q_ife, q_cmp, q_cmp2, q_attr, q_sub, q_srev, q_call, q_callk, q_meth, q_bm, q_new, q_bi, q_isi, q_lc, q_dc, q_sortk, q_sortv, q_dict2, q_anil, q_acons, q_ival, q_items, q_vals, q_rng,     o_add, o_sub, o_mul, o_fdiv, o_mod, o_pow18, o_addT, ag_add, ag_sub, c_lt, c_gt, c_le, c_ge, c_eq, c_ne, c_is, c_isn, c_in, c_nin, u_tup, u_scr, n_scr, n_tup, n_str, n_abs, n_min2, n_max2, tg_nm, tg_2, tg_3, at_0, at_1, at_2, at_3, at_4, i_int, sat_some, getV_0, getV_s,     List.set_cons_zero, List.set_cons_succ, List.map_cons, List.map_nil, List.replicate_succ, List.replicate_zero, List.cons_append, List.nil_append, List.length_cons, List.length_nil, con_SMALL]
      refine ⟨_, rfl, ?_, trivial⟩
      have := List.all_eq_true.mp h3 c hc
      show Wv.bl (!(Builtin.Str.occurrences small ⟨#[c]⟩ 0 small.length 1).isEmpty) = _
      rw [this])
  refine sat_of e ?_
  have e2 := n_all (Gp S) (M := M ++ [.lst ((((s.cps.toList.map fun c => Wv.str ⟨#[c]⟩).filter fun _ => true).map fun _ => Wv.bl true))]) M.length ((s.cps.toList.map fun _ => true)) (by rw [at_new, List.filter_eq_self.mpr (fun _ _ => rfl), List.map_map, List.map_map]; rfl)
  refine sat_of e2 ?_
  exact ⟨by simp, List.prefix_append _ _⟩
theorem look_name_ok (S : List Int) (k : Nat) (s : Str) (M : Mem) (h : nameOk s = true) : ∃ L, callN (Gp S) fuel (k + 2) ix_look_name [.str s] M = .ok .non (M ++ L) := by
  obtain ⟨L, e⟩ := is_name_ok S k s M h
  refine ⟨L, sat_eq ?_⟩
  rw [at_look_name]
  refine run_sat rfl ?_
  show (evSl (Gp S) _ _ fuel sl_look_name [some (.str s)] M).sat _
  unfold sl_look_name
  simp only [q_nil, q_cons, k_nx, k_ret, k_brk, k_ct, q_asg, q_asgA, q_asgS, q_aug, q_ex, q_ret, q_retN, q_pass, q_brk, q_cont, q_ifs, q_for, q_whl, b_t, b_f, be_t, be_f, ba_t, ba_f, bo_t, bo_f, t_bl, t_int, t_non,     q_var, q_con, q_glb, q_tup, q_lst, q_dict0, q_bin, q_neg, q_not, q_and, q_or, q_ife, q_cmp, q_cmp2, q_attr, q_sub, q_srev, q_call, q_callk, q_meth, q_bm, q_new, q_bi, q_isi, q_lc, q_dc, q_sortk, q_sortv, q_dict2, q_anil, q_acons, q_ival, q_items, q_vals, q_rng,     o_add, o_sub, o_mul, o_fdiv, o_mod, o_pow18, o_addT, ag_add, ag_sub, c_lt, c_gt, c_le, c_ge, c_eq, c_ne, c_is, c_isn, c_in, c_nin, u_tup, u_scr, n_scr, n_tup, n_str, n_abs, n_min2, n_max2, tg_nm, tg_2, tg_3, at_0, at_1, at_2, at_3, at_4, i_int, sat_some, getV_0, getV_s,     List.set_cons_zero, List.set_cons_succ, List.map_cons, List.map_nil, List.replicate_succ, List.replicate_zero, List.cons_append, List.nil_append, List.length_cons, List.length_nil, e, sat_ok, Bool.not_true]
  simp
/-! ### forecasts: numbers -/
theorem lowest_ok (S : List Int) (k : Nat) (t b : Int) (M : Mem) (ht : 0 ≤ t) (hb : 0 < b) (hb2 : b < 1000000000) :
    callN (Gp S) fuel (k + 1) ix_lowest [.int t, .int b] M = .ok (.tup [.int (t / (Int.gcd t b : Int)), .int (b / (Int.gcd t b : Int))]) M := by
  refine sat_eq ?_
  rw [at_lowest]
  refine run_sat rfl ?_
  show (evSl (Gp S) _ _ fuel sl_lowest [some (.int t), some (.int b), none, none] M).sat _
  unfold sl_lowest
  simp only [q_nil, q_cons, k_nx, k_ret, k_brk, k_ct, q_asg, q_asgA, q_asgS, q_aug, q_ex, q_ret, q_retN, q_pass, q_brk, q_cont, q_ifs, q_for, q_whl, b_t, b_f, be_t, be_f, ba_t, ba_f, bo_t, bo_f, t_bl, t_int, t_non,     q_var, q_con, q_glb, q_tup, q_lst, q_dict0, q_bin, q_neg, q_not, q_and, q_or, q_ife, q_cmp, q_cmp2, q_attr, q_sub, q_srev, q_call, q_callk, q_meth, q_bm, q_new, q_bi, q_isi, q_lc, q_dc, q_sortk, q_sortv, q_dict2, q_anil, q_acons, q_ival, q_items, q_vals, q_rng,     o_add, o_sub, o_mul, o_fdiv, o_mod, o_pow18, o_addT, ag_add, ag_sub, c_lt, c_gt, c_le, c_ge, c_eq, c_ne, c_is, c_isn, c_in, c_nin, u_tup, u_scr, n_scr, n_tup, n_str, n_abs, n_min2, n_max2, tg_nm, tg_2, tg_3, at_0, at_1, at_2, at_3, at_4, i_int, sat_some, getV_0, getV_s,     List.set_cons_zero, List.set_cons_succ, List.map_cons, List.map_nil, List.replicate_succ, List.replicate_zero, List.cons_append, List.nil_append, List.length_cons, List.length_nil]
  refine ⟨len_ok (by decide), ?_⟩
  refine whl_rule (fun m σ M' => ∃ x y : Int, σ = [some (.int t), some (.int b), some (.int x), some (.int y)] ∧ 0 ≤ x ∧ 0 ≤ y ∧ m = y.toNat ∧ Int.gcd x y = Int.gcd t b ∧ M' = M) ?_ fuel b.toNat _ _ ⟨t, b, rfl, ht, by omega, rfl, rfl, rfl⟩ (by unfold fuel; omega)
  rintro m σ M' ⟨x, y, rfl, hx, hy, rfl, hg, rfl⟩
  simp only [q_nil, q_cons, k_nx, k_ret, k_brk, k_ct, q_asg, q_asgA, q_asgS, q_aug, q_ex, q_ret, q_retN, q_pass, q_brk, q_cont, q_ifs, q_for, q_whl, b_t, b_f, be_t, be_f, ba_t, ba_f, bo_t, bo_f, t_bl, t_int, t_non,     q_var, q_con, q_glb, q_tup, q_lst, q_dict0, q_bin, q_neg, q_not, q_and, q_or, q_ife, q_cmp, q_cmp2, q_attr, q_sub, q_srev, q_call, q_callk, q_meth, q_bm, q_new, q_bi, q_isi, q_lc, q_dc, q_sortk, q_sortv, q_dict2, q_anil, q_acons, q_ival, q_items, q_vals, q_rng,     o_add, o_sub, o_mul, o_fdiv, o_mod, o_pow18, o_addT, ag_add, ag_sub, c_lt, c_gt, c_le, c_ge, c_eq, c_ne, c_is, c_isn, c_in, c_nin, u_tup, u_scr, n_scr, n_tup, n_str, n_abs, n_min2, n_max2, tg_nm, tg_2, tg_3, at_0, at_1, at_2, at_3, at_4, i_int, sat_some, getV_0, getV_s,     List.set_cons_zero, List.set_cons_succ, List.map_cons, List.map_nil, List.replicate_succ, List.replicate_zero, List.cons_append, List.nil_append, List.length_cons, List.length_nil]
  refine ⟨_, eqW_int y 0, _, rfl, fun h => ?_, fun h => ?_⟩
  · have hy0 : y ≠ 0 := by
      intro e; rw [e] at h; simp at h
    refine ⟨decide_eq_true (by omega), len_ok (by decide), _, ?_, _, _, rfl, hy, Int.emod_nonneg _ hy0, rfl, ?_, trivial⟩
    · have := Int.emod_lt_of_pos x (show 0 < y by omega)
      have := Int.emod_nonneg x hy0
      omega
    · rw [← hg]
      obtain ⟨n, rfl⟩ := Int.eq_ofNat_of_zero_le hx
      obtain ⟨m, rfl⟩ := Int.eq_ofNat_of_zero_le hy
      show Nat.gcd m (n % m) = Nat.gcd n m
      rw [Nat.gcd_comm n m, Nat.gcd_rec m n, Nat.gcd_comm]
  · have hy0 : y = 0 := by
      by_cases e : y = 0
      · exact e
      · rw [decide_eq_false e] at h; cases h
    subst hy0
    have hgx : x = (Int.gcd t b : Int) := by
      rw [← hg, Int.gcd_zero_right]
      omega
    have hpos : 0 < Int.gcd t b := Int.gcd_pos_of_ne_zero_right t (by omega)
    have hle : (Int.gcd t b : Int) ≤ b := Int.le_of_dvd hb (Int.gcd_dvd_right ..)
    have hdec : (decide (0 < x) && decide (x < 2 ^ 200)) = true := by
      rw [decide_eq_true (by omega), decide_eq_true (by omega)]; rfl
    refine ⟨hdec, hdec, len_ok (by decide), ?_, trivial⟩
    rw [← hgx]
/-- days apart, round the year -/
def circ (a b : Int) : Int := if 365 - (if a % 365 - b % 365 < 0 then -(a % 365 - b % 365) else a % 365 - b % 365) < (if a % 365 - b % 365 < 0 then -(a % 365 - b % 365) else a % 365 - b % 365) then 365 - (if a % 365 - b % 365 < 0 then -(a % 365 - b % 365) else a % 365 - b % 365) else (if a % 365 - b % 365 < 0 then -(a % 365 - b % 365) else a % 365 - b % 365)
theorem circ_le (a b : Int) : circ a b ≤ 182 := by
  unfold circ
  have := Int.emod_nonneg a (show (365 : Int) ≠ 0 by decide)
  have := Int.emod_lt_of_pos a (show (0 : Int) < 365 by decide)
  have := Int.emod_nonneg b (show (365 : Int) ≠ 0 by decide)
  have := Int.emod_lt_of_pos b (show (0 : Int) < 365 by decide)
  omega
theorem near_ok (S : List Int) (k : Nat) (a b : Int) (M : Mem) : callN (Gp S) fuel (k + 1) ix_near [.int a, .int b] M = .ok (.int (circ a b)) M := by
  refine sat_eq ?_
  rw [at_near]
  refine run_sat rfl ?_
  show (evSl (Gp S) _ _ fuel sl_near [some (.int a), some (.int b), none] M).sat _
  unfold sl_near
  simp only [q_nil, q_cons, k_nx, k_ret, k_brk, k_ct, q_asg, q_asgA, q_asgS, q_aug, q_ex, q_ret, q_retN, q_pass, q_brk, q_cont, q_ifs, q_for, q_whl, b_t, b_f, be_t, be_f, ba_t, ba_f, bo_t, bo_f, t_bl, t_int, t_non,     q_var, q_con, q_glb, q_tup, q_lst, q_dict0, q_bin, q_neg, q_not, q_and, q_or, q_ife, q_cmp, q_cmp2, q_attr, q_sub, q_srev, q_call, q_callk, q_meth, q_bm, q_new, q_bi, q_isi, q_lc, q_dc, q_sortk, q_sortv, q_dict2, q_anil, q_acons, q_ival, q_items, q_vals, q_rng,     o_add, o_sub, o_mul, o_fdiv, o_mod, o_pow18, o_addT, ag_add, ag_sub, c_lt, c_gt, c_le, c_ge, c_eq, c_ne, c_is, c_isn, c_in, c_nin, u_tup, u_scr, n_scr, n_tup, n_str, n_abs, n_min2, n_max2, tg_nm, tg_2, tg_3, at_0, at_1, at_2, at_3, at_4, i_int, sat_some, getV_0, getV_s,     List.set_cons_zero, List.set_cons_succ, List.map_cons, List.map_nil, List.replicate_succ, List.replicate_zero, List.cons_append, List.nil_append, List.length_cons, List.length_nil, con_YEAR]
  exact ⟨by decide, by decide, rfl, trivial⟩
end Bh
end
section
set_option Elab.async false
set_option linter.all false
set_option maxRecDepth 100000
set_option maxHeartbeats 0
namespace Bh
open PySem MP
/-! ### truths -/
/-- a truth: words of its own, or the void of one -/
inductive Tr where
  | bs (w : Str) (rest : List Wv)
  | vd (t : Tr)
def Tr.w : Tr → Wv
  | .bs w rest => .tup (.str w :: rest)
  | .vd t => .tup [.str "void", t.w]
def Tr.dep : Tr → Nat
  | .bs _ _ => 0
  | .vd t => t.dep + 1
def Tr.ok : Tr → Prop
  | .bs w _ => w ≠ ("void" : Str) ∧ SeqAt.shaped (.str w) = true
  | .vd t => t.ok
theorem void_shaped : SeqAt.shaped (.str "void") = true := by decide +kernel
theorem Tr.head {M : Mem} (S : List Int) (t : Tr) (h : t.ok) : ∃ w rest, t.w = .tup (.str w :: rest) ∧ SeqAt.shaped (.str w) = true ∧ (w = ("void" : Str) ↔ t.dep ≠ 0) := by
  cases t with
  | bs w rest => exact ⟨w, rest, rfl, h.2, ⟨fun e => absurd e h.1, fun e => absurd rfl e⟩⟩
  | vd t => exact ⟨_, _, rfl, void_shaped, ⟨fun _ => by simp [Tr.dep], fun _ => rfl⟩⟩
theorem deepness_ok (S : List Int) (k : Nat) (t : Tr) (M : Mem) (h : t.ok) (hd : t.dep < fuel) : callN (Gp S) fuel (k + 1) ix_deepness [t.w] M = .ok (.int t.dep) M := by
  refine sat_eq ?_
  rw [at_deepness]
  refine run_sat rfl ?_
  show (evSl (Gp S) _ _ fuel sl_deepness [some t.w, none] M).sat _
  unfold sl_deepness
  simp only [q_nil, q_cons, k_nx, k_ret, k_brk, k_ct, q_asg, q_asgA, q_asgS, q_aug, q_ex, q_ret, q_retN, q_pass, q_brk, q_cont, q_ifs, q_for, q_whl, b_t, b_f, be_t, be_f, ba_t, ba_f, bo_t, bo_f, t_bl, t_int, t_non,     q_var, q_con, q_glb, q_tup, q_lst, q_dict0, q_bin, q_neg, q_not, q_and, q_or, q_ife, q_cmp, q_cmp2, q_attr, q_sub, q_srev, q_call, q_callk, q_meth, q_bm, q_new, q_bi, q_isi, q_lc, q_dc, q_sortk, q_sortv, q_dict2, q_anil, q_acons, q_ival, q_items, q_vals, q_rng,     o_add, o_sub, o_mul, o_fdiv, o_mod, o_pow18, o_addT, ag_add, ag_sub, c_lt, c_gt, c_le, c_ge, c_eq, c_ne, c_is, c_isn, c_in, c_nin, u_tup, u_scr, n_scr, n_tup, n_str, n_abs, n_min2, n_max2, tg_nm, tg_2, tg_3, at_0, at_1, at_2, at_3, at_4, i_int, sat_some, getV_0, getV_s,     List.set_cons_zero, List.set_cons_succ, List.map_cons, List.map_nil, List.replicate_succ, List.replicate_zero, List.cons_append, List.nil_append, List.length_cons, List.length_nil]
  refine whl_rule (fun m σ M' => ∃ (u : Tr) (n : Nat), σ = [some u.w, some (.int n)] ∧ u.ok ∧ n + u.dep = t.dep ∧ m = u.dep ∧ M' = M) ?_ fuel t.dep _ _ ⟨t, 0, rfl, h, by omega, rfl, rfl⟩ hd
  rintro m σ M' ⟨u, n, rfl, hu, hn, rfl, rfl⟩
  obtain ⟨w, rest, e, hs, hv⟩ := Tr.head (M := M') S u hu
  rw [e]
  simp only [q_nil, q_cons, k_nx, k_ret, k_brk, k_ct, q_asg, q_asgA, q_asgS, q_aug, q_ex, q_ret, q_retN, q_pass, q_brk, q_cont, q_ifs, q_for, q_whl, b_t, b_f, be_t, be_f, ba_t, ba_f, bo_t, bo_f, t_bl, t_int, t_non,     q_var, q_con, q_glb, q_tup, q_lst, q_dict0, q_bin, q_neg, q_not, q_and, q_or, q_ife, q_cmp, q_cmp2, q_attr, q_sub, q_srev, q_call, q_callk, q_meth, q_bm, q_new, q_bi, q_isi, q_lc, q_dc, q_sortk, q_sortv, q_dict2, q_anil, q_acons, q_ival, q_items, q_vals, q_rng,     o_add, o_sub, o_mul, o_fdiv, o_mod, o_pow18, o_addT, ag_add, ag_sub, c_lt, c_gt, c_le, c_ge, c_eq, c_ne, c_is, c_isn, c_in, c_nin, u_tup, u_scr, n_scr, n_tup, n_str, n_abs, n_min2, n_max2, tg_nm, tg_2, tg_3, at_0, at_1, at_2, at_3, at_4, i_int, sat_some, getV_0, getV_s,     List.set_cons_zero, List.set_cons_succ, List.map_cons, List.map_nil, List.replicate_succ, List.replicate_zero, List.cons_append, List.nil_append, List.length_cons, List.length_nil, con_VOID]
  refine ⟨_, eqW_str hs void_shaped, _, rfl, fun hc => ?_, fun hc => ?_⟩
  · have hw : w = ("void" : Str) := of_decide_eq_true hc
    cases u with
    | bs w' rest' => exact absurd rfl (hv.mp hw)
    | vd u =>
      simp only [Tr.w, Wv.tup.injEq, List.cons.injEq, Wv.str.injEq] at e
      obtain ⟨_, e2⟩ := e
      rw [← e2]
      simp only [q_nil, q_cons, k_nx, k_ret, k_brk, k_ct, q_asg, q_asgA, q_asgS, q_aug, q_ex, q_ret, q_retN, q_pass, q_brk, q_cont, q_ifs, q_for, q_whl, b_t, b_f, be_t, be_f, ba_t, ba_f, bo_t, bo_f, t_bl, t_int, t_non,     q_var, q_con, q_glb, q_tup, q_lst, q_dict0, q_bin, q_neg, q_not, q_and, q_or, q_ife, q_cmp, q_cmp2, q_attr, q_sub, q_srev, q_call, q_callk, q_meth, q_bm, q_new, q_bi, q_isi, q_lc, q_dc, q_sortk, q_sortv, q_dict2, q_anil, q_acons, q_ival, q_items, q_vals, q_rng,     o_add, o_sub, o_mul, o_fdiv, o_mod, o_pow18, o_addT, ag_add, ag_sub, c_lt, c_gt, c_le, c_ge, c_eq, c_ne, c_is, c_isn, c_in, c_nin, u_tup, u_scr, n_scr, n_tup, n_str, n_abs, n_min2, n_max2, tg_nm, tg_2, tg_3, at_0, at_1, at_2, at_3, at_4, i_int, sat_some, getV_0, getV_s,     List.set_cons_zero, List.set_cons_succ, List.map_cons, List.map_nil, List.replicate_succ, List.replicate_zero, List.cons_append, List.nil_append, List.length_cons, List.length_nil]
      refine ⟨u.dep, by simp [Tr.dep], u, n + 1, ?_, hu, ?_, rfl, trivial⟩
      · simp
      · simp only [Tr.dep] at hn; omega
  · have hw : ¬ w = ("void" : Str) := of_decide_eq_false hc
    have : u.dep = 0 := by
      by_cases z : u.dep = 0
      · exact z
      · exact absurd (hv.mpr z) hw
    refine ⟨?_, trivial⟩
    congr 1
    omega
/-! ### in_force -/
def inner : Wv → Wv
  | .tup [_, u] => u
  | w => w
def stepG (g : List Wv) (v : Wv) : List Wv := if v ∈ g then g else addK g (inner v)
def layer (kn : List Tr) (i : Nat) : List Wv := (kn.filter fun t => decide (t.dep = i)).map Tr.w
def goneOf (kn : List Tr) : List Wv := (layer kn 1).foldl stepG ((layer kn 2).foldl stepG ((layer kn 3).foldl stepG []))
def forceOf (kn : List Tr) : List Tr := kn.filter fun t => decide (t.dep = 0) && decide (t.w ∉ goneOf kn)
theorem filter_map_w (kn : List Tr) (p : Tr → Bool) (q : Wv → Bool) (h : ∀ t ∈ kn, q t.w = p t) : (kn.map Tr.w).filter q = (kn.filter p).map Tr.w := by
  induction kn with
  | nil => rfl
  | cons t kn ih =>
    simp only [List.map_cons, List.filter_cons, h t (List.mem_cons_self ..)]
    rw [ih fun t ht => h t (List.mem_cons_of_mem _ ht)]
    cases p t <;> simp
/-- the layer of a depth, found among the known ones -/
theorem layer_lc (S : List Int) (k : Nat) (kn : List Tr) (kd : Nat) (d : Nat) (σ : Sw) (M : Mem) (a b c : Option Wv) (hk : ∀ t ∈ kn, t.ok ∧ t.dep < fuel) (hl : kn.length ≤ sizeLine) (x0 x1 x3 : Option Wv) :
    lcGo (Gp S) (.nm 7) (evE (Gp S) (callN (Gp S) fuel (k + 1)) (callN (Gp S) fuel k) (.cmp .eq (.call ix_deepness (.cons (.var 7) .nil) []) (.bin .add (.var 2) (.con (.int 1))))) (evE (Gp S) (callN (Gp S) fuel (k + 1)) (callN (Gp S) fuel k) (.var 7)) [(kd, .dct false (sets (kn.map Tr.w)))] (kn.map Tr.w) [x0, x1, some (.int d), x3, a, b, c, none] [] M = .ok (layer kn (d + 1)) M := by
  have e := lc_pure (G := Gp S) (t := .nm 7) (c := evE (Gp S) (callN (Gp S) fuel (k + 1)) (callN (Gp S) fuel k) (.cmp .eq (.call ix_deepness (.cons (.var 7) .nil) []) (.bin .add (.var 2) (.con (.int 1))))) (e := evE (Gp S) (callN (Gp S) fuel (k + 1)) (callN (Gp S) fuel k) (.var 7)) (ps := [(kd, .dct false (sets (kn.map Tr.w)))]) (σ := [x0, x1, some (.int d), x3, a, b, c, none]) (M := M) (xs := kn.map Tr.w)
    (fun v => match callN (Gp S) fuel (k + 1) ix_deepness [v] M with | .ok (.int i) _ => decide (i = ((d : Int) + 1)) | _ => false) id rfl (by rw [List.length_map]; exact hl) (fun x hx => by
      obtain ⟨t, ht, rfl⟩ := List.mem_map.mp hx
      refine ⟨[x0, x1, some (.int d), x3, a, b, c, some t.w], rfl, ⟨.bl (decide ((t.dep : Int) = (d : Int) + 1)), sat_eq ?_, ?_⟩, fun _ => sat_eq ?_⟩
      · simp only [q_nil, q_cons, k_nx, k_ret, k_brk, k_ct, q_asg, q_asgA, q_asgS, q_aug, q_ex, q_ret, q_retN, q_pass, q_brk, q_cont, q_ifs, q_for, q_whl, b_t, b_f, be_t, be_f, ba_t, ba_f, bo_t, bo_f, t_bl, t_int, t_non,     q_var, q_con, q_glb, q_tup, q_lst, q_dict0, q_bin, q_neg, q_not, q_and, q_or, q_ife, q_cmp, q_cmp2, q_attr, q_sub, q_srev, q_call, q_callk, q_meth, q_bm, q_new, q_bi, q_isi, q_lc, q_dc, q_sortk, q_sortv, q_dict2, q_anil, q_acons, q_ival, q_items, q_vals, q_rng,     o_add, o_sub, o_mul, o_fdiv, o_mod, o_pow18, o_addT, ag_add, ag_sub, c_lt, c_gt, c_le, c_ge, c_eq, c_ne, c_is, c_isn, c_in, c_nin, u_tup, u_scr, n_scr, n_tup, n_str, n_abs, n_min2, n_max2, tg_nm, tg_2, tg_3, at_0, at_1, at_2, at_3, at_4, i_int, sat_some, getV_0, getV_s,     List.set_cons_zero, List.set_cons_succ, List.map_cons, List.map_nil, List.replicate_succ, List.replicate_zero, List.cons_append, List.nil_append, List.length_cons, List.length_nil, deepness_ok S k t M (hk t ht).1 (hk t ht).2, sat_ok]
        exact ⟨_, eqW_int _ _, rfl, trivial⟩
      · rw [deepness_ok S k t M (hk t ht).1 (hk t ht).2]
        rfl
      · simp only [q_nil, q_cons, k_nx, k_ret, k_brk, k_ct, q_asg, q_asgA, q_asgS, q_aug, q_ex, q_ret, q_retN, q_pass, q_brk, q_cont, q_ifs, q_for, q_whl, b_t, b_f, be_t, be_f, ba_t, ba_f, bo_t, bo_f, t_bl, t_int, t_non,     q_var, q_con, q_glb, q_tup, q_lst, q_dict0, q_bin, q_neg, q_not, q_and, q_or, q_ife, q_cmp, q_cmp2, q_attr, q_sub, q_srev, q_call, q_callk, q_meth, q_bm, q_new, q_bi, q_isi, q_lc, q_dc, q_sortk, q_sortv, q_dict2, q_anil, q_acons, q_ival, q_items, q_vals, q_rng,     o_add, o_sub, o_mul, o_fdiv, o_mod, o_pow18, o_addT, ag_add, ag_sub, c_lt, c_gt, c_le, c_ge, c_eq, c_ne, c_is, c_isn, c_in, c_nin, u_tup, u_scr, n_scr, n_tup, n_str, n_abs, n_min2, n_max2, tg_nm, tg_2, tg_3, at_0, at_1, at_2, at_3, at_4, i_int, sat_some, getV_0, getV_s,     List.set_cons_zero, List.set_cons_succ, List.map_cons, List.map_nil, List.replicate_succ, List.replicate_zero, List.cons_append, List.nil_append, List.length_cons, List.length_nil]
        exact ⟨rfl, trivial⟩)
  rw [e]
  congr 1
  rw [List.map_id]
  unfold layer
  refine filter_map_w kn _ _ fun t ht => ?_
  rw [deepness_ok S k t M (hk t ht).1 (hk t ht).2]
  show decide ((t.dep : Int) = (d : Int) + 1) = decide (t.dep = d + 1)
  by_cases h : t.dep = d + 1
  · rw [decide_eq_true h, decide_eq_true (by omega)]
  · rw [decide_eq_false h, decide_eq_false (by omega)]
theorem stepG_in {g : List Wv} {v : Wv} (h : v ∈ g) : stepG g v = g := by unfold stepG; rw [if_pos h]
theorem stepG_out {g : List Wv} {v : Wv} (h : v ∉ g) : stepG g v = addK g (inner v) := by unfold stepG; rw [if_neg h]
theorem stepG_key {g : List Wv} {v : Wv} (hg : ∀ x ∈ g, keyT x = true) (hv : keyT (inner v) = true) : ∀ x ∈ stepG g v, keyT x = true := by
  intro x hx
  unfold stepG at hx
  split at hx
  · exact hg x hx
  · rcases addK_mem hx with h | h
    · exact hg x h
    · rw [h]; exact hv
theorem stepG_len (g : List Wv) (v : Wv) : (stepG g v).length ≤ g.length + 1 := by
  unfold stepG
  split
  · omega
  · exact addK_len _ _
/-- one layer's voids: gone grows -/
theorem void_for (S : List Int) (k r gd : Nat) (vs : List Wv) (σ0 : Sw) (a b c e f h : Option Wv) (M0 : Mem) (g0 : List Wv) (hr : M0[r]? = some (.lst vs)) (hne : r ≠ gd) (hgd : gd < M0.length)
    (hv : ∀ v ∈ vs, keyT v = true ∧ keyT (inner v) = true ∧ ∃ x u, v = .tup [x, u]) (hg0 : ∀ x ∈ g0, keyT x = true) (hl : g0.length + vs.length ≤ 1000) {C C1 : Nat → List Wv → Mem → Out Wv} :
    (forGo (.nm 6) (evSl (Gp S) C C1 fuel (.cons (.ifs (.cmp .nin (.var 6) (.var 4)) (.cons (.asgS (.var 4) (.sub (.var 6) (.con (.int 1))) (.con (.bl true))) .nil) .nil) .nil)) [(r, .lst vs)] vs [a, b, c, e, some (.ref gd), f, h, none] (M0.set gd (.dct false (sets g0)))).sat
      fun q M' => ∃ h', q = (.nx, [a, b, c, e, some (.ref gd), f, h', none]) ∧ M' = M0.set gd (.dct false (sets (vs.foldl stepG g0))) := by
  have hz : 1001 ≤ sizeLine := by decide
  refine for_rule (fun pre post σ M' => vs = pre ++ post ∧ ∃ h', σ = [a, b, c, e, some (.ref gd), f, h', none] ∧ M' = M0.set gd (.dct false (sets (pre.foldl stepG g0))) ∧ (∀ x ∈ pre.foldl stepG g0, keyT x = true) ∧ (pre.foldl stepG g0).length ≤ g0.length + pre.length) ?_ ?_ vs [] _ _ ⟨rfl, h, rfl, rfl, hg0, by simp⟩
  · rintro pre x post σ M' ⟨hvs, h', rfl, rfl, hk, hlen⟩
    have hx : x ∈ vs := by rw [hvs]; simp
    obtain ⟨k1, k2, y, u, rfl⟩ := hv x hx
    have hlr : pre.length + post.length + 1 = vs.length := by rw [hvs]; simp; omega
    have hM : (M0.set gd (.dct false (sets (pre.foldl stepG g0))))[gd]? = some (.dct false (sets (pre.foldl stepG g0))) := by rw [List.getElem?_set_self hgd]
    refine ⟨stays_lst (by rw [List.getElem?_set_ne (Ne.symm hne)]; exact hr), _, rfl, ?_⟩
    simp only [q_nil, q_cons, k_nx, k_ret, k_brk, k_ct, q_asg, q_asgA, q_asgS, q_aug, q_ex, q_ret, q_retN, q_pass, q_brk, q_cont, q_ifs, q_for, q_whl, b_t, b_f, be_t, be_f, ba_t, ba_f, bo_t, bo_f, t_bl, t_int, t_non,     q_var, q_con, q_glb, q_tup, q_lst, q_dict0, q_bin, q_neg, q_not, q_and, q_or, q_ife, q_cmp, q_cmp2, q_attr, q_sub, q_srev, q_call, q_callk, q_meth, q_bm, q_new, q_bi, q_isi, q_lc, q_dc, q_sortk, q_sortv, q_dict2, q_anil, q_acons, q_ival, q_items, q_vals, q_rng,     o_add, o_sub, o_mul, o_fdiv, o_mod, o_pow18, o_addT, ag_add, ag_sub, c_lt, c_gt, c_le, c_ge, c_eq, c_ne, c_is, c_isn, c_in, c_nin, u_tup, u_scr, n_scr, n_tup, n_str, n_abs, n_min2, n_max2, tg_nm, tg_2, tg_3, at_0, at_1, at_2, at_3, at_4, i_int, sat_some, getV_0, getV_s,     List.set_cons_zero, List.set_cons_succ, List.map_cons, List.map_nil, List.replicate_succ, List.replicate_zero, List.cons_append, List.nil_append, List.length_cons, List.length_nil]
    refine ⟨_, in_dct hM (keyOk_sets k1 hk), ?_⟩
    rw [dget_sets]
    have hvs2 : vs = (pre ++ [Wv.tup [y, u]]) ++ post := by rw [hvs]; simp
    have ef : (pre ++ [Wv.tup [y, u]]).foldl stepG g0 = stepG (pre.foldl stepG g0) (.tup [y, u]) := by simp
    have hk2 : ∀ x ∈ (pre ++ [Wv.tup [y, u]]).foldl stepG g0, keyT x = true := by
      rw [ef]; exact stepG_key hk k2
    have hlen2 : ((pre ++ [Wv.tup [y, u]]).foldl stepG g0).length ≤ g0.length + (pre ++ [Wv.tup [y, u]]).length := by
      rw [ef]
      have := stepG_len (pre.foldl stepG g0) (.tup [y, u])
      simp only [List.length_append, List.length_cons, List.length_nil]
      omega
    by_cases hm : Wv.tup [y, u] ∈ pre.foldl stepG g0
    · rw [decide_eq_true hm]
      simp only [q_nil, q_cons, k_nx, k_ret, k_brk, k_ct, q_asg, q_asgA, q_asgS, q_aug, q_ex, q_ret, q_retN, q_pass, q_brk, q_cont, q_ifs, q_for, q_whl, b_t, b_f, be_t, be_f, ba_t, ba_f, bo_t, bo_f, t_bl, t_int, t_non,     q_var, q_con, q_glb, q_tup, q_lst, q_dict0, q_bin, q_neg, q_not, q_and, q_or, q_ife, q_cmp, q_cmp2, q_attr, q_sub, q_srev, q_call, q_callk, q_meth, q_bm, q_new, q_bi, q_isi, q_lc, q_dc, q_sortk, q_sortv, q_dict2, q_anil, q_acons, q_ival, q_items, q_vals, q_rng,     o_add, o_sub, o_mul, o_fdiv, o_mod, o_pow18, o_addT, ag_add, ag_sub, c_lt, c_gt, c_le, c_ge, c_eq, c_ne, c_is, c_isn, c_in, c_nin, u_tup, u_scr, n_scr, n_tup, n_str, n_abs, n_min2, n_max2, tg_nm, tg_2, tg_3, at_0, at_1, at_2, at_3, at_4, i_int, sat_some, getV_0, getV_s,     List.set_cons_zero, List.set_cons_succ, List.map_cons, List.map_nil, List.replicate_succ, List.replicate_zero, List.cons_append, List.nil_append, List.length_cons, List.length_nil, Bool.not_true]
      refine ⟨hvs2, _, rfl, ?_, hk2, hlen2⟩
      rw [ef, stepG_in hm]
    · rw [decide_eq_false hm]
      simp only [q_nil, q_cons, k_nx, k_ret, k_brk, k_ct, q_asg, q_asgA, q_asgS, q_aug, q_ex, q_ret, q_retN, q_pass, q_brk, q_cont, q_ifs, q_for, q_whl, b_t, b_f, be_t, be_f, ba_t, ba_f, bo_t, bo_f, t_bl, t_int, t_non,     q_var, q_con, q_glb, q_tup, q_lst, q_dict0, q_bin, q_neg, q_not, q_and, q_or, q_ife, q_cmp, q_cmp2, q_attr, q_sub, q_srev, q_call, q_callk, q_meth, q_bm, q_new, q_bi, q_isi, q_lc, q_dc, q_sortk, q_sortv, q_dict2, q_anil, q_acons, q_ival, q_items, q_vals, q_rng,     o_add, o_sub, o_mul, o_fdiv, o_mod, o_pow18, o_addT, ag_add, ag_sub, c_lt, c_gt, c_le, c_ge, c_eq, c_ne, c_is, c_isn, c_in, c_nin, u_tup, u_scr, n_scr, n_tup, n_str, n_abs, n_min2, n_max2, tg_nm, tg_2, tg_3, at_0, at_1, at_2, at_3, at_4, i_int, sat_some, getV_0, getV_s,     List.set_cons_zero, List.set_cons_succ, List.map_cons, List.map_nil, List.replicate_succ, List.replicate_zero, List.cons_append, List.nil_append, List.length_cons, List.length_nil, Bool.not_false]
      refine sat_of (set_dct hM (keyOk_sets k2 hk) (by rw [sets_len]; omega)) ?_
      refine ⟨hvs2, _, rfl, ?_, hk2, hlen2⟩
      rw [List.set_set, ef, dput_sets, stepG_out hm]
      rfl
  · rintro pre σ M' ⟨hvs, h', rfl, rfl, hk, hlen⟩
    rw [List.append_nil] at hvs
    subst hvs
    exact ⟨stays_lst (by rw [List.getElem?_set_ne (Ne.symm hne)]; exact hr), h', rfl, rfl⟩
theorem Tr.dep_inner {t : Tr} (h : t.dep ≠ 0) : ∃ u : Tr, t.w = .tup [.str "void", u.w] ∧ t = .vd u := by
  cases t with
  | bs w r => exact absurd rfl h
  | vd u => exact ⟨u, rfl, rfl⟩
theorem layer_len (kn : List Tr) (i : Nat) : (layer kn i).length ≤ kn.length := by
  unfold layer
  rw [List.length_map]
  exact List.length_filter_le ..
theorem foldl_stepG_len (g vs : List Wv) : (vs.foldl stepG g).length ≤ g.length + vs.length := by
  induction vs generalizing g with
  | nil => simp
  | cons v vs ih =>
    have := ih (stepG g v)
    have := stepG_len g v
    simp only [List.foldl_cons, List.length_cons]
    omega
theorem foldl_stepG_key {g vs : List Wv} (hg : ∀ x ∈ g, keyT x = true) (hv : ∀ v ∈ vs, keyT (inner v) = true) : ∀ x ∈ vs.foldl stepG g, keyT x = true := by
  induction vs generalizing g with
  | nil => exact hg
  | cons v vs ih => exact ih (stepG_key hg (hv v (List.mem_cons_self ..))) fun x hx => hv x (List.mem_cons_of_mem _ hx)
/-- no void, not gone -/
def headFree (gone : List Wv) (v : Wv) : Bool := match v with
  | .tup (.str w :: _) => !(decide (w = ("void" : Str))) && decide (v ∉ gone)
  | _ => false
theorem headFree_w (gone : List Wv) (t : Tr) (h : t.ok) : headFree gone t.w = (decide (t.dep = 0) && decide (t.w ∉ gone)) := by
  obtain ⟨w, rest, e, _, hv⟩ := Tr.head (M := []) [] t h
  rw [e]
  show (!(decide (w = ("void" : Str))) && decide (Wv.tup (.str w :: rest) ∉ gone)) = _
  by_cases z : t.dep = 0
  · have : ¬ w = ("void" : Str) := fun q => (hv.mp q) z
    rw [decide_eq_true z, decide_eq_false this]; rfl
  · have : w = ("void" : Str) := hv.mpr z
    rw [decide_eq_false z, decide_eq_true this]; rfl
/-- what is asked of the truths -/
structure Kn (kn : List Tr) : Prop where
  ok : ∀ t ∈ kn, t.ok ∧ t.dep ≤ 3 ∧ keyT t.w = true ∧ keyT (inner t.w) = true
  len : kn.length ≤ 300
theorem in_force_ok (S : List Int) (k l : Nat) (ts : List Wv) (kn : List Tr) (M : Mem) (hM : M[l]? = some (.lst ts)) (hts : ∀ t ∈ ts, keyT t = true) (hlen : ts.length ≤ 300) (hk : keysOf ts = kn.map Tr.w) (K : Kn kn) :
    (callN (Gp S) fuel (k + 2) ix_in_force [.ref l] M).sat fun v M' => M <+: M' ∧ ∃ y, v = .ref y ∧ M.length ≤ y ∧ M'[y]? = some (.lst ((forceOf kn).map Tr.w)) := by
  have hz : 1001 ≤ sizeLine := by decide
  have hkl := K.len
  have hfu : 3 < fuel := by decide
  rw [at_in_force]
  refine run_sat rfl ?_
  show (evSl (Gp S) _ _ fuel sl_in_force [some (.ref l), none, none, none, none, none, none, none] M).sat _
  unfold sl_in_force
  simp only [q_nil, q_cons, k_nx, k_ret, k_brk, k_ct, q_asg, q_asgA, q_asgS, q_aug, q_ex, q_ret, q_retN, q_pass, q_brk, q_cont, q_ifs, q_for, q_whl, b_t, b_f, be_t, be_f, ba_t, ba_f, bo_t, bo_f, t_bl, t_int, t_non,     q_var, q_con, q_glb, q_tup, q_lst, q_dict0, q_bin, q_neg, q_not, q_and, q_or, q_ife, q_cmp, q_cmp2, q_attr, q_sub, q_srev, q_call, q_callk, q_meth, q_bm, q_new, q_bi, q_isi, q_lc, q_dc, q_sortk, q_sortv, q_dict2, q_anil, q_acons, q_ival, q_items, q_vals, q_rng,     o_add, o_sub, o_mul, o_fdiv, o_mod, o_pow18, o_addT, ag_add, ag_sub, c_lt, c_gt, c_le, c_ge, c_eq, c_ne, c_is, c_isn, c_in, c_nin, u_tup, u_scr, n_scr, n_tup, n_str, n_abs, n_min2, n_max2, tg_nm, tg_2, tg_3, at_0, at_1, at_2, at_3, at_4, i_int, sat_some, getV_0, getV_s,     List.set_cons_zero, List.set_cons_succ, List.map_cons, List.map_nil, List.replicate_succ, List.replicate_zero, List.cons_append, List.nil_append, List.length_cons, List.length_nil, walk_lst hM]
  have e1 := dc_pure (G := Gp S) (t := .nm 7) (c := evE (Gp S) (callN (Gp S) fuel (k + 1)) (callN (Gp S) fuel (k + 1 - 1)) (.con (.bl true))) (k := evE (Gp S) (callN (Gp S) fuel (k + 1)) (callN (Gp S) fuel (k + 1 - 1)) (.var 7)) (v := evE (Gp S) (callN (Gp S) fuel (k + 1)) (callN (Gp S) fuel (k + 1 - 1)) (.con (.bl true))) (ps := [(l, .lst ts)]) (σ := [some (.ref l), none, none, none, none, none, none, none]) (M := M) (xs := ts)
    id (fun _ => .bl true) (stays_lst hM) (fun x hx => ⟨[some (.ref l), none, none, none, none, none, none, some x], rfl, ⟨.bl true, by simp only [evE], rfl⟩, by simp only [evE]; rfl, by simp only [evE]⟩) [] (fun pre post x e => by
      have h1 : (pre.map fun y => (id y, Wv.bl true)) = pre.map fun y => (y, Wv.bl true) := rfl
      have h2 := dputs_sets [] pre
      have h3 : sets [] = [] := rfl
      rw [h3] at h2
      rw [h1, h2, sets_len]
      have hx : x ∈ ts := by rw [e]; simp
      have := foldl_addK_len [] pre
      have hlp : pre.length ≤ ts.length := by rw [e]; simp
      refine ⟨keyOk_sets (hts x hx) fun y hy => ?_, len_ok (by simp at this; omega)⟩
      rcases foldl_addK_mem hy with h | h
      · cases h
      · exact hts y (by rw [e]; exact List.mem_append_left _ h))
  have e2 : dputs [] (ts.map fun y => (id y, Wv.bl true)) = sets (kn.map Tr.w) := by
    have := dputs_sets [] ts
    rw [← hk]
    exact this
  rw [e2] at e1
  refine sat_of e1 ?_
  rw [unlk_lst]
  generalize hM1 : M ++ [.dct false (sets (kn.map Tr.w))] = M1
  have p1 : M <+: M1 := by rw [← hM1]; exact List.prefix_append _ _
  have hkd : M1[M.length]? = some (.dct false (sets (kn.map Tr.w))) := by rw [← hM1]; exact at_new ..
  have hl1 : M1.length = M.length + 1 := by rw [← hM1]; simp
  generalize hkdn : M.length = kd at *
  refine sat_of (n_listD hkd (by rw [sets_len, List.length_map]; omega)) ?_
  rw [sets_keys]
  refine ⟨len_ok (by simp; omega), ?_⟩
  generalize hK0 : kont (Gp S) _ _ fuel _ _ = K0
  have after : ∀ (M' : Mem) (ly a0 r1 r2 r3 : Nat), M1 <+: M' → M'[ly]? = some (.lst [.ref a0, .ref r1, .ref r2, .ref r3]) → M'[r1]? = some (.lst (layer kn 1)) → M'[r2]? = some (.lst (layer kn 2)) → M'[r3]? = some (.lst (layer kn 3)) →
      K0 (.nx, [some (.ref l), some (.ref kd), some (.int 3), some (.ref ly), none, none, none, none]) M' := by
    intro M' ly a0 r1 r2 r3 pm hly h1 h2 h3
    rw [← hK0]
    simp only [q_nil, q_cons, k_nx, k_ret, k_brk, k_ct, q_asg, q_asgA, q_asgS, q_aug, q_ex, q_ret, q_retN, q_pass, q_brk, q_cont, q_ifs, q_for, q_whl, b_t, b_f, be_t, be_f, ba_t, ba_f, bo_t, bo_f, t_bl, t_int, t_non,     q_var, q_con, q_glb, q_tup, q_lst, q_dict0, q_bin, q_neg, q_not, q_and, q_or, q_ife, q_cmp, q_cmp2, q_attr, q_sub, q_srev, q_call, q_callk, q_meth, q_bm, q_new, q_bi, q_isi, q_lc, q_dc, q_sortk, q_sortv, q_dict2, q_anil, q_acons, q_ival, q_items, q_vals, q_rng,     o_add, o_sub, o_mul, o_fdiv, o_mod, o_pow18, o_addT, ag_add, ag_sub, c_lt, c_gt, c_le, c_ge, c_eq, c_ne, c_is, c_isn, c_in, c_nin, u_tup, u_scr, n_scr, n_tup, n_str, n_abs, n_min2, n_max2, tg_nm, tg_2, tg_3, at_0, at_1, at_2, at_3, at_4, i_int, sat_some, getV_0, getV_s,     List.set_cons_zero, List.set_cons_succ, List.map_cons, List.map_nil, List.replicate_succ, List.replicate_zero, List.cons_append, List.nil_append, List.length_cons, List.length_nil]
    have b0 : ly < M'.length := (List.getElem?_eq_some_iff.mp hly).1
    have b1 : r1 < M'.length := (List.getElem?_eq_some_iff.mp h1).1
    have b2 : r2 < M'.length := (List.getElem?_eq_some_iff.mp h2).1
    have b3 : r3 < M'.length := (List.getElem?_eq_some_iff.mp h3).1
    have hkdM : M'[kd]? = some (.dct false (sets (kn.map Tr.w))) := pre_get pm hkd
    have bk : kd < M'.length := (List.getElem?_eq_some_iff.mp hkdM).1
    refine sat_of (rev_lst (l := ly) (ws := [.ref a0, .ref r1, .ref r2, .ref r3]) (by rw [List.getElem?_append_left b0]; exact hly)) ?_
    generalize hM5 : M' ++ [Ob.dct false []] ++ [Ob.lst (List.tail [Wv.ref a0, .ref r1, .ref r2, .ref r3]).reverse] = M5
    have p5 : M' <+: M5 := by rw [← hM5, List.append_assoc]; exact List.prefix_append _ _
    have hln : M5[(M' ++ [Ob.dct false []]).length]? = some (.lst [.ref r3, .ref r2, .ref r1]) := by rw [← hM5]; exact at_new ..
    generalize hlnn : (M' ++ [Ob.dct false []]).length = ln at *
    have hlneq : ln = M'.length + 1 := by rw [← hlnn]; simp
    generalize hgd : M'.length = gd at *
    have hM5l : M5.length = gd + 2 := by rw [← hM5]; simp; omega
    have hgd5 : M5 = M5.set gd (.dct false (sets [])) := by
      refine (set_self ?_).symm
      rw [← hM5, List.getElem?_append_left (by simp; omega), ← hgd]
      exact at_new ..
    simp only [walk_lst hln, sat_some, lock_lst, unlk_lst]
    have key : ∀ t ∈ kn, keyT t.w = true ∧ keyT (inner t.w) = true := fun t ht => ⟨(K.ok t ht).2.2.1, (K.ok t ht).2.2.2⟩
    have hlay : ∀ i, i ≠ 0 → ∀ v ∈ layer kn i, keyT v = true ∧ keyT (inner v) = true ∧ ∃ x u, v = .tup [x, u] := by
      intro i hi v hv
      unfold layer at hv
      obtain ⟨t, ht, rfl⟩ := List.mem_map.mp hv
      have ht2 := List.mem_filter.mp ht
      have hdep := of_decide_eq_true ht2.2
      obtain ⟨u, hu, _⟩ := Tr.dep_inner (t := t) (by omega)
      exact ⟨(key t ht2.1).1, (key t ht2.1).2, _, _, hu⟩
    have l1 := layer_len kn 1
    have l2 := layer_len kn 2
    have l3 := layer_len kn 3
    have hst : ∀ g : List Wv, stays [(ln, Ob.lst [.ref r3, .ref r2, .ref r1])] (M5.set gd (.dct false (sets g))) = true := fun g => stays_lst (by rw [List.getElem?_set_ne (by omega)]; exact hln)
    have g3 := foldl_stepG_len [] (layer kn 3)
    have g2 := foldl_stepG_len ((layer kn 3).foldl stepG []) (layer kn 2)
    have k3 := foldl_stepG_key (g := []) (vs := layer kn 3) (fun x hx => by cases hx) fun v hv => (hlay 3 (by omega) v hv).2.1
    have k2 := foldl_stepG_key (vs := layer kn 2) k3 fun v hv => (hlay 2 (by omega) v hv).2.1
    have k1 := foldl_stepG_key (vs := layer kn 1) k2 fun v hv => (hlay 1 (by omega) v hv).2.1
    rw [hgd5]
    refine for_step (hst _) rfl ?_
    simp only [q_nil, q_cons, k_nx, k_ret, k_brk, k_ct, q_asg, q_asgA, q_asgS, q_aug, q_ex, q_ret, q_retN, q_pass, q_brk, q_cont, q_ifs, q_for, q_whl, b_t, b_f, be_t, be_f, ba_t, ba_f, bo_t, bo_f, t_bl, t_int, t_non,     q_var, q_con, q_glb, q_tup, q_lst, q_dict0, q_bin, q_neg, q_not, q_and, q_or, q_ife, q_cmp, q_cmp2, q_attr, q_sub, q_srev, q_call, q_callk, q_meth, q_bm, q_new, q_bi, q_isi, q_lc, q_dc, q_sortk, q_sortv, q_dict2, q_anil, q_acons, q_ival, q_items, q_vals, q_rng,     o_add, o_sub, o_mul, o_fdiv, o_mod, o_pow18, o_addT, ag_add, ag_sub, c_lt, c_gt, c_le, c_ge, c_eq, c_ne, c_is, c_isn, c_in, c_nin, u_tup, u_scr, n_scr, n_tup, n_str, n_abs, n_min2, n_max2, tg_nm, tg_2, tg_3, at_0, at_1, at_2, at_3, at_4, i_int, sat_some, getV_0, getV_s,     List.set_cons_zero, List.set_cons_succ, List.map_cons, List.map_nil, List.replicate_succ, List.replicate_zero, List.cons_append, List.nil_append, List.length_cons, List.length_nil, walk_lst (show (M5.set gd (.dct false (sets [])))[r3]? = some (.lst (layer kn 3)) by rw [List.getElem?_set_ne (by omega)]; exact pre_get p5 h3), lock_lst, unlk_lst]
    refine sat_mono (void_for S k r3 gd (layer kn 3) [] _ _ _ _ _ _ M5 [] (pre_get p5 h3) (by omega) (by omega) (hlay 3 (by omega)) (fun x hx => by cases hx) (by simp; omega)) fun q M2 ⟨h', e, e'⟩ => ?_
    subst e e'
    simp only [q_nil, q_cons, k_nx, k_ret, k_brk, k_ct, q_asg, q_asgA, q_asgS, q_aug, q_ex, q_ret, q_retN, q_pass, q_brk, q_cont, q_ifs, q_for, q_whl, b_t, b_f, be_t, be_f, ba_t, ba_f, bo_t, bo_f, t_bl, t_int, t_non,     q_var, q_con, q_glb, q_tup, q_lst, q_dict0, q_bin, q_neg, q_not, q_and, q_or, q_ife, q_cmp, q_cmp2, q_attr, q_sub, q_srev, q_call, q_callk, q_meth, q_bm, q_new, q_bi, q_isi, q_lc, q_dc, q_sortk, q_sortv, q_dict2, q_anil, q_acons, q_ival, q_items, q_vals, q_rng,     o_add, o_sub, o_mul, o_fdiv, o_mod, o_pow18, o_addT, ag_add, ag_sub, c_lt, c_gt, c_le, c_ge, c_eq, c_ne, c_is, c_isn, c_in, c_nin, u_tup, u_scr, n_scr, n_tup, n_str, n_abs, n_min2, n_max2, tg_nm, tg_2, tg_3, at_0, at_1, at_2, at_3, at_4, i_int, sat_some, getV_0, getV_s,     List.set_cons_zero, List.set_cons_succ, List.map_cons, List.map_nil, List.replicate_succ, List.replicate_zero, List.cons_append, List.nil_append, List.length_cons, List.length_nil]
    refine ⟨trivial, for_step (hst _) rfl ?_⟩
    simp only [q_nil, q_cons, k_nx, k_ret, k_brk, k_ct, q_asg, q_asgA, q_asgS, q_aug, q_ex, q_ret, q_retN, q_pass, q_brk, q_cont, q_ifs, q_for, q_whl, b_t, b_f, be_t, be_f, ba_t, ba_f, bo_t, bo_f, t_bl, t_int, t_non,     q_var, q_con, q_glb, q_tup, q_lst, q_dict0, q_bin, q_neg, q_not, q_and, q_or, q_ife, q_cmp, q_cmp2, q_attr, q_sub, q_srev, q_call, q_callk, q_meth, q_bm, q_new, q_bi, q_isi, q_lc, q_dc, q_sortk, q_sortv, q_dict2, q_anil, q_acons, q_ival, q_items, q_vals, q_rng,     o_add, o_sub, o_mul, o_fdiv, o_mod, o_pow18, o_addT, ag_add, ag_sub, c_lt, c_gt, c_le, c_ge, c_eq, c_ne, c_is, c_isn, c_in, c_nin, u_tup, u_scr, n_scr, n_tup, n_str, n_abs, n_min2, n_max2, tg_nm, tg_2, tg_3, at_0, at_1, at_2, at_3, at_4, i_int, sat_some, getV_0, getV_s,     List.set_cons_zero, List.set_cons_succ, List.map_cons, List.map_nil, List.replicate_succ, List.replicate_zero, List.cons_append, List.nil_append, List.length_cons, List.length_nil, walk_lst (show (M5.set gd (.dct false (sets ((layer kn 3).foldl stepG []))))[r2]? = some (.lst (layer kn 2)) by rw [List.getElem?_set_ne (by omega)]; exact pre_get p5 h2), lock_lst, unlk_lst]
    refine sat_mono (void_for S k r2 gd (layer kn 2) [] _ _ _ _ _ _ M5 _ (pre_get p5 h2) (by omega) (by omega) (hlay 2 (by omega)) k3 (by simp at g3; omega)) fun q M2 ⟨h', e, e'⟩ => ?_
    subst e e'
    simp only [q_nil, q_cons, k_nx, k_ret, k_brk, k_ct, q_asg, q_asgA, q_asgS, q_aug, q_ex, q_ret, q_retN, q_pass, q_brk, q_cont, q_ifs, q_for, q_whl, b_t, b_f, be_t, be_f, ba_t, ba_f, bo_t, bo_f, t_bl, t_int, t_non,     q_var, q_con, q_glb, q_tup, q_lst, q_dict0, q_bin, q_neg, q_not, q_and, q_or, q_ife, q_cmp, q_cmp2, q_attr, q_sub, q_srev, q_call, q_callk, q_meth, q_bm, q_new, q_bi, q_isi, q_lc, q_dc, q_sortk, q_sortv, q_dict2, q_anil, q_acons, q_ival, q_items, q_vals, q_rng,     o_add, o_sub, o_mul, o_fdiv, o_mod, o_pow18, o_addT, ag_add, ag_sub, c_lt, c_gt, c_le, c_ge, c_eq, c_ne, c_is, c_isn, c_in, c_nin, u_tup, u_scr, n_scr, n_tup, n_str, n_abs, n_min2, n_max2, tg_nm, tg_2, tg_3, at_0, at_1, at_2, at_3, at_4, i_int, sat_some, getV_0, getV_s,     List.set_cons_zero, List.set_cons_succ, List.map_cons, List.map_nil, List.replicate_succ, List.replicate_zero, List.cons_append, List.nil_append, List.length_cons, List.length_nil]
    refine ⟨trivial, for_step (hst _) rfl ?_⟩
    simp only [q_nil, q_cons, k_nx, k_ret, k_brk, k_ct, q_asg, q_asgA, q_asgS, q_aug, q_ex, q_ret, q_retN, q_pass, q_brk, q_cont, q_ifs, q_for, q_whl, b_t, b_f, be_t, be_f, ba_t, ba_f, bo_t, bo_f, t_bl, t_int, t_non,     q_var, q_con, q_glb, q_tup, q_lst, q_dict0, q_bin, q_neg, q_not, q_and, q_or, q_ife, q_cmp, q_cmp2, q_attr, q_sub, q_srev, q_call, q_callk, q_meth, q_bm, q_new, q_bi, q_isi, q_lc, q_dc, q_sortk, q_sortv, q_dict2, q_anil, q_acons, q_ival, q_items, q_vals, q_rng,     o_add, o_sub, o_mul, o_fdiv, o_mod, o_pow18, o_addT, ag_add, ag_sub, c_lt, c_gt, c_le, c_ge, c_eq, c_ne, c_is, c_isn, c_in, c_nin, u_tup, u_scr, n_scr, n_tup, n_str, n_abs, n_min2, n_max2, tg_nm, tg_2, tg_3, at_0, at_1, at_2, at_3, at_4, i_int, sat_some, getV_0, getV_s,     List.set_cons_zero, List.set_cons_succ, List.map_cons, List.map_nil, List.replicate_succ, List.replicate_zero, List.cons_append, List.nil_append, List.length_cons, List.length_nil, walk_lst (show (M5.set gd (.dct false (sets ((layer kn 2).foldl stepG ((layer kn 3).foldl stepG [])))))[r1]? = some (.lst (layer kn 1)) by rw [List.getElem?_set_ne (by omega)]; exact pre_get p5 h1), lock_lst, unlk_lst]
    refine sat_mono (void_for S k r1 gd (layer kn 1) [] _ _ _ _ _ _ M5 _ (pre_get p5 h1) (by omega) (by omega) (hlay 1 (by omega)) k2 (by simp at g3; omega)) fun q M2 ⟨h', e, e'⟩ => ?_
    subst e e'
    simp only [q_nil, q_cons, k_nx, k_ret, k_brk, k_ct, q_asg, q_asgA, q_asgS, q_aug, q_ex, q_ret, q_retN, q_pass, q_brk, q_cont, q_ifs, q_for, q_whl, b_t, b_f, be_t, be_f, ba_t, ba_f, bo_t, bo_f, t_bl, t_int, t_non,     q_var, q_con, q_glb, q_tup, q_lst, q_dict0, q_bin, q_neg, q_not, q_and, q_or, q_ife, q_cmp, q_cmp2, q_attr, q_sub, q_srev, q_call, q_callk, q_meth, q_bm, q_new, q_bi, q_isi, q_lc, q_dc, q_sortk, q_sortv, q_dict2, q_anil, q_acons, q_ival, q_items, q_vals, q_rng,     o_add, o_sub, o_mul, o_fdiv, o_mod, o_pow18, o_addT, ag_add, ag_sub, c_lt, c_gt, c_le, c_ge, c_eq, c_ne, c_is, c_isn, c_in, c_nin, u_tup, u_scr, n_scr, n_tup, n_str, n_abs, n_min2, n_max2, tg_nm, tg_2, tg_3, at_0, at_1, at_2, at_3, at_4, i_int, sat_some, getV_0, getV_s,     List.set_cons_zero, List.set_cons_succ, List.map_cons, List.map_nil, List.replicate_succ, List.replicate_zero, List.cons_append, List.nil_append, List.length_cons, List.length_nil]
    refine ⟨trivial, for_nil (hst _) ?_⟩
    simp only [q_nil, q_cons, k_nx, k_ret, k_brk, k_ct, q_asg, q_asgA, q_asgS, q_aug, q_ex, q_ret, q_retN, q_pass, q_brk, q_cont, q_ifs, q_for, q_whl, b_t, b_f, be_t, be_f, ba_t, ba_f, bo_t, bo_f, t_bl, t_int, t_non,     q_var, q_con, q_glb, q_tup, q_lst, q_dict0, q_bin, q_neg, q_not, q_and, q_or, q_ife, q_cmp, q_cmp2, q_attr, q_sub, q_srev, q_call, q_callk, q_meth, q_bm, q_new, q_bi, q_isi, q_lc, q_dc, q_sortk, q_sortv, q_dict2, q_anil, q_acons, q_ival, q_items, q_vals, q_rng,     o_add, o_sub, o_mul, o_fdiv, o_mod, o_pow18, o_addT, ag_add, ag_sub, c_lt, c_gt, c_le, c_ge, c_eq, c_ne, c_is, c_isn, c_in, c_nin, u_tup, u_scr, n_scr, n_tup, n_str, n_abs, n_min2, n_max2, tg_nm, tg_2, tg_3, at_0, at_1, at_2, at_3, at_4, i_int, sat_some, getV_0, getV_s,     List.set_cons_zero, List.set_cons_succ, List.map_cons, List.map_nil, List.replicate_succ, List.replicate_zero, List.cons_append, List.nil_append, List.length_cons, List.length_nil]
    generalize hM6 : M5.set gd (.dct false (sets ((layer kn 1).foldl stepG ((layer kn 2).foldl stepG ((layer kn 3).foldl stepG []))))) = M6
    have p6 : M' <+: M6 := by rw [← hM6]; exact pre_set p5 (by omega)
    have hgd6 : M6[gd]? = some (.dct false (sets (goneOf kn))) := by rw [← hM6, List.getElem?_set_self (by omega)]; rfl
    have hkd6 : M6[kd]? = some (.dct false (sets (kn.map Tr.w))) := pre_get p6 hkdM
    simp only [walk_dct hkd6, sat_some]
    rw [sets_keys]
    have hlk : (lockM [(kd, .dct false (sets (kn.map Tr.w)))] M6)[gd]? = some (.dct false (sets (goneOf kn))) := by
      show (M6.set kd _)[gd]? = _
      rw [List.getElem?_set_ne (by omega)]
      exact hgd6
    have e7 := lc_pure (G := Gp S) (t := .nm 7) (c := evE (Gp S) (callN (Gp S) fuel (k + 1)) (callN (Gp S) fuel (k + 1 - 1)) (.and (.cmp .ne (.sub (.var 7) (.con (.int 0))) (.glb "VOID")) (.cmp .nin (.var 7) (.var 4)))) (e := evE (Gp S) (callN (Gp S) fuel (k + 1)) (callN (Gp S) fuel (k + 1 - 1)) (.var 7)) (ps := [(kd, .dct false (sets (kn.map Tr.w)))]) (σ := [some (.ref l), some (.ref kd), some (.int 3), some (.ref ly), some (.ref gd), some (.ref r1), h', none]) (M := lockM [(kd, .dct false (sets (kn.map Tr.w)))] M6) (xs := kn.map Tr.w)
      (headFree (goneOf kn)) id rfl (by rw [List.length_map]; omega) (fun x hx => by
        obtain ⟨u, hu, rfl⟩ := List.mem_map.mp hx
        have huk := K.ok u hu
        obtain ⟨w, rest, e, hs, hv⟩ := Tr.head (M := M') S u huk.1
        refine ⟨[some (.ref l), some (.ref kd), some (.int 3), some (.ref ly), some (.ref gd), some (.ref r1), h', some u.w], rfl, ⟨.bl (headFree (goneOf kn) u.w), sat_eq ?_, rfl⟩, fun _ => sat_eq ?_⟩
        · rw [headFree_w _ _ huk.1]
          have hkey := huk.2.2.1
          have hind : inW (Gp S) u.w (.ref gd) (lockM [(kd, .dct false (sets (kn.map Tr.w)))] M6) = some (decide (u.w ∈ goneOf kn)) := by
            rw [in_dct hlk (keyOk_sets hkey k1), dget_sets]
          have e' : ∀ i : Int, subW (Gp S) u.w (.int i) (lockM [(kd, .dct false (sets (kn.map Tr.w)))] M6) = .ofO (atI (.str w :: rest) i) (lockM [(kd, .dct false (sets (kn.map Tr.w)))] M6) := by
            rw [e]; exact fun _ => rfl
          simp only [q_nil, q_cons, k_nx, k_ret, k_brk, k_ct, q_asg, q_asgA, q_asgS, q_aug, q_ex, q_ret, q_retN, q_pass, q_brk, q_cont, q_ifs, q_for, q_whl, b_t, b_f, be_t, be_f, ba_t, ba_f, bo_t, bo_f, t_bl, t_int, t_non,     q_var, q_con, q_glb, q_tup, q_lst, q_dict0, q_bin, q_neg, q_not, q_and, q_or, q_ife, q_cmp, q_cmp2, q_attr, q_sub, q_srev, q_call, q_callk, q_meth, q_bm, q_new, q_bi, q_isi, q_lc, q_dc, q_sortk, q_sortv, q_dict2, q_anil, q_acons, q_ival, q_items, q_vals, q_rng,     o_add, o_sub, o_mul, o_fdiv, o_mod, o_pow18, o_addT, ag_add, ag_sub, c_lt, c_gt, c_le, c_ge, c_eq, c_ne, c_is, c_isn, c_in, c_nin, u_tup, u_scr, n_scr, n_tup, n_str, n_abs, n_min2, n_max2, tg_nm, tg_2, tg_3, at_0, at_1, at_2, at_3, at_4, i_int, sat_some, getV_0, getV_s,     List.set_cons_zero, List.set_cons_succ, List.map_cons, List.map_nil, List.replicate_succ, List.replicate_zero, List.cons_append, List.nil_append, List.length_cons, List.length_nil, con_VOID, e', hind]
          refine ⟨_, eqW_str hs void_shaped, ?_⟩
          by_cases z : u.dep = 0
          · have : ¬ w = ("void" : Str) := fun q => (hv.mp q) z
            rw [decide_eq_true z, decide_eq_false this]
            simp only [q_nil, q_cons, k_nx, k_ret, k_brk, k_ct, q_asg, q_asgA, q_asgS, q_aug, q_ex, q_ret, q_retN, q_pass, q_brk, q_cont, q_ifs, q_for, q_whl, b_t, b_f, be_t, be_f, ba_t, ba_f, bo_t, bo_f, t_bl, t_int, t_non,     q_var, q_con, q_glb, q_tup, q_lst, q_dict0, q_bin, q_neg, q_not, q_and, q_or, q_ife, q_cmp, q_cmp2, q_attr, q_sub, q_srev, q_call, q_callk, q_meth, q_bm, q_new, q_bi, q_isi, q_lc, q_dc, q_sortk, q_sortv, q_dict2, q_anil, q_acons, q_ival, q_items, q_vals, q_rng,     o_add, o_sub, o_mul, o_fdiv, o_mod, o_pow18, o_addT, ag_add, ag_sub, c_lt, c_gt, c_le, c_ge, c_eq, c_ne, c_is, c_isn, c_in, c_nin, u_tup, u_scr, n_scr, n_tup, n_str, n_abs, n_min2, n_max2, tg_nm, tg_2, tg_3, at_0, at_1, at_2, at_3, at_4, i_int, sat_some, getV_0, getV_s,     List.set_cons_zero, List.set_cons_succ, List.map_cons, List.map_nil, List.replicate_succ, List.replicate_zero, List.cons_append, List.nil_append, List.length_cons, List.length_nil, Bool.not_false, hind]
            refine ⟨_, rfl, ?_, trivial⟩
            by_cases y : u.w ∈ goneOf kn
            · simp [y]
            · simp [y]
          · have : w = ("void" : Str) := hv.mpr z
            rw [decide_eq_false z, decide_eq_true this]
            simp only [q_nil, q_cons, k_nx, k_ret, k_brk, k_ct, q_asg, q_asgA, q_asgS, q_aug, q_ex, q_ret, q_retN, q_pass, q_brk, q_cont, q_ifs, q_for, q_whl, b_t, b_f, be_t, be_f, ba_t, ba_f, bo_t, bo_f, t_bl, t_int, t_non,     q_var, q_con, q_glb, q_tup, q_lst, q_dict0, q_bin, q_neg, q_not, q_and, q_or, q_ife, q_cmp, q_cmp2, q_attr, q_sub, q_srev, q_call, q_callk, q_meth, q_bm, q_new, q_bi, q_isi, q_lc, q_dc, q_sortk, q_sortv, q_dict2, q_anil, q_acons, q_ival, q_items, q_vals, q_rng,     o_add, o_sub, o_mul, o_fdiv, o_mod, o_pow18, o_addT, ag_add, ag_sub, c_lt, c_gt, c_le, c_ge, c_eq, c_ne, c_is, c_isn, c_in, c_nin, u_tup, u_scr, n_scr, n_tup, n_str, n_abs, n_min2, n_max2, tg_nm, tg_2, tg_3, at_0, at_1, at_2, at_3, at_4, i_int, sat_some, getV_0, getV_s,     List.set_cons_zero, List.set_cons_succ, List.map_cons, List.map_nil, List.replicate_succ, List.replicate_zero, List.cons_append, List.nil_append, List.length_cons, List.length_nil, Bool.not_true]
            exact ⟨rfl, trivial⟩
        · simp only [q_nil, q_cons, k_nx, k_ret, k_brk, k_ct, q_asg, q_asgA, q_asgS, q_aug, q_ex, q_ret, q_retN, q_pass, q_brk, q_cont, q_ifs, q_for, q_whl, b_t, b_f, be_t, be_f, ba_t, ba_f, bo_t, bo_f, t_bl, t_int, t_non,     q_var, q_con, q_glb, q_tup, q_lst, q_dict0, q_bin, q_neg, q_not, q_and, q_or, q_ife, q_cmp, q_cmp2, q_attr, q_sub, q_srev, q_call, q_callk, q_meth, q_bm, q_new, q_bi, q_isi, q_lc, q_dc, q_sortk, q_sortv, q_dict2, q_anil, q_acons, q_ival, q_items, q_vals, q_rng,     o_add, o_sub, o_mul, o_fdiv, o_mod, o_pow18, o_addT, ag_add, ag_sub, c_lt, c_gt, c_le, c_ge, c_eq, c_ne, c_is, c_isn, c_in, c_nin, u_tup, u_scr, n_scr, n_tup, n_str, n_abs, n_min2, n_max2, tg_nm, tg_2, tg_3, at_0, at_1, at_2, at_3, at_4, i_int, sat_some, getV_0, getV_s,     List.set_cons_zero, List.set_cons_succ, List.map_cons, List.map_nil, List.replicate_succ, List.replicate_zero, List.cons_append, List.nil_append, List.length_cons, List.length_nil]
          exact ⟨rfl, trivial⟩)
    refine lc_done (Q := fun v M_1 => M <+: M_1 ∧ ∃ y, v = .ref y ∧ kd ≤ y ∧ M_1[y]? = some (Ob.lst (List.map Tr.w (forceOf kn)))) e7 (unlk_lock hkd6) ?_
    refine ⟨(p1.trans pm).trans (pre_snoc p6 _), _, rfl, ?_, ?_⟩
    · have := pre_len p6; omega
    · rw [at_new]
      congr 2
      rw [List.map_id]
      exact filter_map_w kn _ _ fun u hu => headFree_w _ u (K.ok u hu).1
  clear hK0
  generalize hM3 : M1 ++ [Ob.lst (List.map Tr.w kn)] ++ [Ob.lst [Wv.ref (List.length M1)]] = M3
  generalize hly : List.length (M1 ++ [Ob.lst (List.map Tr.w kn)]) = ly
  have p3 : M1 <+: M3 := by rw [← hM3, List.append_assoc]; exact List.prefix_append _ _
  have h3 : M3[ly]? = some (.lst [Wv.ref (List.length M1)]) := by rw [← hM3, ← hly]; exact at_new ..
  have hly1 : M1.length < ly := by rw [← hly]; simp
  refine whl_rule (fun m σ M' => ∃ (d : Nat) (rs : List Nat), σ = [some (.ref l), some (.ref kd), some (.int d), some (.ref ly), none, none, none, none] ∧ M1 <+: M' ∧ M'[ly]? = some (.lst (.ref M1.length :: rs.map .ref)) ∧ rs.length = d ∧ d + m = 3 ∧ (∀ i r, rs[i]? = some r → r ≠ ly ∧ M'[r]? = some (.lst (layer kn (i + 1))))) ?_ fuel 3 _ _ ⟨0, [], rfl, p3, h3, rfl, rfl, fun i r h => by simp at h⟩ hfu
  rintro m σ M' ⟨d, rs, rfl, pm, hm, hd, hdm, hr⟩
  have hlyM : ly < M'.length := (List.getElem?_eq_some_iff.mp hm).1
  have hkdM : M'[kd]? = some (.dct false (sets (kn.map Tr.w))) := pre_get pm hkd
  simp only [q_nil, q_cons, k_nx, k_ret, k_brk, k_ct, q_asg, q_asgA, q_asgS, q_aug, q_ex, q_ret, q_retN, q_pass, q_brk, q_cont, q_ifs, q_for, q_whl, b_t, b_f, be_t, be_f, ba_t, ba_f, bo_t, bo_f, t_bl, t_int, t_non,     q_var, q_con, q_glb, q_tup, q_lst, q_dict0, q_bin, q_neg, q_not, q_and, q_or, q_ife, q_cmp, q_cmp2, q_attr, q_sub, q_srev, q_call, q_callk, q_meth, q_bm, q_new, q_bi, q_isi, q_lc, q_dc, q_sortk, q_sortv, q_dict2, q_anil, q_acons, q_ival, q_items, q_vals, q_rng,     o_add, o_sub, o_mul, o_fdiv, o_mod, o_pow18, o_addT, ag_add, ag_sub, c_lt, c_gt, c_le, c_ge, c_eq, c_ne, c_is, c_isn, c_in, c_nin, u_tup, u_scr, n_scr, n_tup, n_str, n_abs, n_min2, n_max2, tg_nm, tg_2, tg_3, at_0, at_1, at_2, at_3, at_4, i_int, sat_some, getV_0, getV_s,     List.set_cons_zero, List.set_cons_succ, List.map_cons, List.map_nil, List.replicate_succ, List.replicate_zero, List.cons_append, List.nil_append, List.length_cons, List.length_nil, con_MOST_DEEP]
  refine ⟨_, rfl, fun hc => ?_, fun hc => ?_⟩
  · have hd3 : d < 3 := by have := of_decide_eq_true hc; omega
    refine ⟨bmT_append hm, ?_⟩
    simp only [walk_dct hkdM, sat_some]
    rw [sets_keys]
    refine lc_done (Q := fun a M => (bmW .append (.ref ly) [a] M).sat _) (layer_lc S k kn kd d [] _ none none none (fun t ht => ⟨(K.ok t ht).1, by have := (K.ok t ht).2.1; omega⟩) (by omega) _ _ _) (unlk_lock hkdM) ?_
    have hm2 : (M' ++ [Ob.lst (layer kn (d + 1))])[ly]? = some (.lst (.ref M1.length :: rs.map .ref)) := by
      rw [List.getElem?_append_left hlyM]; exact hm
    refine sat_of (bm_append hm2 (by simp; omega)) ?_
    refine ⟨m - 1, by omega, d + 1, rs ++ [M'.length], ?_, ?_, ?_, ?_, ?_, ?_⟩
    · simp
    · exact pre_set (pre_snoc pm _) (by omega)
    · rw [List.getElem?_set_self (by simp; omega)]
      simp
    · simp [hd]
    · omega
    · intro i r hi
      by_cases hi2 : i < rs.length
      · rw [List.getElem?_append_left hi2] at hi
        obtain ⟨n1, n2⟩ := hr i r hi
        refine ⟨n1, ?_⟩
        rw [List.getElem?_set_ne (Ne.symm n1), List.getElem?_append_left (List.getElem?_eq_some_iff.mp n2).1]
        exact n2
      · rw [List.getElem?_append_right (by omega)] at hi
        have hi3 : i - rs.length = 0 := by
          by_cases z : i - rs.length = 0
          · exact z
          · rw [List.getElem?_eq_none (by simp; omega)] at hi; cases hi
        rw [hi3] at hi
        have hi4 : M'.length = r := by simpa using hi
        subst hi4
        refine ⟨by omega, ?_⟩
        rw [List.getElem?_set_ne (by omega), at_new]
        have : i = d := by omega
        rw [this]
  · have hd3 : ¬ d < 3 := by have := of_decide_eq_false hc; omega
    have hd4 : d = 3 := by omega
    subst hd4
    obtain ⟨r1, r2, r3, rfl⟩ : ∃ r1 r2 r3, rs = [r1, r2, r3] := by
      match rs, hd with
      | [a, b, c], _ => exact ⟨a, b, c, rfl⟩
    exact after M' ly _ r1 r2 r3 pm hm (hr 0 r1 rfl).2 (hr 1 r2 rfl).2 (hr 2 r3 rfl).2
end Bh
end
section
set_option Elab.async false
set_option linter.all false
set_option maxRecDepth 100000
set_option maxHeartbeats 0
namespace Bh
open PySem MP
/-! ### worlds -/
/-- a truth that is no void: its word, its day, the rest -/
structure Bt where
  w : Str
  d : Int
  xs : List Wv
  deriving DecidableEq
def Bt.v (t : Bt) : Wv := .tup (.str t.w :: .int t.d :: t.xs)
def Bt.tn (t : Bt) : Nat := if t.w = ("share" : Str) then 2 else if t.w = ("release" : Str) then 3 else 1
def Bt.thing (t : Bt) : Wv := .tup (.str t.w :: t.xs.take t.tn)
def Bt.key (t : Bt) : Wv := .tup [t.thing, .int t.d]
structure Bt.ok (t : Bt) : Prop where
  nv : t.w ≠ ("void" : Str)
  sh : SeqAt.shaped (.str t.w) = true
  ln : t.tn ≤ t.xs.length
  pv : pur 5 t.v = true
  kt : keyT t.thing = true
  kk : keyT t.key = true
  pk : pur 6 t.key = true
theorem share_shaped : SeqAt.shaped (.str "share") = true := by decide +kernel
theorem release_shaped : SeqAt.shaped (.str "release") = true := by decide +kernel
theorem thing_of_ok (S : List Int) (k : Nat) (t : Bt) (M : Mem) (h : t.ok) : callN (Gp S) fuel (k + 1) ix_thing_of [t.v] M = .ok t.thing M := by
  obtain ⟨w, d, xs⟩ := t
  have hsh := h.sh
  have hln := h.ln
  simp only at hsh
  simp only [Bt.tn] at hln
  refine sat_eq ?_
  rw [at_thing_of]
  refine run_sat rfl ?_
  show (evSl (Gp S) _ _ fuel sl_thing_of [some (.tup (.str w :: .int d :: xs))] M).sat _
  unfold sl_thing_of
  simp only [q_nil, q_cons, k_nx, k_ret, k_brk, k_ct, q_asg, q_asgA, q_asgS, q_aug, q_ex, q_ret, q_retN, q_pass, q_brk, q_cont, q_ifs, q_for, q_whl, b_t, b_f, be_t, be_f, ba_t, ba_f, bo_t, bo_f, t_bl, t_int, t_non,     q_var, q_con, q_glb, q_tup, q_lst, q_dict0, q_bin, q_neg, q_not, q_and, q_or, q_ife, q_cmp, q_cmp2, q_attr, q_sub, q_srev, q_call, q_callk, q_meth, q_bm, q_new, q_bi, q_isi, q_lc, q_dc, q_sortk, q_sortv, q_dict2, q_anil, q_acons, q_ival, q_items, q_vals, q_rng,     o_add, o_sub, o_mul, o_fdiv, o_mod, o_pow18, o_addT, ag_add, ag_sub, c_lt, c_gt, c_le, c_ge, c_eq, c_ne, c_is, c_isn, c_in, c_nin, u_tup, u_scr, n_scr, n_tup, n_str, n_abs, n_min2, n_max2, tg_nm, tg_2, tg_3, at_0, at_1, at_2, at_3, at_4, i_int, sat_some, getV_0, getV_s,     List.set_cons_zero, List.set_cons_succ, List.map_cons, List.map_nil, List.replicate_succ, List.replicate_zero, List.cons_append, List.nil_append, List.length_cons, List.length_nil]
  refine ⟨_, eqW_str hsh share_shaped, ?_⟩
  by_cases h1 : w = ("share" : Str)
  · rw [if_pos h1] at hln
    rw [decide_eq_true h1]
    match xs, hln with
    | a :: b :: r, _ =>
      simp only [q_nil, q_cons, k_nx, k_ret, k_brk, k_ct, q_asg, q_asgA, q_asgS, q_aug, q_ex, q_ret, q_retN, q_pass, q_brk, q_cont, q_ifs, q_for, q_whl, b_t, b_f, be_t, be_f, ba_t, ba_f, bo_t, bo_f, t_bl, t_int, t_non,     q_var, q_con, q_glb, q_tup, q_lst, q_dict0, q_bin, q_neg, q_not, q_and, q_or, q_ife, q_cmp, q_cmp2, q_attr, q_sub, q_srev, q_call, q_callk, q_meth, q_bm, q_new, q_bi, q_isi, q_lc, q_dc, q_sortk, q_sortv, q_dict2, q_anil, q_acons, q_ival, q_items, q_vals, q_rng,     o_add, o_sub, o_mul, o_fdiv, o_mod, o_pow18, o_addT, ag_add, ag_sub, c_lt, c_gt, c_le, c_ge, c_eq, c_ne, c_is, c_isn, c_in, c_nin, u_tup, u_scr, n_scr, n_tup, n_str, n_abs, n_min2, n_max2, tg_nm, tg_2, tg_3, at_0, at_1, at_2, at_3, at_4, i_int, sat_some, getV_0, getV_s,     List.set_cons_zero, List.set_cons_succ, List.map_cons, List.map_nil, List.replicate_succ, List.replicate_zero, List.cons_append, List.nil_append, List.length_cons, List.length_nil]
      refine ⟨len_ok (by decide), ?_, trivial⟩
      simp [Bt.thing, Bt.tn, h1]
  · rw [if_neg h1] at hln
    rw [decide_eq_false h1]
    simp only [q_nil, q_cons, k_nx, k_ret, k_brk, k_ct, q_asg, q_asgA, q_asgS, q_aug, q_ex, q_ret, q_retN, q_pass, q_brk, q_cont, q_ifs, q_for, q_whl, b_t, b_f, be_t, be_f, ba_t, ba_f, bo_t, bo_f, t_bl, t_int, t_non,     q_var, q_con, q_glb, q_tup, q_lst, q_dict0, q_bin, q_neg, q_not, q_and, q_or, q_ife, q_cmp, q_cmp2, q_attr, q_sub, q_srev, q_call, q_callk, q_meth, q_bm, q_new, q_bi, q_isi, q_lc, q_dc, q_sortk, q_sortv, q_dict2, q_anil, q_acons, q_ival, q_items, q_vals, q_rng,     o_add, o_sub, o_mul, o_fdiv, o_mod, o_pow18, o_addT, ag_add, ag_sub, c_lt, c_gt, c_le, c_ge, c_eq, c_ne, c_is, c_isn, c_in, c_nin, u_tup, u_scr, n_scr, n_tup, n_str, n_abs, n_min2, n_max2, tg_nm, tg_2, tg_3, at_0, at_1, at_2, at_3, at_4, i_int, sat_some, getV_0, getV_s,     List.set_cons_zero, List.set_cons_succ, List.map_cons, List.map_nil, List.replicate_succ, List.replicate_zero, List.cons_append, List.nil_append, List.length_cons, List.length_nil]
    refine ⟨_, eqW_str hsh release_shaped, ?_⟩
    by_cases h2 : w = ("release" : Str)
    · rw [if_pos h2] at hln
      rw [decide_eq_true h2]
      match xs, hln with
      | a :: b :: c :: r, _ =>
        simp only [q_nil, q_cons, k_nx, k_ret, k_brk, k_ct, q_asg, q_asgA, q_asgS, q_aug, q_ex, q_ret, q_retN, q_pass, q_brk, q_cont, q_ifs, q_for, q_whl, b_t, b_f, be_t, be_f, ba_t, ba_f, bo_t, bo_f, t_bl, t_int, t_non,     q_var, q_con, q_glb, q_tup, q_lst, q_dict0, q_bin, q_neg, q_not, q_and, q_or, q_ife, q_cmp, q_cmp2, q_attr, q_sub, q_srev, q_call, q_callk, q_meth, q_bm, q_new, q_bi, q_isi, q_lc, q_dc, q_sortk, q_sortv, q_dict2, q_anil, q_acons, q_ival, q_items, q_vals, q_rng,     o_add, o_sub, o_mul, o_fdiv, o_mod, o_pow18, o_addT, ag_add, ag_sub, c_lt, c_gt, c_le, c_ge, c_eq, c_ne, c_is, c_isn, c_in, c_nin, u_tup, u_scr, n_scr, n_tup, n_str, n_abs, n_min2, n_max2, tg_nm, tg_2, tg_3, at_0, at_1, at_2, at_3, at_4, i_int, sat_some, getV_0, getV_s,     List.set_cons_zero, List.set_cons_succ, List.map_cons, List.map_nil, List.replicate_succ, List.replicate_zero, List.cons_append, List.nil_append, List.length_cons, List.length_nil]
        refine ⟨len_ok (by decide), ?_, trivial⟩
        simp [Bt.thing, Bt.tn, h2, show ¬ (("release" : Str) = ("share" : Str)) by decide +kernel]
    · rw [if_neg h2] at hln
      rw [decide_eq_false h2]
      match xs, hln with
      | a :: r, _ =>
        simp only [q_nil, q_cons, k_nx, k_ret, k_brk, k_ct, q_asg, q_asgA, q_asgS, q_aug, q_ex, q_ret, q_retN, q_pass, q_brk, q_cont, q_ifs, q_for, q_whl, b_t, b_f, be_t, be_f, ba_t, ba_f, bo_t, bo_f, t_bl, t_int, t_non,     q_var, q_con, q_glb, q_tup, q_lst, q_dict0, q_bin, q_neg, q_not, q_and, q_or, q_ife, q_cmp, q_cmp2, q_attr, q_sub, q_srev, q_call, q_callk, q_meth, q_bm, q_new, q_bi, q_isi, q_lc, q_dc, q_sortk, q_sortv, q_dict2, q_anil, q_acons, q_ival, q_items, q_vals, q_rng,     o_add, o_sub, o_mul, o_fdiv, o_mod, o_pow18, o_addT, ag_add, ag_sub, c_lt, c_gt, c_le, c_ge, c_eq, c_ne, c_is, c_isn, c_in, c_nin, u_tup, u_scr, n_scr, n_tup, n_str, n_abs, n_min2, n_max2, tg_nm, tg_2, tg_3, at_0, at_1, at_2, at_3, at_4, i_int, sat_some, getV_0, getV_s,     List.set_cons_zero, List.set_cons_succ, List.map_cons, List.map_nil, List.replicate_succ, List.replicate_zero, List.cons_append, List.nil_append, List.length_cons, List.length_nil]
        refine ⟨len_ok (by decide), ?_, trivial⟩
        simp [Bt.thing, Bt.tn, h1, h2]
/-- the greater of a thing and itself -/
theorem max_self {S : List Int} {M : Mem} {ws : List Wv} (h : pur 5 (.tup ws) = true) : biW (Gp S) .max [.tup ws, .tup ws] M = .ok (.tup ws) M := by
  have e := toD_pur (S := (Gp S).S) (M := M) (m := deepD) h (by decide)
  have ha := alike_dat h
  have hn : noneB (dat (.tup ws)) = false := by simp only [dat, noneB]
  have hd : dcap (dat (.tup ws)) = true := decide_eq_true (Nat.le_trans (dat_depth h) (by decide))
  have hm : W.maxD (dat (.tup ws)) [dat (.tup ws)] = dat (.tup ws) := by
    unfold W.maxD
    simp
  simp only [biW, mapO, e, Option.bind_some, bestOf, alikeAllB, List.all_cons, List.all_nil, ha, hn, hd, Bool.and_self, Bool.not_false, if_true, hm, ofD_dat h, Out.ofO]
end Bh
end
section
set_option Elab.async false
set_option linter.all false
set_option maxRecDepth 100000
set_option maxHeartbeats 0
namespace Bh
open PySem MP
def kvOf (ts : List Bt) : List (Wv × Wv) := ts.map fun t => (t.key, t.v)
theorem dget_none {kvs : List (Wv × Wv)} {k : Wv} (h : ∀ p ∈ kvs, p.1 ≠ k) : dget kvs k = none := by
  induction kvs with
  | nil => rfl
  | cons p r ih =>
    simp only [dget]
    rw [if_neg (h p (List.mem_cons_self ..)), ih fun q hq => h q (List.mem_cons_of_mem _ hq)]
theorem dput_new {kvs : List (Wv × Wv)} {k v : Wv} (h : ∀ p ∈ kvs, p.1 ≠ k) : dput kvs k v = kvs ++ [(k, v)] := by
  induction kvs with
  | nil => rfl
  | cons p r ih =>
    simp only [dput]
    rw [if_neg (h p (List.mem_cons_self ..)), ih fun q hq => h q (List.mem_cons_of_mem _ hq)]
    rfl
/-- the greater of two truths -/
def gt2 (u t : Bt) : Bt := if W.dataLt (dat u.v) (dat t.v) = true then t else u
/-- of each thing and day the greatest -/
def putB : List Bt → Bt → List Bt
  | [], t => [t]
  | u :: r, t => if u.key = t.key then gt2 u t :: r else u :: putB r t
def cntOf (fs : List Bt) : List Bt := fs.foldl putB []
theorem gt2_key {u t : Bt} (h : u.key = t.key) : (gt2 u t).key = t.key := by
  unfold gt2
  split
  · rfl
  · exact h
theorem gt2_mem (u t : Bt) : gt2 u t = u ∨ gt2 u t = t := by
  unfold gt2
  split
  · exact .inr rfl
  · exact .inl rfl
theorem putB_mem {acc : List Bt} {t x : Bt} (h : x ∈ putB acc t) : x ∈ acc ∨ x = t := by
  induction acc with
  | nil => exact .inr (List.mem_singleton.mp h)
  | cons u r ih =>
    simp only [putB] at h
    split at h
    · rcases List.mem_cons.mp h with h | h
      · rcases gt2_mem u t with e | e
        · exact .inl (by rw [h, e]; exact List.mem_cons_self ..)
        · exact .inr (by rw [h, e])
      · exact .inl (List.mem_cons_of_mem _ h)
    · rcases List.mem_cons.mp h with h | h
      · exact .inl (by rw [h]; exact List.mem_cons_self ..)
      · rcases ih h with h | h
        · exact .inl (List.mem_cons_of_mem _ h)
        · exact .inr h
theorem putB_keys {acc : List Bt} {t : Bt} {k : Wv} (h : k ∈ (putB acc t).map Bt.key) : k ∈ acc.map Bt.key ∨ k = t.key := by
  induction acc with
  | nil => simp [putB] at h; exact .inr h
  | cons u r ih =>
    simp only [putB] at h
    split at h
    · rename_i e
      rcases List.mem_cons.mp h with h | h
      · exact .inr (by rw [h, gt2_key e])
      · exact .inl (List.mem_cons_of_mem _ h)
    · rcases List.mem_cons.mp h with h | h
      · exact .inl (by rw [h]; exact List.mem_cons_self ..)
      · rcases ih h with h | h
        · exact .inl (List.mem_cons_of_mem _ h)
        · exact .inr h
theorem putB_nodup {acc : List Bt} {t : Bt} (h : (acc.map Bt.key).Nodup) : ((putB acc t).map Bt.key).Nodup := by
  induction acc with
  | nil => simp [putB]
  | cons u r ih =>
    rw [List.map_cons, List.nodup_cons] at h
    simp only [putB]
    split
    · rename_i e
      rw [List.map_cons, List.nodup_cons, gt2_key e, ← e]
      exact h
    · rename_i e
      rw [List.map_cons, List.nodup_cons]
      refine ⟨fun z => ?_, ih h.2⟩
      rcases putB_keys z with z | z
      · exact h.1 z
      · exact e z
theorem putB_len (acc : List Bt) (t : Bt) : (putB acc t).length ≤ acc.length + 1 := by
  induction acc with
  | nil => simp [putB]
  | cons u r ih =>
    simp only [putB]
    split
    · simp
    · simp; omega
theorem cntOf_snoc (p : List Bt) (t : Bt) : cntOf (p ++ [t]) = putB (cntOf p) t := by unfold cntOf; simp
theorem fold_mem {acc fs : List Bt} {x : Bt} (h : x ∈ fs.foldl putB acc) : x ∈ acc ∨ x ∈ fs := by
  induction fs generalizing acc with
  | nil => exact .inl h
  | cons t fs ih =>
    rcases ih h with h | h
    · rcases putB_mem h with h | h
      · exact .inl h
      · exact .inr (by rw [h]; exact List.mem_cons_self ..)
    · exact .inr (List.mem_cons_of_mem _ h)
theorem cntOf_mem {fs : List Bt} {x : Bt} (h : x ∈ cntOf fs) : x ∈ fs := by
  rcases fold_mem h with h | h
  · cases h
  · exact h
theorem fold_nodup {acc fs : List Bt} (h : (acc.map Bt.key).Nodup) : ((fs.foldl putB acc).map Bt.key).Nodup := by
  induction fs generalizing acc with
  | nil => exact h
  | cons t fs ih => exact ih (putB_nodup h)
theorem cntOf_nodup (fs : List Bt) : ((cntOf fs).map Bt.key).Nodup := fold_nodup List.nodup_nil
theorem fold_len (acc fs : List Bt) : (fs.foldl putB acc).length ≤ acc.length + fs.length := by
  induction fs generalizing acc with
  | nil => simp
  | cons t fs ih =>
    have := ih (putB acc t)
    have := putB_len acc t
    simp only [List.foldl_cons, List.length_cons]
    omega
theorem cntOf_len (fs : List Bt) : (cntOf fs).length ≤ fs.length := by
  have := fold_len [] fs
  unfold cntOf
  simpa using this
theorem put_kv (acc : List Bt) (t : Bt) : (∃ u ∈ acc, u.key = t.key ∧ dget (kvOf acc) t.key = some u.v ∧ dput (kvOf acc) t.key (gt2 u t).v = kvOf (putB acc t)) ∨ (dget (kvOf acc) t.key = none ∧ dput (kvOf acc) t.key t.v = kvOf (putB acc t)) := by
  induction acc with
  | nil => exact .inr ⟨rfl, rfl⟩
  | cons u r ih =>
    by_cases e : u.key = t.key
    · refine .inl ⟨u, List.mem_cons_self .., e, ?_, ?_⟩
      · simp only [kvOf, List.map_cons, dget, if_pos e]
      · simp only [kvOf, List.map_cons, dput, if_pos e, putB]
        rw [gt2_key e, e]
    · have e1 : dget (kvOf (u :: r)) t.key = dget (kvOf r) t.key := by simp only [kvOf, List.map_cons, dget, if_neg e]
      have e2 : ∀ v, dput (kvOf (u :: r)) t.key v = (u.key, u.v) :: dput (kvOf r) t.key v := fun v => by simp only [kvOf, List.map_cons, dput, if_neg e]
      have e3 : kvOf (putB (u :: r) t) = (u.key, u.v) :: kvOf (putB r t) := by simp only [putB, if_neg e, kvOf, List.map_cons]
      rcases ih with ⟨x, hx, h1, h2, h3⟩ | ⟨h1, h2⟩
      · exact .inl ⟨x, List.mem_cons_of_mem _ hx, h1, by rw [e1]; exact h2, by rw [e2, e3, h3]⟩
      · exact .inr ⟨by rw [e1]; exact h1, by rw [e2, e3, h2]⟩
theorem max2 {S : List Int} {M : Mem} {u t : Bt} (hu : pur 5 u.v = true) (ht : pur 5 t.v = true) (h1 : W.alike (dat u.v) (dat t.v) = true) (h2 : W.alike (dat t.v) (dat u.v) = true) : biW (Gp S) .max [u.v, t.v] M = .ok (gt2 u t).v M := by
  have e1 := toD_pur (S := (Gp S).S) (M := M) (m := deepD) hu (by decide)
  have e2 := toD_pur (S := (Gp S).S) (M := M) (m := deepD) ht (by decide)
  have n1 : noneB (dat u.v) = false := by simp only [Bt.v, dat, noneB]
  have n2 : noneB (dat t.v) = false := by simp only [Bt.v, dat, noneB]
  have d1 : dcap (dat u.v) = true := decide_eq_true (Nat.le_trans (dat_depth hu) (by decide))
  have d2 : dcap (dat t.v) = true := decide_eq_true (Nat.le_trans (dat_depth ht) (by decide))
  have eb : biW (Gp S) .max [u.v, t.v] M = .ofO ((mapO (toD (Gp S).S M deepD) [u.v, t.v]).bind (bestOf true)) M := rfl
  rw [eb]
  simp only [mapO, e1, e2, Option.bind_some, bestOf, alikeAllB, List.all_cons, List.all_nil, alike_dat hu, alike_dat ht, h1, h2, n1, n2, d1, d2, Bool.and_self, Bool.not_false, if_true]
  unfold W.maxD gt2
  simp only [List.foldl_cons, List.foldl_nil]
  split
  · rw [ofD_dat ht]; rfl
  · rw [ofD_dat hu]; rfl
/-- truths of one thing and day are alike -/
def Alk (fs : List Bt) : Prop := ∀ u ∈ fs, ∀ t ∈ fs, u.key = t.key → W.alike (dat u.v) (dat t.v) = true
/-- found: of each thing and day the greatest truth -/
theorem found_for (S : List Int) (k y fd : Nat) (fs : List Bt) (a b c e f g : Option Wv) (M0 : Mem) (hy : M0[y]? = some (.lst (fs.map Bt.v))) (hne : y ≠ fd) (hfd : fd < M0.length) (hok : ∀ t ∈ fs, t.ok) (hal : Alk fs) (hl : fs.length ≤ 300) {C1 : Nat → List Wv → Mem → Out Wv} :
    (forGo (.nm 3) (evSl (Gp S) (callN (Gp S) fuel (k + 1)) C1 fuel (.cons (.asg (.nm 4) (.tup (.cons (.call ix_thing_of (.cons (.var 3) .nil) []) (.cons (.sub (.var 3) (.con (.int 1))) .nil))))
      (.cons (.asgS (.var 2) (.var 4) (.bi .max (.cons (.bm .get (.var 2) (.cons (.var 4) (.cons (.var 3) .nil))) (.cons (.var 3) .nil)))) .nil))) [(y, .lst (fs.map Bt.v))] (fs.map Bt.v) [a, b, some (.ref fd), c, e, f, g] (M0.set fd (.dct false []))).sat
      fun q M' => ∃ c' e', q = (.nx, [a, b, some (.ref fd), c', e', f, g]) ∧ M' = M0.set fd (.dct false (kvOf (cntOf fs))) := by
  have hz : 1001 ≤ sizeLine := by decide
  refine for_rule (fun pre post σ M' => ∃ p q : List Bt, fs = p ++ q ∧ post = q.map Bt.v ∧ ∃ c' e', σ = [a, b, some (.ref fd), c', e', f, g] ∧ M' = M0.set fd (.dct false (kvOf (cntOf p)))) ?_ ?_ (fs.map Bt.v) [] _ _ ⟨[], fs, rfl, rfl, c, e, rfl, rfl⟩
  · rintro pre x post σ M' ⟨p, q, hfs, hq, c', e', rfl, rfl⟩
    match q, hq with
    | t :: q, hq =>
    simp only [List.map_cons, List.cons.injEq] at hq
    obtain ⟨rfl, rfl⟩ := hq
    have ht : t ∈ fs := by rw [hfs]; simp
    have ok := hok t ht
    have hM : (M0.set fd (.dct false (kvOf (cntOf p))))[fd]? = some (.dct false (kvOf (cntOf p))) := by rw [List.getElem?_set_self hfd]
    have hlp : p.length ≤ 300 := by rw [hfs] at hl; simp at hl; omega
    have hlc : (kvOf (cntOf p)).length ≤ 300 := by
      have := cntOf_len p
      unfold kvOf
      rw [List.length_map]; omega
    have hmp : ∀ u ∈ cntOf p, u ∈ fs := fun u hu => by rw [hfs]; exact List.mem_append_left _ (cntOf_mem hu)
    have hkp : ∀ r ∈ kvOf (cntOf p), keyT r.1 = true := by
      intro r hr
      unfold kvOf at hr
      obtain ⟨u, hu, rfl⟩ := List.mem_map.mp hr
      exact (hok u (hmp u hu)).kk
    refine ⟨stays_lst (by rw [List.getElem?_set_ne (Ne.symm hne)]; exact hy), _, rfl, ?_⟩
    have e1 := thing_of_ok S k t (M0.set fd (.dct false (kvOf (cntOf p)))) ok
    have hkey : Wv.tup [t.thing, .int t.d] = t.key := rfl
    simp only [q_nil, q_cons, k_nx, k_ret, k_brk, k_ct, q_asg, q_asgA, q_asgS, q_aug, q_ex, q_ret, q_retN, q_pass, q_brk, q_cont, q_ifs, q_for, q_whl, b_t, b_f, be_t, be_f, ba_t, ba_f, bo_t, bo_f, t_bl, t_int, t_non,     q_var, q_con, q_glb, q_tup, q_lst, q_dict0, q_bin, q_neg, q_not, q_and, q_or, q_ife, q_cmp, q_cmp2, q_attr, q_sub, q_srev, q_call, q_callk, q_meth, q_bm, q_new, q_bi, q_isi, q_lc, q_dc, q_sortk, q_sortv, q_dict2, q_anil, q_acons, q_ival, q_items, q_vals, q_rng,     o_add, o_sub, o_mul, o_fdiv, o_mod, o_pow18, o_addT, ag_add, ag_sub, c_lt, c_gt, c_le, c_ge, c_eq, c_ne, c_is, c_isn, c_in, c_nin, u_tup, u_scr, n_scr, n_tup, n_str, n_abs, n_min2, n_max2, tg_nm, tg_2, tg_3, at_0, at_1, at_2, at_3, at_4, i_int, sat_some, getV_0, getV_s,     List.set_cons_zero, List.set_cons_succ, List.map_cons, List.map_nil, List.replicate_succ, List.replicate_zero, List.cons_append, List.nil_append, List.length_cons, List.length_nil, e1, sat_ok]
    have hv : t.v = .tup (.str t.w :: .int t.d :: t.xs) := rfl
    have hsub : ∀ N : Mem, subW (Gp S) t.v (.int 1) N = .ok (.int t.d) N := fun N => rfl
    refine sat_of (hsub _) ?_
    simp only [q_nil, q_cons, k_nx, k_ret, k_brk, k_ct, q_asg, q_asgA, q_asgS, q_aug, q_ex, q_ret, q_retN, q_pass, q_brk, q_cont, q_ifs, q_for, q_whl, b_t, b_f, be_t, be_f, ba_t, ba_f, bo_t, bo_f, t_bl, t_int, t_non,     q_var, q_con, q_glb, q_tup, q_lst, q_dict0, q_bin, q_neg, q_not, q_and, q_or, q_ife, q_cmp, q_cmp2, q_attr, q_sub, q_srev, q_call, q_callk, q_meth, q_bm, q_new, q_bi, q_isi, q_lc, q_dc, q_sortk, q_sortv, q_dict2, q_anil, q_acons, q_ival, q_items, q_vals, q_rng,     o_add, o_sub, o_mul, o_fdiv, o_mod, o_pow18, o_addT, ag_add, ag_sub, c_lt, c_gt, c_le, c_ge, c_eq, c_ne, c_is, c_isn, c_in, c_nin, u_tup, u_scr, n_scr, n_tup, n_str, n_abs, n_min2, n_max2, tg_nm, tg_2, tg_3, at_0, at_1, at_2, at_3, at_4, i_int, sat_some, getV_0, getV_s,     List.set_cons_zero, List.set_cons_succ, List.map_cons, List.map_nil, List.replicate_succ, List.replicate_zero, List.cons_append, List.nil_append, List.length_cons, List.length_nil, hkey]
    refine ⟨len_ok (by decide), bmT_get hM, sat_of (bm_get2 hM (keyOk_T ok.kk hkp)) ?_⟩
    have fin : ∀ z : Wv, dput (kvOf (cntOf p)) t.key z = kvOf (putB (cntOf p) t) → (setW (.ref fd) t.key z (M0.set fd (.dct false (kvOf (cntOf p))))).sat fun _ M => ∃ p_1 q_1, fs = p_1 ++ q_1 ∧ List.map Bt.v q = List.map Bt.v q_1 ∧ ∃ c'_1 e'_1, [a, b, some (.ref fd), some t.v, some t.key, f, g] = [a, b, some (.ref fd), c'_1, e'_1, f, g] ∧ M = M0.set fd (.dct false (kvOf (cntOf p_1))) := fun z hz' => by
      refine sat_of (set_dct hM (keyOk_T ok.kk hkp) (by omega)) ⟨p ++ [t], q, by rw [hfs]; simp, rfl, _, _, rfl, ?_⟩
      rw [List.set_set, cntOf_snoc, hz']
    rcases put_kv (cntOf p) t with ⟨u, hu, h1, h2, h3⟩ | ⟨h1, h2⟩
    · rw [h2]
      have a1 := hal u (hmp u hu) t ht h1
      have a2 := hal t ht u (hmp u hu) h1.symm
      refine sat_of (max2 (hok u (hmp u hu)).pv ok.pv a1 a2) (fin _ h3)
    · rw [h1]
      refine sat_of (max2 ok.pv ok.pv (alike_dat ok.pv) (alike_dat ok.pv)) ?_
      have : gt2 t t = t := by
        rcases gt2_mem t t with e | e <;> exact e
      rw [this]
      exact fin _ h2
  · rintro pre σ M' ⟨p, q, hfs, hq, c', e', rfl, rfl⟩
    have : q = [] := by
      cases q with
      | nil => rfl
      | cons _ _ => cases hq
    subst this
    rw [List.append_nil] at hfs
    subst hfs
    exact ⟨stays_lst (by rw [List.getElem?_set_ne (Ne.symm hne)]; exact hy), c', e', rfl, rfl⟩
end Bh
end
section
set_option Elab.async false
set_option linter.all false
set_option maxRecDepth 100000
set_option maxHeartbeats 0
namespace Bh
open PySem MP
/-- a world's rows in memory -/
inductive Rws (M : Mem) (r : Nat) : List (Wv × Wv) → List (Wv × List Wv) → Prop
  | nil : Rws M r [] []
  | cons {k : Wv} {x : Nat} {ws : List Wv} {kvs : List (Wv × Wv)} {R : List (Wv × List Wv)} (h : M[x]? = some (.lst ws)) (hx : x ≠ r) (t : Rws M r kvs R) : Rws M r ((k, .ref x) :: kvs) ((k, ws) :: R)
def addRow : List (Wv × List Wv) → Wv → Wv → List (Wv × List Wv)
  | [], k, v => [(k, [v])]
  | p :: R, k, v => if p.1 = k then (p.1, p.2 ++ [v]) :: R else p :: addRow R k v
def lookR : List (Wv × List Wv) → Wv → List Wv
  | [], _ => []
  | p :: R, k => if p.1 = k then p.2 else lookR R k
def rowsOf (sk : List Bt) : List (Wv × List Wv) := sk.foldl (fun R t => addRow R t.thing t.v) []
theorem Rws.mono {M M' : Mem} {r : Nat} {kvs : List (Wv × Wv)} {R : List (Wv × List Wv)} (h : Rws M r kvs R) (m : ∀ x ws, x ≠ r → M[x]? = some (.lst ws) → M'[x]? = some (.lst ws)) : Rws M' r kvs R := by
  induction h with
  | nil => exact .nil
  | cons h hx t ih => exact .cons (m _ _ hx h) hx ih
theorem Rws.look {M : Mem} {r : Nat} {kvs : List (Wv × Wv)} {R : List (Wv × List Wv)} (h : Rws M r kvs R) (k : Wv) (em : Nat) (he : M[em]? = some (.lst [])) : ∃ x, (dget kvs k).getD (.ref em) = .ref x ∧ M[x]? = some (.lst (lookR R k)) := by
  induction h with
  | nil => exact ⟨em, rfl, he⟩
  | @cons k' x ws kvs R h hx t ih =>
    simp only [dget, lookR]
    by_cases e : k' = k
    · rw [if_pos e, if_pos e]; exact ⟨x, rfl, h⟩
    · rw [if_neg e, if_neg e]; exact ih
theorem Rws.put {M : Mem} {r : Nat} {kvs : List (Wv × Wv)} {R : List (Wv × List Wv)} (h : Rws M r kvs R) (k v : Wv) (z : Nat) (hz : M[z]? = some (.lst (lookR R k ++ [v]))) (hzr : z ≠ r) : Rws M r (dput kvs k (.ref z)) (addRow R k v) := by
  induction h with
  | nil => exact .cons hz hzr .nil
  | @cons k' x ws kvs R h hx t ih =>
    simp only [dput, addRow]
    simp only [lookR] at hz
    by_cases e : k' = k
    · rw [if_pos e, if_pos e]
      rw [if_pos e] at hz
      exact .cons hz hzr t
    · rw [if_neg e, if_neg e]
      rw [if_neg e] at hz
      exact .cons h hx (ih hz)
theorem Rws.keys {M : Mem} {r : Nat} {kvs : List (Wv × Wv)} {R : List (Wv × List Wv)} (h : Rws M r kvs R) : kvs.map (·.1) = R.map (·.1) := by
  induction h with
  | nil => rfl
  | cons h hx t ih => simp [ih]
theorem addRow_keys {R : List (Wv × List Wv)} {k v : Wv} : ∀ p ∈ addRow R k v, p.1 = k ∨ ∃ q ∈ R, q.1 = p.1 := by
  induction R with
  | nil => intro p hp; simp [addRow] at hp; exact .inl (by rw [hp])
  | cons q R ih =>
    intro p hp
    simp only [addRow] at hp
    by_cases e : q.1 = k
    · rw [if_pos e] at hp
      rcases List.mem_cons.mp hp with h | h
      · exact .inl (by rw [h]; exact e)
      · exact .inr ⟨p, List.mem_cons_of_mem _ h, rfl⟩
    · rw [if_neg e] at hp
      rcases List.mem_cons.mp hp with h | h
      · exact .inr ⟨q, List.mem_cons_self .., by rw [h]⟩
      · rcases ih p h with h | ⟨u, hu, e⟩
        · exact .inl h
        · exact .inr ⟨u, List.mem_cons_of_mem _ hu, e⟩
theorem addRow_len (R : List (Wv × List Wv)) (k v : Wv) : (addRow R k v).length ≤ R.length + 1 := by
  induction R with
  | nil => simp [addRow]
  | cons q R ih =>
    simp only [addRow]
    split
    · simp
    · simp; omega
theorem lookR_len {R : List (Wv × List Wv)} {k : Wv} {n : Nat} (h : ∀ p ∈ R, p.2.length ≤ n) : (lookR R k).length ≤ n := by
  induction R with
  | nil => simp [lookR]
  | cons q R ih =>
    simp only [lookR]
    split
    · exact h q (List.mem_cons_self ..)
    · exact ih fun p hp => h p (List.mem_cons_of_mem _ hp)
theorem addRow_each {R : List (Wv × List Wv)} {k v : Wv} {n : Nat} (h : ∀ p ∈ R, p.2.length ≤ n) : ∀ p ∈ addRow R k v, p.2.length ≤ n + 1 := by
  induction R with
  | nil => intro p hp; simp [addRow] at hp; rw [hp]; simp
  | cons q R ih =>
    intro p hp
    have hq := h q (List.mem_cons_self ..)
    simp only [addRow] at hp
    by_cases e : q.1 = k
    · rw [if_pos e] at hp
      rcases List.mem_cons.mp hp with h' | h'
      · rw [h']; simp; omega
      · have := h p (List.mem_cons_of_mem _ h'); omega
    · rw [if_neg e] at hp
      rcases List.mem_cons.mp hp with h' | h'
      · rw [h']; omega
      · exact ih (fun p hp => h p (List.mem_cons_of_mem _ hp)) p h'
theorem dget_kv {fs : List Bt} {t : Bt} (h : t ∈ fs) (hnd : (fs.map Bt.key).Nodup) : dget (kvOf fs) t.key = some t.v := by
  induction fs with
  | nil => cases h
  | cons u fs ih =>
    simp only [kvOf, List.map_cons, dget]
    by_cases e : u.key = t.key
    · rw [if_pos e]
      rcases List.mem_cons.mp h with h | h
      · rw [h]
      · rw [List.map_cons, List.nodup_cons] at hnd
        exact absurd (List.mem_map.mpr ⟨t, h, e.symm⟩) hnd.1
    · rw [if_neg e]
      rcases List.mem_cons.mp h with h | h
      · exact absurd (by rw [h]) e
      · rw [List.map_cons, List.nodup_cons] at hnd
        exact ih h hnd.2
/-- the rows grow, in the order of the sorted keys -/
theorem rows_for (S : List Int) (s fd r yl : Nat) (fs sk : List Bt) (b c e f g : Option Wv) (M0 M1 : Mem) (hp : M0 <+: M1) (hs : M1[s]? = some (.ins ci_World [("rows", .ref r)])) (hr : M1[r]? = some (.dct false [])) (hfd : M1[fd]? = some (.dct false (kvOf fs))) (hyl : M1[yl]? = some (.lst (sk.map Bt.key))) (h0 : M0.length ≤ r) (n1 : s ≠ r) (n2 : fd ≠ r)
    (hok : ∀ t ∈ fs, t.ok) (hnd : (fs.map Bt.key).Nodup) (hsk : ∀ t ∈ sk, t ∈ fs) (hl : sk.length ≤ 300) {C C1 : Nat → List Wv → Mem → Out Wv} :
    (forGo (.tup [5, 6]) (evSl (Gp S) C C1 fuel (.cons (.asgS (.attr (.var 0) "rows") (.var 5) (.bin .add (.bm .get (.attr (.var 0) "rows") (.cons (.var 5) (.cons (.lst .nil) .nil))) (.lst (.cons (.sub (.var 2) (.tup (.cons (.var 5) (.cons (.var 6) .nil)))) .nil)))) .nil)) [(yl, .lst (sk.map Bt.key))] (sk.map Bt.key) [some (.ref s), b, some (.ref fd), c, e, f, g] M1).sat
      fun q M' => ∃ f' g', q = (.nx, [some (.ref s), b, some (.ref fd), c, e, f', g']) ∧ M0 <+: M' ∧ M'[s]? = some (.ins ci_World [("rows", .ref r)]) ∧ s < M'.length ∧ ∃ kvs, M'[r]? = some (.dct false kvs) ∧ Rws M' r kvs (rowsOf sk) := by
  have hz : 1001 ≤ sizeLine := by decide
  refine for_rule (fun pre post σ M' => ∃ p q : List Bt, sk = p ++ q ∧ post = q.map Bt.key ∧ (∃ f' g', σ = [some (.ref s), b, some (.ref fd), c, e, f', g']) ∧ M0 <+: M' ∧ (∀ x o, x ≠ r → M1[x]? = some o → M'[x]? = some o) ∧ ∃ kvs, M'[r]? = some (.dct false kvs) ∧ Rws M' r kvs (rowsOf p) ∧ (∀ z ∈ rowsOf p, keyT z.1 = true ∧ z.2.length ≤ p.length) ∧ (rowsOf p).length ≤ p.length) ?_ ?_ (sk.map Bt.key) [] _ _
    ⟨[], sk, rfl, rfl, ⟨f, g, rfl⟩, hp, fun x o _ h => h, [], hr, .nil, (fun z hz => by cases hz), Nat.le_refl _⟩
  · rintro pre x post σ M' ⟨p, q, hsk', hq, ⟨f', g', rfl⟩, pm, hfr, kvs, hkv, hR, hb, hbl⟩
    match q, hq with
    | t :: q, hq =>
    simp only [List.map_cons, List.cons.injEq] at hq
    obtain ⟨rfl, rfl⟩ := hq
    have ht : t ∈ fs := hsk t (by rw [hsk']; simp)
    have ok := hok t ht
    have hlp : p.length < 300 := by rw [hsk'] at hl; simp at hl; omega
    have hsM := hfr s _ n1 hs
    have hfM := hfr fd _ n2 hfd
    have hrl : r < M'.length := (List.getElem?_eq_some_iff.mp hkv).1
    have hsl : s < M'.length := (List.getElem?_eq_some_iff.mp hsM).1
    have hfl : fd < M'.length := (List.getElem?_eq_some_iff.mp hfM).1
    have nyl : yl ≠ r := fun e => by rw [e, hr] at hyl; cases hyl
    refine ⟨stays_lst (hfr yl _ nyl hyl), [some (.ref s), b, some (.ref fd), c, e, some t.thing, some (.int t.d)], rfl, ?_⟩
    have at1 : ∀ (N : Mem), N[s]? = some (.ins ci_World [("rows", .ref r)]) → attrW (Gp S) (.ref s) "rows" N = .ok (.ref r) N := fun N h => by
      simp only [attrW, h, cls_World, Option.isSome_some, Out.chk]
      rfl
    have hkk : ∀ z ∈ kvs, keyT z.1 = true := fun z hz => by
      have : z.1 ∈ (rowsOf p).map (·.1) := by rw [← hR.keys]; exact List.mem_map.mpr ⟨z, hz, rfl⟩
      obtain ⟨u, hu, e⟩ := List.mem_map.mp this
      rw [← e]; exact (hb u hu).1
    simp only [q_nil, q_cons, k_nx, k_ret, k_brk, k_ct, q_asg, q_asgA, q_asgS, q_aug, q_ex, q_ret, q_retN, q_pass, q_brk, q_cont, q_ifs, q_for, q_whl, b_t, b_f, be_t, be_f, ba_t, ba_f, bo_t, bo_f, t_bl, t_int, t_non,     q_var, q_con, q_glb, q_tup, q_lst, q_dict0, q_bin, q_neg, q_not, q_and, q_or, q_ife, q_cmp, q_cmp2, q_attr, q_sub, q_srev, q_call, q_callk, q_meth, q_bm, q_new, q_bi, q_isi, q_lc, q_dc, q_sortk, q_sortv, q_dict2, q_anil, q_acons, q_ival, q_items, q_vals, q_rng,     o_add, o_sub, o_mul, o_fdiv, o_mod, o_pow18, o_addT, ag_add, ag_sub, c_lt, c_gt, c_le, c_ge, c_eq, c_ne, c_is, c_isn, c_in, c_nin, u_tup, u_scr, n_scr, n_tup, n_str, n_abs, n_min2, n_max2, tg_nm, tg_2, tg_3, at_0, at_1, at_2, at_3, at_4, i_int, sat_some, getV_0, getV_s,     List.set_cons_zero, List.set_cons_succ, List.map_cons, List.map_nil, List.replicate_succ, List.replicate_zero, List.cons_append, List.nil_append, List.length_cons, List.length_nil]
    refine sat_of (at1 _ hsM) ?_
    refine ⟨bmT_get hkv, len_ok (by decide), ?_⟩
    have hkv1 : (M' ++ [Ob.lst []])[r]? = some (.dct false kvs) := by rw [List.getElem?_append_left hrl]; exact hkv
    refine sat_of (bm_get2 hkv1 (keyOk_T ok.kt hkk)) ?_
    have hR1 : Rws (M' ++ [Ob.lst []]) r kvs (rowsOf p) := hR.mono fun x o _ h => by rw [List.getElem?_append_left (List.getElem?_eq_some_iff.mp h).1]; exact h
    obtain ⟨x, ex, hx⟩ := hR1.look t.thing M'.length (at_new ..)
    rw [ex]
    have hkey : Wv.tup [t.thing, .int t.d] = t.key := rfl
    have hf1 : (M' ++ [Ob.lst []])[fd]? = some (.dct false (kvOf fs)) := by rw [List.getElem?_append_left hfl]; exact hfM
    simp only [hkey]
    refine ⟨len_ok (by decide), ?_⟩
    refine sat_of (sub_dct hf1 (keyOk_T ok.kk fun z hz => by
      unfold kvOf at hz
      obtain ⟨u, hu, rfl⟩ := List.mem_map.mp hz
      exact (hok u hu).kk) (dget_kv ht hnd)) ?_
    refine ⟨len_ok (by decide), ?_⟩
    have hlk := lookR_len (k := t.thing) fun z hz => (hb z hz).2
    refine o_addL x _ (lookR (rowsOf p) t.thing) [t.v] (by rw [List.getElem?_append_left (List.getElem?_eq_some_iff.mp hx).1]; exact hx) (at_new ..) (len_ok (by simp; omega)) ?_
    generalize hN : M' ++ [Ob.lst []] ++ [Ob.lst [t.v]] = N
    have pN : M' <+: N := by rw [← hN, List.append_assoc]; exact List.prefix_append _ _
    have pN2 : M' <+: N ++ [Ob.lst (lookR (rowsOf p) t.thing ++ [t.v])] := pre_snoc pN _
    have hNl : M'.length ≤ N.length := pre_len pN
    refine sat_of (at1 _ (pre_get pN2 hsM)) ?_
    have hkl : kvs.length ≤ p.length := by
      have := congrArg List.length hR.keys
      simp only [List.length_map] at this
      omega
    refine sat_of (set_dct (pre_get pN2 hkv) (keyOk_T ok.kt hkk) (by omega)) ?_
    have er : rowsOf (p ++ [t]) = addRow (rowsOf p) t.thing t.v := by unfold rowsOf; simp
    refine ⟨p ++ [t], q, by rw [hsk']; simp, rfl, ⟨_, _, rfl⟩, pre_set (pm.trans pN2) h0, fun y o ny hy => ?_, dput kvs t.thing (.ref N.length), ?_, ?_, ?_, ?_⟩
    · rw [List.getElem?_set_ne (Ne.symm ny)]
      exact pre_get pN2 (hfr y o ny hy)
    · rw [List.getElem?_set_self (by simp; omega)]
    · rw [er]
      refine Rws.mono ((hR.mono fun y o _ h => pre_get pN2 h).put t.thing t.v N.length (at_new ..) (by omega)) fun y o ny hy => ?_
      rw [List.getElem?_set_ne (Ne.symm ny)]
      exact hy
    · rw [er]
      intro z hz
      refine ⟨?_, ?_⟩
      · rcases addRow_keys z hz with h | ⟨u, hu, e⟩
        · rw [h]; exact ok.kt
        · rw [← e]; exact (hb u hu).1
      · have := addRow_each (fun z hz => (hb z hz).2) z hz
        simpa using this
    · rw [er]
      have := addRow_len (rowsOf p) t.thing t.v
      simp; omega
  · rintro pre σ M' ⟨p, q, hsk', hq, ⟨f', g', rfl⟩, pm, hfr, kvs, hkv, hR, hb, hbl⟩
    have : q = [] := by
      cases q with
      | nil => rfl
      | cons _ _ => cases hq
    subst this
    rw [List.append_nil] at hsk'
    subst hsk'
    have nyl : yl ≠ r := fun e => by rw [e, hr] at hyl; cases hyl
    have hsM := hfr s _ n1 hs
    exact ⟨stays_lst (hfr yl _ nyl hyl), f', g', rfl, pm, hsM, (List.getElem?_eq_some_iff.mp hsM).1, kvs, hkv, hR⟩
end Bh
end
section
set_option Elab.async false
set_option linter.all false
set_option maxRecDepth 100000
set_option maxHeartbeats 0
namespace Bh
open PySem MP
/-- a world stands in memory -/
def WAt (M : Mem) (s : Nat) (R : List (Wv × List Wv)) : Prop := ∃ r q kvs, M[s]? = some (.ins ci_World [("rows", .ref r), ("kept", .ref q)]) ∧ M[r]? = some (.dct false kvs) ∧ Rws M r kvs R
theorem WAt.mono {M M' : Mem} {s : Nat} {R : List (Wv × List Wv)} (h : WAt M s R) (p : M <+: M') : WAt M' s R := by
  obtain ⟨r, q, kvs, h1, h2, h3⟩ := h
  exact ⟨r, q, kvs, pre_get p h1, pre_get p h2, h3.mono fun x o _ h => pre_get p h⟩
/-- World(truths): truths ts, known ones kn, in force fs (no two of one thing and day), sorted sk -/
theorem world_new (S : List Int) (k l : Nat) (ts : List Wv) (kn : List Tr) (fs sk : List Bt) (M : Mem) (hM : M[l]? = some (.lst ts)) (hts : ∀ t ∈ ts, keyT t = true) (hlen : ts.length ≤ 300) (hk : keysOf ts = kn.map Tr.w) (K : Kn kn)
    (hf : (forceOf kn).map Tr.w = fs.map Bt.v) (hok : ∀ t ∈ fs, t.ok) (hal : Alk fs) (hfl : fs.length ≤ 300) (hsort : sortBy (((cntOf fs).map Bt.key).map dat) ((cntOf fs).map Bt.key) = some (sk.map Bt.key)) (hsk : ∀ t ∈ sk, t ∈ cntOf fs) (hsl : sk.length ≤ 300) :
    (newW (Gp S) (callN (Gp S) fuel (k + 3)) ci_World [.ref l] M).sat fun v M' => M <+: M' ∧ ∃ s, v = .ref s ∧ WAt M' s (rowsOf sk) := by
  have hz : 1001 ≤ sizeLine := by decide
  rw [new_World, sat_bind]
  generalize hsn : M.length = s
  generalize hMi : M ++ [Ob.ins ci_World []] = Mi
  have pi : M <+: Mi := by rw [← hMi]; exact List.prefix_append _ _
  have hsi : Mi[s]? = some (.ins ci_World []) := by rw [← hMi, ← hsn]; exact at_new ..
  have hli : Mi.length = s + 1 := by rw [← hMi, ← hsn]; simp
  have hll : l < s := by rw [← hsn]; exact (List.getElem?_eq_some_iff.mp hM).1
  rw [at_World___init__]
  refine run_sat rfl ?_
  show (evSl (Gp S) _ _ fuel sl_World___init__ [some (.ref s), some (.ref l), none, none, none, none, none] Mi).sat _
  unfold sl_World___init__
  simp only [q_nil, q_cons, k_nx, k_ret, k_brk, k_ct, q_asg, q_asgA, q_asgS, q_aug, q_ex, q_ret, q_retN, q_pass, q_brk, q_cont, q_ifs, q_for, q_whl, b_t, b_f, be_t, be_f, ba_t, ba_f, bo_t, bo_f, t_bl, t_int, t_non,     q_var, q_con, q_glb, q_tup, q_lst, q_dict0, q_bin, q_neg, q_not, q_and, q_or, q_ife, q_cmp, q_cmp2, q_attr, q_sub, q_srev, q_call, q_callk, q_meth, q_bm, q_new, q_bi, q_isi, q_lc, q_dc, q_sortk, q_sortv, q_dict2, q_anil, q_acons, q_ival, q_items, q_vals, q_rng,     o_add, o_sub, o_mul, o_fdiv, o_mod, o_pow18, o_addT, ag_add, ag_sub, c_lt, c_gt, c_le, c_ge, c_eq, c_ne, c_is, c_isn, c_in, c_nin, u_tup, u_scr, n_scr, n_tup, n_str, n_abs, n_min2, n_max2, tg_nm, tg_2, tg_3, at_0, at_1, at_2, at_3, at_4, i_int, sat_some, getV_0, getV_s,     List.set_cons_zero, List.set_cons_succ, List.map_cons, List.map_nil, List.replicate_succ, List.replicate_zero, List.cons_append, List.nil_append, List.length_cons, List.length_nil]
  generalize hM2 : Mi ++ [Ob.dct false []] = M2
  have p2 : Mi <+: M2 := by rw [← hM2]; exact List.prefix_append _ _
  have hfd2 : M2[s + 1]? = some (.dct false []) := by rw [← hM2, ← hli]; exact at_new ..
  have hl2 : M2.length = s + 2 := by rw [← hM2]; simp; omega
  refine sat_mono (in_force_ok S k l ts kn M2 (pre_get (pi.trans p2) hM) hts hlen hk K) fun v M3 ⟨p3, y, hv, hy0, hy⟩ => ?_
  subst hv
  simp only [walk_lst hy, sat_some, lock_lst, unlk_lst]
  rw [hli]
  have hfd3 : M3[s + 1]? = some (.dct false []) := pre_get p3 hfd2
  have e3 : M3 = M3.set (s + 1) (.dct false []) := (set_self hfd3).symm
  rw [hf] at hy ⊢
  rw [e3]
  have hl3 := pre_len p3
  refine sat_mono (found_for S (k + 1) y (s + 1) fs _ _ _ _ _ _ M3 hy (by omega) (by omega) hok hal hfl) fun q M4 ⟨c', e', eq, e4⟩ => ?_
  subst eq e4
  generalize hM4 : M3.set (s + 1) (.dct false (kvOf (cntOf fs))) = M4
  have hl4 : M4.length = M3.length := by rw [← hM4]; simp
  have p4 : Mi <+: M4 := by rw [← hM4]; exact pre_set (p2.trans p3) (by omega)
  have hfd4 : M4[s + 1]? = some (.dct false (kvOf (cntOf fs))) := by rw [← hM4, List.getElem?_set_self (by omega)]
  have hs4 : M4[s]? = some (.ins ci_World []) := pre_get p4 hsi
  simp only [q_nil, q_cons, k_nx, k_ret, k_brk, k_ct, q_asg, q_asgA, q_asgS, q_aug, q_ex, q_ret, q_retN, q_pass, q_brk, q_cont, q_ifs, q_for, q_whl, b_t, b_f, be_t, be_f, ba_t, ba_f, bo_t, bo_f, t_bl, t_int, t_non,     q_var, q_con, q_glb, q_tup, q_lst, q_dict0, q_bin, q_neg, q_not, q_and, q_or, q_ife, q_cmp, q_cmp2, q_attr, q_sub, q_srev, q_call, q_callk, q_meth, q_bm, q_new, q_bi, q_isi, q_lc, q_dc, q_sortk, q_sortv, q_dict2, q_anil, q_acons, q_ival, q_items, q_vals, q_rng,     o_add, o_sub, o_mul, o_fdiv, o_mod, o_pow18, o_addT, ag_add, ag_sub, c_lt, c_gt, c_le, c_ge, c_eq, c_ne, c_is, c_isn, c_in, c_nin, u_tup, u_scr, n_scr, n_tup, n_str, n_abs, n_min2, n_max2, tg_nm, tg_2, tg_3, at_0, at_1, at_2, at_3, at_4, i_int, sat_some, getV_0, getV_s,     List.set_cons_zero, List.set_cons_succ, List.map_cons, List.map_nil, List.replicate_succ, List.replicate_zero, List.cons_append, List.nil_append, List.length_cons, List.length_nil]
  have hs5 : (M4 ++ [Ob.dct false []])[s]? = some (.ins ci_World []) := by rw [List.getElem?_append_left (by omega)]; exact hs4
  have eA : setA (Gp S) (.ref s) "rows" (.ref M4.length) (M4 ++ [Ob.dct false []]) = .ok () ((M4 ++ [Ob.dct false []]).set s (.ins ci_World [("rows", .ref M4.length)])) := by
    simp only [setA, hs5, cls_World]
    rfl
  refine sat_of eA ?_
  generalize hM5 : (M4 ++ [Ob.dct false []]).set s (.ins ci_World [("rows", .ref M4.length)]) = M5
  have hl5 : M5.length = M4.length + 1 := by rw [← hM5]; simp
  have hs5 : M5[s]? = some (.ins ci_World [("rows", .ref M4.length)]) := by rw [← hM5, List.getElem?_set_self (by simp; omega)]
  have hr5 : M5[M4.length]? = some (.dct false []) := by rw [← hM5, List.getElem?_set_ne (by omega)]; exact at_new ..
  have hfd5 : M5[s + 1]? = some (.dct false (kvOf (cntOf fs))) := by rw [← hM5, List.getElem?_set_ne (by omega), List.getElem?_append_left (by omega)]; exact hfd4
  have p5 : M <+: M5 := by rw [← hM5]; exact pre_set (pre_snoc (pi.trans p4) _) (by omega)
  have eS : biW (Gp S) .sorted [.ref (s + 1)] M5 = .ok (.ref M5.length) (M5 ++ [.lst (sk.map Bt.key)]) := by
    have e1 : (kvOf (cntOf fs)).map (·.1) = (cntOf fs).map Bt.key := by unfold kvOf; simp [List.map_map, Function.comp_def]
    have e2 : mapO (toD (Gp S).S M5 deepD) ((cntOf fs).map Bt.key) = some (((cntOf fs).map Bt.key).map dat) := by
      rw [List.map_map]
      exact mapO_map fun t ht => toD_pur (hok t (cntOf_mem ht)).pk (by decide)
    simp only [biW, itemsS, itemsOf, hfd5, e1, Option.bind_some, e2, hsort, newL, List.length_map, len_ok (show sk.length ≤ sizeLine by omega), Out.chk]
  refine sat_of eS ?_
  have hyl : (M5 ++ [Ob.lst (sk.map Bt.key)])[M5.length]? = some (.lst (sk.map Bt.key)) := at_new ..
  simp only [walk_lst hyl, sat_some, lock_lst, unlk_lst]
  refine sat_mono (rows_for S s (s + 1) M4.length M5.length (cntOf fs) sk _ _ _ _ _ M (M5 ++ [Ob.lst (sk.map Bt.key)]) (pre_snoc p5 _) (by rw [List.getElem?_append_left (by omega)]; exact hs5) (by rw [List.getElem?_append_left (by omega)]; exact hr5) (by rw [List.getElem?_append_left (by omega)]; exact hfd5) hyl (by omega) (by omega) (by omega) (fun t ht => hok t (cntOf_mem ht)) (cntOf_nodup fs) hsk hsl) fun q M6 ⟨f', g', eq, p6, hs6, hsl6, kvs, hr6, hR⟩ => ?_
  subst eq
  have hrl : M4.length < M6.length := (List.getElem?_eq_some_iff.mp hr6).1
  simp only [q_nil, q_cons, k_nx, k_ret, k_brk, k_ct, q_asg, q_asgA, q_asgS, q_aug, q_ex, q_ret, q_retN, q_pass, q_brk, q_cont, q_ifs, q_for, q_whl, b_t, b_f, be_t, be_f, ba_t, ba_f, bo_t, bo_f, t_bl, t_int, t_non,     q_var, q_con, q_glb, q_tup, q_lst, q_dict0, q_bin, q_neg, q_not, q_and, q_or, q_ife, q_cmp, q_cmp2, q_attr, q_sub, q_srev, q_call, q_callk, q_meth, q_bm, q_new, q_bi, q_isi, q_lc, q_dc, q_sortk, q_sortv, q_dict2, q_anil, q_acons, q_ival, q_items, q_vals, q_rng,     o_add, o_sub, o_mul, o_fdiv, o_mod, o_pow18, o_addT, ag_add, ag_sub, c_lt, c_gt, c_le, c_ge, c_eq, c_ne, c_is, c_isn, c_in, c_nin, u_tup, u_scr, n_scr, n_tup, n_str, n_abs, n_min2, n_max2, tg_nm, tg_2, tg_3, at_0, at_1, at_2, at_3, at_4, i_int, sat_some, getV_0, getV_s,     List.set_cons_zero, List.set_cons_succ, List.map_cons, List.map_nil, List.replicate_succ, List.replicate_zero, List.cons_append, List.nil_append, List.length_cons, List.length_nil]
  have hs7 : (M6 ++ [Ob.dct false []])[s]? = some (.ins ci_World [("rows", .ref M4.length)]) := by rw [List.getElem?_append_left hsl6]; exact hs6
  have eA2 : setA (Gp S) (.ref s) "kept" (.ref M6.length) (M6 ++ [Ob.dct false []]) = .ok () ((M6 ++ [Ob.dct false []]).set s (.ins ci_World [("rows", .ref M4.length), ("kept", .ref M6.length)])) := by
    simp only [setA, hs7, cls_World]
    rfl
  refine sat_of eA2 ?_
  have gt : ∀ x o, x ≠ s → M6[x]? = some o → ((M6 ++ [Ob.dct false []]).set s (.ins ci_World [("rows", .ref M4.length), ("kept", .ref M6.length)]))[x]? = some o := fun x o nx h => by
    rw [List.getElem?_set_ne (Ne.symm nx), List.getElem?_append_left (List.getElem?_eq_some_iff.mp h).1]
    exact h
  simp only [sat_chk, sat_ok, decide_true, true_and]
  refine ⟨pre_set (pre_snoc p6 _) (by omega), s, rfl, M4.length, M6.length, kvs, ?_, gt _ _ (by omega) hr6, ?_⟩
  · rw [List.getElem?_set_self (by simp; omega)]
  · refine hR.mono fun x ws _ hx => gt x _ (fun e => ?_) hx
    rw [e, hs6] at hx
    cases hx
/-! ### World.of -/
def nmW : Option Str → Wv
  | none => .non
  | some n => .str n
def nmHit : Option Str → Str → Bool
  | none, _ => true
  | some n, b => decide (b = n)
def ofHit (w : Str) (n : Option Str) : Wv → Bool
  | .tup (.str a :: .str b :: _) => decide (a = w) && nmHit n b
  | _ => false
def ofRows (w : Str) (n : Option Str) : List (Wv × List Wv) → List Wv
  | [] => []
  | p :: R => if ofHit w n p.1 = true then p.2 ++ ofRows w n R else ofRows w n R
theorem ofRows_app (w : Str) (n : Option Str) (R T : List (Wv × List Wv)) : ofRows w n (R ++ T) = ofRows w n R ++ ofRows w n T := by
  induction R with
  | nil => rfl
  | cons p R ih =>
    simp only [List.cons_append, ofRows, ih]
    split
    · rw [List.append_assoc]
    · rfl
theorem in_name {G : Pg} {M : Mem} (n : Option Str) (b : Str) : inW G (nmW n) (.tup [.non, .str b]) M = some (nmHit n b) := by
  cases n with
  | none => rfl
  | some n =>
    have : PyData.eqv (.str b) (.str n) = decide (b = n) := by
      simp only [PyData.eqv]
      by_cases h : b = n
      · subst h; simp
      · simp [h]
    show some ((PyData.eqv .none (.str n)) || ((PyData.eqv (.str b) (.str n)) || false)) = _
    rw [this]
    simp [PyData.eqv, nmHit]
def okey (t : Bt) : PyData := .tuple [.int t.d, dat t.v]
theorem of_ok (S : List Int) (k s : Nat) (R : List (Wv × List Wv)) (w : Str) (n : Option Str) (ts us : List Bt) (M : Mem) (hW : WAt M s R) (hR : ∀ p ∈ R, ∃ a b rest, p.1 = .tup (.str a :: .str b :: rest) ∧ SeqAt.shaped (.str a) = true) (hw : SeqAt.shaped (.str w) = true) (hts : ofRows w n R = ts.map Bt.v) (hok : ∀ t ∈ ts, pur 5 t.v = true) (hlen : ts.length ≤ 1000) (hs : sortBy (ts.map okey) (ts.map Bt.v) = some (us.map Bt.v)) (hul : us.length ≤ 1000) :
    (callN (Gp S) fuel (k + 1) ix_World_of [.ref s, .str w, nmW n] M).sat fun v M' => M <+: M' ∧ ∃ y, v = .ref y ∧ M.length ≤ y ∧ M'[y]? = some (.lst (us.map Bt.v)) := by
  have hz : 1001 ≤ sizeLine := by decide
  obtain ⟨r, q, kvs, hs0, hr0, hRw⟩ := hW
  rw [at_World_of]
  refine run_sat rfl ?_
  show (evSl (Gp S) _ _ fuel sl_World_of [some (.ref s), some (.str w), some (nmW n), none, none, none] M).sat _
  unfold sl_World_of
  simp only [q_nil, q_cons, k_nx, k_ret, k_brk, k_ct, q_asg, q_asgA, q_asgS, q_aug, q_ex, q_ret, q_retN, q_pass, q_brk, q_cont, q_ifs, q_for, q_whl, b_t, b_f, be_t, be_f, ba_t, ba_f, bo_t, bo_f, t_bl, t_int, t_non,     q_var, q_con, q_glb, q_tup, q_lst, q_dict0, q_bin, q_neg, q_not, q_and, q_or, q_ife, q_cmp, q_cmp2, q_attr, q_sub, q_srev, q_call, q_callk, q_meth, q_bm, q_new, q_bi, q_isi, q_lc, q_dc, q_sortk, q_sortv, q_dict2, q_anil, q_acons, q_ival, q_items, q_vals, q_rng,     o_add, o_sub, o_mul, o_fdiv, o_mod, o_pow18, o_addT, ag_add, ag_sub, c_lt, c_gt, c_le, c_ge, c_eq, c_ne, c_is, c_isn, c_in, c_nin, u_tup, u_scr, n_scr, n_tup, n_str, n_abs, n_min2, n_max2, tg_nm, tg_2, tg_3, at_0, at_1, at_2, at_3, at_4, i_int, sat_some, getV_0, getV_s,     List.set_cons_zero, List.set_cons_succ, List.map_cons, List.map_nil, List.replicate_succ, List.replicate_zero, List.cons_append, List.nil_append, List.length_cons, List.length_nil]
  refine ⟨len_ok (by decide), ?_⟩
  generalize hM1 : M ++ [Ob.lst []] = M1
  have p1 : M <+: M1 := by rw [← hM1]; exact List.prefix_append _ _
  have hf1 : M1[M.length]? = some (.lst []) := by rw [← hM1]; exact at_new ..
  have hrl : r < M.length := (List.getElem?_eq_some_iff.mp hr0).1
  have hs1 := pre_get p1 hs0
  have hr1 := pre_get p1 hr0
  have hRw1 : Rws M1 r kvs R := hRw.mono fun x o _ h => pre_get p1 h
  generalize hfn : M.length = f at *
  have at1 : attrW (Gp S) (.ref s) "rows" M1 = .ok (.ref r) M1 := by
    simp only [attrW, hs1, cls_World, Option.isSome_some, Out.chk]
    rfl
  refine sat_of at1 ?_
  have it1 : itmW (.ref r) M1 = some (kvs, [(r, .dct false kvs)]) := by simp only [itmW, hr1]
  simp only [it1, sat_some]
  have hlk : lockM [(r, .dct false kvs)] M1 = M1.set r (.dct true kvs) := rfl
  rw [hlk]
  refine sat_mono (for_rule (Q := fun q M' => ∃ a b y, q = (.nx, [some (.ref s), some (.str w), some (nmW n), some (.ref y), a, b]) ∧ f ≤ y ∧ M'[y]? = some (.lst (ts.map Bt.v)) ∧ M1.set r (.dct true kvs) <+: M')
    (fun pre post σ M' => ∃ kv2 R1 R2, post = kv2.map (fun p => Wv.tup [p.1, p.2]) ∧ R = R1 ++ R2 ∧ Rws M1 r kv2 R2 ∧ (∃ a b y, σ = [some (.ref s), some (.str w), some (nmW n), some (.ref y), a, b] ∧ f ≤ y ∧ M'[y]? = some (.lst (ofRows w n R1))) ∧ M1.set r (.dct true kvs) <+: M') ?_ ?_ _ [] _ _ ⟨kvs, [], R, rfl, rfl, hRw1, ⟨_, _, f, rfl, Nat.le_refl _, by rw [List.getElem?_set_ne (by omega)]; exact hf1⟩, List.prefix_refl _⟩) fun q M2 ⟨a, b, y, eq, hy0, hy, p2⟩ => ?_
  · rintro pre x post σ M' ⟨kv2, R1, R2, hpost, hRR, hRw2, ⟨a, b, y, rfl, hy0, hy⟩, pm⟩
    cases hRw2 with
    | nil => cases hpost
    | @cons k' x' ws kv2 R2 h hx t =>
    simp only [List.map_cons, List.cons.injEq] at hpost
    obtain ⟨rfl, rfl⟩ := hpost
    obtain ⟨c, d, rest, ek, hc⟩ := hR (k', ws) (by rw [hRR]; simp)
    simp only at ek
    subst ek
    have hx2 : M'[x']? = some (.lst ws) := pre_get pm (by rw [List.getElem?_set_ne (Ne.symm hx)]; exact h)
    have e1 : ∀ z, ofRows w n (R1 ++ [(.tup (.str c :: .str d :: rest), ws)]) = z ↔ ofRows w n R1 ++ (if ofHit w n (.tup (.str c :: .str d :: rest)) = true then ws else []) = z := fun z => by
      rw [ofRows_app]
      simp only [ofRows]
      split <;> simp
    have hRR2 : R = (R1 ++ [(.tup (.str c :: .str d :: rest), ws)]) ++ R2 := by rw [hRR]; simp
    refine ⟨rfl, _, rfl, ?_⟩
    simp only [q_nil, q_cons, k_nx, k_ret, k_brk, k_ct, q_asg, q_asgA, q_asgS, q_aug, q_ex, q_ret, q_retN, q_pass, q_brk, q_cont, q_ifs, q_for, q_whl, b_t, b_f, be_t, be_f, ba_t, ba_f, bo_t, bo_f, t_bl, t_int, t_non,     q_var, q_con, q_glb, q_tup, q_lst, q_dict0, q_bin, q_neg, q_not, q_and, q_or, q_ife, q_cmp, q_cmp2, q_attr, q_sub, q_srev, q_call, q_callk, q_meth, q_bm, q_new, q_bi, q_isi, q_lc, q_dc, q_sortk, q_sortv, q_dict2, q_anil, q_acons, q_ival, q_items, q_vals, q_rng,     o_add, o_sub, o_mul, o_fdiv, o_mod, o_pow18, o_addT, ag_add, ag_sub, c_lt, c_gt, c_le, c_ge, c_eq, c_ne, c_is, c_isn, c_in, c_nin, u_tup, u_scr, n_scr, n_tup, n_str, n_abs, n_min2, n_max2, tg_nm, tg_2, tg_3, at_0, at_1, at_2, at_3, at_4, i_int, sat_some, getV_0, getV_s,     List.set_cons_zero, List.set_cons_succ, List.map_cons, List.map_nil, List.replicate_succ, List.replicate_zero, List.cons_append, List.nil_append, List.length_cons, List.length_nil]
    refine ⟨_, eqW_str hc hw, ?_⟩
    by_cases h1 : c = w
    · rw [decide_eq_true h1]
      simp only [q_nil, q_cons, k_nx, k_ret, k_brk, k_ct, q_asg, q_asgA, q_asgS, q_aug, q_ex, q_ret, q_retN, q_pass, q_brk, q_cont, q_ifs, q_for, q_whl, b_t, b_f, be_t, be_f, ba_t, ba_f, bo_t, bo_f, t_bl, t_int, t_non,     q_var, q_con, q_glb, q_tup, q_lst, q_dict0, q_bin, q_neg, q_not, q_and, q_or, q_ife, q_cmp, q_cmp2, q_attr, q_sub, q_srev, q_call, q_callk, q_meth, q_bm, q_new, q_bi, q_isi, q_lc, q_dc, q_sortk, q_sortv, q_dict2, q_anil, q_acons, q_ival, q_items, q_vals, q_rng,     o_add, o_sub, o_mul, o_fdiv, o_mod, o_pow18, o_addT, ag_add, ag_sub, c_lt, c_gt, c_le, c_ge, c_eq, c_ne, c_is, c_isn, c_in, c_nin, u_tup, u_scr, n_scr, n_tup, n_str, n_abs, n_min2, n_max2, tg_nm, tg_2, tg_3, at_0, at_1, at_2, at_3, at_4, i_int, sat_some, getV_0, getV_s,     List.set_cons_zero, List.set_cons_succ, List.map_cons, List.map_nil, List.replicate_succ, List.replicate_zero, List.cons_append, List.nil_append, List.length_cons, List.length_nil]
      refine ⟨len_ok (by decide), _, in_name n d, ?_⟩
      cases h2 : nmHit n d with
      | true =>
        simp only [q_nil, q_cons, k_nx, k_ret, k_brk, k_ct, q_asg, q_asgA, q_asgS, q_aug, q_ex, q_ret, q_retN, q_pass, q_brk, q_cont, q_ifs, q_for, q_whl, b_t, b_f, be_t, be_f, ba_t, ba_f, bo_t, bo_f, t_bl, t_int, t_non,     q_var, q_con, q_glb, q_tup, q_lst, q_dict0, q_bin, q_neg, q_not, q_and, q_or, q_ife, q_cmp, q_cmp2, q_attr, q_sub, q_srev, q_call, q_callk, q_meth, q_bm, q_new, q_bi, q_isi, q_lc, q_dc, q_sortk, q_sortv, q_dict2, q_anil, q_acons, q_ival, q_items, q_vals, q_rng,     o_add, o_sub, o_mul, o_fdiv, o_mod, o_pow18, o_addT, ag_add, ag_sub, c_lt, c_gt, c_le, c_ge, c_eq, c_ne, c_is, c_isn, c_in, c_nin, u_tup, u_scr, n_scr, n_tup, n_str, n_abs, n_min2, n_max2, tg_nm, tg_2, tg_3, at_0, at_1, at_2, at_3, at_4, i_int, sat_some, getV_0, getV_s,     List.set_cons_zero, List.set_cons_succ, List.map_cons, List.map_nil, List.replicate_succ, List.replicate_zero, List.cons_append, List.nil_append, List.length_cons, List.length_nil]
        have hh : ofHit w n (.tup (.str c :: .str d :: rest)) = true := by simp [ofHit, h1, h2]
        have hl2 : (ofRows w n R1).length + ws.length ≤ 1000 := by
          have := congrArg List.length hts
          rw [hRR2, ofRows_app, (e1 _).mpr rfl, if_pos hh] at this
          simp at this
          omega
        refine o_addL y x' _ _ hy hx2 (len_ok (by omega)) ?_
        try simp only [q_nil, q_cons, k_nx, k_ret, k_brk, k_ct, q_asg, q_asgA, q_asgS, q_aug, q_ex, q_ret, q_retN, q_pass, q_brk, q_cont, q_ifs, q_for, q_whl, b_t, b_f, be_t, be_f, ba_t, ba_f, bo_t, bo_f, t_bl, t_int, t_non,     q_var, q_con, q_glb, q_tup, q_lst, q_dict0, q_bin, q_neg, q_not, q_and, q_or, q_ife, q_cmp, q_cmp2, q_attr, q_sub, q_srev, q_call, q_callk, q_meth, q_bm, q_new, q_bi, q_isi, q_lc, q_dc, q_sortk, q_sortv, q_dict2, q_anil, q_acons, q_ival, q_items, q_vals, q_rng,     o_add, o_sub, o_mul, o_fdiv, o_mod, o_pow18, o_addT, ag_add, ag_sub, c_lt, c_gt, c_le, c_ge, c_eq, c_ne, c_is, c_isn, c_in, c_nin, u_tup, u_scr, n_scr, n_tup, n_str, n_abs, n_min2, n_max2, tg_nm, tg_2, tg_3, at_0, at_1, at_2, at_3, at_4, i_int, sat_some, getV_0, getV_s,     List.set_cons_zero, List.set_cons_succ, List.map_cons, List.map_nil, List.replicate_succ, List.replicate_zero, List.cons_append, List.nil_append, List.length_cons, List.length_nil]
        refine ⟨kv2, _, R2, rfl, hRR2, t, ⟨_, _, _, rfl, ?_, ?_⟩, pre_snoc pm _⟩
        · have := pre_len pm
          have := pre_len p1
          simp only [List.length_set] at *
          omega
        · rw [at_new, (e1 _).mpr rfl, if_pos hh]
      | false =>
        simp only [q_nil, q_cons, k_nx, k_ret, k_brk, k_ct, q_asg, q_asgA, q_asgS, q_aug, q_ex, q_ret, q_retN, q_pass, q_brk, q_cont, q_ifs, q_for, q_whl, b_t, b_f, be_t, be_f, ba_t, ba_f, bo_t, bo_f, t_bl, t_int, t_non,     q_var, q_con, q_glb, q_tup, q_lst, q_dict0, q_bin, q_neg, q_not, q_and, q_or, q_ife, q_cmp, q_cmp2, q_attr, q_sub, q_srev, q_call, q_callk, q_meth, q_bm, q_new, q_bi, q_isi, q_lc, q_dc, q_sortk, q_sortv, q_dict2, q_anil, q_acons, q_ival, q_items, q_vals, q_rng,     o_add, o_sub, o_mul, o_fdiv, o_mod, o_pow18, o_addT, ag_add, ag_sub, c_lt, c_gt, c_le, c_ge, c_eq, c_ne, c_is, c_isn, c_in, c_nin, u_tup, u_scr, n_scr, n_tup, n_str, n_abs, n_min2, n_max2, tg_nm, tg_2, tg_3, at_0, at_1, at_2, at_3, at_4, i_int, sat_some, getV_0, getV_s,     List.set_cons_zero, List.set_cons_succ, List.map_cons, List.map_nil, List.replicate_succ, List.replicate_zero, List.cons_append, List.nil_append, List.length_cons, List.length_nil]
        have hh : ofHit w n (.tup (.str c :: .str d :: rest)) = false := by simp [ofHit, h2]
        refine ⟨kv2, _, R2, rfl, hRR2, t, ⟨_, _, _, rfl, hy0, ?_⟩, pm⟩
        rw [(e1 _).mpr rfl, hh]
        simpa using hy
    · rw [decide_eq_false h1]
      simp only [q_nil, q_cons, k_nx, k_ret, k_brk, k_ct, q_asg, q_asgA, q_asgS, q_aug, q_ex, q_ret, q_retN, q_pass, q_brk, q_cont, q_ifs, q_for, q_whl, b_t, b_f, be_t, be_f, ba_t, ba_f, bo_t, bo_f, t_bl, t_int, t_non,     q_var, q_con, q_glb, q_tup, q_lst, q_dict0, q_bin, q_neg, q_not, q_and, q_or, q_ife, q_cmp, q_cmp2, q_attr, q_sub, q_srev, q_call, q_callk, q_meth, q_bm, q_new, q_bi, q_isi, q_lc, q_dc, q_sortk, q_sortv, q_dict2, q_anil, q_acons, q_ival, q_items, q_vals, q_rng,     o_add, o_sub, o_mul, o_fdiv, o_mod, o_pow18, o_addT, ag_add, ag_sub, c_lt, c_gt, c_le, c_ge, c_eq, c_ne, c_is, c_isn, c_in, c_nin, u_tup, u_scr, n_scr, n_tup, n_str, n_abs, n_min2, n_max2, tg_nm, tg_2, tg_3, at_0, at_1, at_2, at_3, at_4, i_int, sat_some, getV_0, getV_s,     List.set_cons_zero, List.set_cons_succ, List.map_cons, List.map_nil, List.replicate_succ, List.replicate_zero, List.cons_append, List.nil_append, List.length_cons, List.length_nil]
      have hh : ofHit w n (.tup (.str c :: .str d :: rest)) = false := by simp [ofHit, h1]
      refine ⟨kv2, _, R2, rfl, hRR2, t, ⟨_, _, _, rfl, hy0, ?_⟩, pm⟩
      rw [(e1 _).mpr rfl, hh]
      simpa using hy
  · rintro pre σ M' ⟨kv2, R1, R2, hpost, hRR, hRw2, ⟨a, b, y, rfl, hy0, hy⟩, pm⟩
    have : kv2 = [] := by
      cases kv2 with
      | nil => rfl
      | cons _ _ => cases hpost
    subst this
    cases hRw2
    rw [List.append_nil] at hRR
    subst hRR
    exact ⟨rfl, a, b, y, rfl, hy0, by rw [← hts]; exact hy, pm⟩
  · subst eq
    simp only [q_nil, q_cons, k_nx, k_ret, k_brk, k_ct, q_asg, q_asgA, q_asgS, q_aug, q_ex, q_ret, q_retN, q_pass, q_brk, q_cont, q_ifs, q_for, q_whl, b_t, b_f, be_t, be_f, ba_t, ba_f, bo_t, bo_f, t_bl, t_int, t_non,     q_var, q_con, q_glb, q_tup, q_lst, q_dict0, q_bin, q_neg, q_not, q_and, q_or, q_ife, q_cmp, q_cmp2, q_attr, q_sub, q_srev, q_call, q_callk, q_meth, q_bm, q_new, q_bi, q_isi, q_lc, q_dc, q_sortk, q_sortv, q_dict2, q_anil, q_acons, q_ival, q_items, q_vals, q_rng,     o_add, o_sub, o_mul, o_fdiv, o_mod, o_pow18, o_addT, ag_add, ag_sub, c_lt, c_gt, c_le, c_ge, c_eq, c_ne, c_is, c_isn, c_in, c_nin, u_tup, u_scr, n_scr, n_tup, n_str, n_abs, n_min2, n_max2, tg_nm, tg_2, tg_3, at_0, at_1, at_2, at_3, at_4, i_int, sat_some, getV_0, getV_s,     List.set_cons_zero, List.set_cons_succ, List.map_cons, List.map_nil, List.replicate_succ, List.replicate_zero, List.cons_append, List.nil_append, List.length_cons, List.length_nil]
    have hul2 : unlkM [(r, .dct false kvs)] M2 = M2.set r (.dct false kvs) := rfl
    rw [hul2]
    generalize hM3 : M2.set r (.dct false kvs) = M3
    have p3 : M1 <+: M3 := by rw [← hM3]; exact pre_unlk hr1 p2
    have hy3 : M3[y]? = some (.lst (ts.map Bt.v)) := by rw [← hM3, List.getElem?_set_ne (by omega)]; exact hy
    have eK : mapO (keyOf (Gp S) (.tup (.sub .v 1) .v) M3) (ts.map Bt.v) = some (ts.map okey) := mapO_map fun t ht => by
      unfold keyOf
      rw [toD_pur (hok t ht) (by decide)]
      simp only [noL_dat (hok t ht), if_true]
      simp only [keyD, Bt.v, dat, dats, okey]
      rfl
    refine sat_of (a := .ref M3.length) (M := M3 ++ [.lst (us.map Bt.v)]) ?_ ?_
    · simp only [lstOf, hy3, Option.bind_some, eK, hs, newL, List.length_map, len_ok (show us.length ≤ sizeLine by omega), Out.chk]
    · refine ⟨pre_snoc (p1.trans p3) _, _, rfl, ?_, at_new ..⟩
      have := pre_len (p1.trans p3)
      omega
end Bh
end
section
set_option Elab.async false
set_option linter.all false
set_option maxRecDepth 100000
set_option maxHeartbeats 0
namespace Bh
open PySem MP
/-! ### readings -/
def rdT (pl : Str) (p : Int × Int) : Bt := ⟨"read", p.1, [.str pl, .int p.2]⟩
def rdP (p : Int × Int) : Wv := .tup [.int p.1, .int p.2]
/-- a world whose readings at a place are rd -/
def WRd (M : Mem) (s : Nat) (pl : Str) (rd : List (Int × Int)) : Prop := ∃ R, WAt M s R ∧ (∀ p ∈ R, ∃ a b rest, p.1 = .tup (.str a :: .str b :: rest) ∧ SeqAt.shaped (.str a) = true) ∧ ofRows "read" (some pl) R = (rd.map (rdT pl)).map Bt.v
theorem WRd.mono {M M' : Mem} {s : Nat} {pl : Str} {rd : List (Int × Int)} (h : WRd M s pl rd) (p : M <+: M') : WRd M' s pl rd := by
  obtain ⟨R, h1, h2, h3⟩ := h
  exact ⟨R, h1.mono p, h2, h3⟩
structure Asc (rd : List (Int × Int)) : Prop where
  pw : rd.Pairwise fun a b => a.1 < b.1
  len : rd.length ≤ 300
  pos : ∀ p ∈ rd, 0 ≤ p.2
theorem read_shaped : SeqAt.shaped (.str "read") = true := by decide +kernel
theorem read_strOk : PyData.strOk ("read" : Str) = true := by decide +kernel
structure Pl (pl : Str) : Prop where
  nm : nameOk pl = true
  st : PyData.strOk pl = true
theorem pl_a : Pl "a" := ⟨by decide +kernel, by decide +kernel⟩
theorem pl_zz : Pl "zz" := ⟨by decide +kernel, by decide +kernel⟩
theorem rd_pur {pl : Str} (hst : PyData.strOk pl = true) (p : Int × Int) : pur 5 (rdT pl p).v = true := by
  simp only [rdT, Bt.v, pur, purs, read_strOk, hst, Bool.and_self]
theorem eqv_int (i j : Int) : PyData.eqv (.int i) (.int j) = decide (i = j) := by simp [PyData.eqv]; rfl
theorem rd_lt {pl : Str} (hst : PyData.strOk pl = true) {p q : Int × Int} (h : p.1 = q.1 → p = q) : W.dataLt (okey (rdT pl p)) (okey (rdT pl q)) = decide (p.1 < q.1) := by
  unfold okey
  rw [W.dataLt_pair (by simp [W.alike]) (by simp [dat, dats, Bt.v, rdT, W.alike, W.alikeAll])]
  show (if PyData.eqv (.int p.1) (.int q.1) = true then _ else W.dataLt (.int p.1) (.int q.1)) = _
  rw [eqv_int, W.dataLt_int]
  by_cases e : p.1 = q.1
  · have := h e
    subst this
    have e2 := eqv_dat (rd_pur hst p) (rd_pur hst p)
    rw [decide_eq_true rfl] at e2
    rw [e2]
    simp
  · rw [decide_eq_false e]; simp
theorem rd_sort {pl : Str} (hst : PyData.strOk pl = true) {rd : List (Int × Int)} (h : Asc rd) : sortBy ((rd.map (rdT pl)).map okey) ((rd.map (rdT pl)).map Bt.v) = some ((rd.map (rdT pl)).map Bt.v) := by
  rw [List.map_map, List.map_map]
  refine sortBy_int (fun p : Int × Int => p.1) (List.Perm.refl _) h.pw (fun a ha b hb => rd_lt hst (pw_inj h.pw ha hb)) (alikeAllB_map fun a _ b _ => ?_) (sortableB_tup fun a _ => ⟨_, _, rfl⟩) (dcap_map fun a _ => ?_)
  · simp [okey, dat, dats, Bt.v, rdT, W.alike, W.alikeAll]
  · simp [okey, dat, dats, Bt.v, rdT, PyData.depth, PyData.depthAll]
theorem readings_ok (S : List Int) (k s : Nat) {pl : Str} (hn : Pl pl) (rd : List (Int × Int)) (M : Mem) (hW : WRd M s pl rd) (h : Asc rd) :
    (callN (Gp S) fuel (k + 3) ix_readings [.ref s, .str pl] M).sat fun v M' => M <+: M' ∧ ∃ y, v = .ref y ∧ M.length ≤ y ∧ M'[y]? = some (.lst (rd.map rdP)) := by
  have hz : 1001 ≤ sizeLine := by decide
  have hl := h.len
  obtain ⟨L, e1⟩ := look_name_ok S k pl M hn.nm
  rw [at_readings]
  refine run_sat rfl ?_
  show (evSl (Gp S) _ _ fuel sl_readings [some (.ref s), some (.str pl), none] M).sat _
  unfold sl_readings
  simp only [q_nil, q_cons, k_nx, k_ret, k_brk, k_ct, q_asg, q_asgA, q_asgS, q_aug, q_ex, q_ret, q_retN, q_pass, q_brk, q_cont, q_ifs, q_for, q_whl, b_t, b_f, be_t, be_f, ba_t, ba_f, bo_t, bo_f, t_bl, t_int, t_non,     q_var, q_con, q_glb, q_tup, q_lst, q_dict0, q_bin, q_neg, q_not, q_and, q_or, q_ife, q_cmp, q_cmp2, q_attr, q_sub, q_srev, q_call, q_callk, q_meth, q_bm, q_new, q_bi, q_isi, q_lc, q_dc, q_sortk, q_sortv, q_dict2, q_anil, q_acons, q_ival, q_items, q_vals, q_rng,     o_add, o_sub, o_mul, o_fdiv, o_mod, o_pow18, o_addT, ag_add, ag_sub, c_lt, c_gt, c_le, c_ge, c_eq, c_ne, c_is, c_isn, c_in, c_nin, u_tup, u_scr, n_scr, n_tup, n_str, n_abs, n_min2, n_max2, tg_nm, tg_2, tg_3, at_0, at_1, at_2, at_3, at_4, i_int, sat_some, getV_0, getV_s,     List.set_cons_zero, List.set_cons_succ, List.map_cons, List.map_nil, List.replicate_succ, List.replicate_zero, List.cons_append, List.nil_append, List.length_cons, List.length_nil, e1, sat_ok]
  have pL : M <+: M ++ L := List.prefix_append _ _
  obtain ⟨R, hW1, hsh, er⟩ := hW
  have hW2 := hW1.mono pL
  obtain ⟨r, q, kvs, hs0, hr0, hRw⟩ := id hW2
  simp only [met_World_of hs0 (by rfl), sat_some]
  refine sat_mono (of_ok S (k + 1) s R "read" (some pl) (rd.map (rdT pl)) (rd.map (rdT pl)) (M ++ L) hW2 hsh read_shaped er (fun t ht => ?_) (by simp; omega) (rd_sort hn.st h) (by simp; omega)) fun v M2 ⟨p2, y, hv, hy0, hy⟩ => ?_
  · obtain ⟨p, _, rfl⟩ := List.mem_map.mp ht
    exact rd_pur hn.st p
  · subst hv
    simp only [walk_lst hy, sat_some, lock_lst, unlk_lst]
    rw [List.map_map]
    have hy2 := hy
    rw [List.map_map] at hy2
    refine sat_of (lc_pure (fun _ => true) (fun x => match x with | .tup [_, d, _, a] => .tup [d, a] | _ => .non) (stays_lst hy2) (by simp; omega) (fun x hx => ?_)) ?_
    · obtain ⟨p, hp, rfl⟩ := List.mem_map.mp hx
      refine ⟨[some (.ref s), some (.str pl), some (rdT pl p).v], rfl, ⟨.bl true, by simp only [evE], rfl⟩, fun _ => sat_eq ?_⟩
      simp only [rdT, Bt.v, Function.comp_def]
      simp only [q_nil, q_cons, k_nx, k_ret, k_brk, k_ct, q_asg, q_asgA, q_asgS, q_aug, q_ex, q_ret, q_retN, q_pass, q_brk, q_cont, q_ifs, q_for, q_whl, b_t, b_f, be_t, be_f, ba_t, ba_f, bo_t, bo_f, t_bl, t_int, t_non,     q_var, q_con, q_glb, q_tup, q_lst, q_dict0, q_bin, q_neg, q_not, q_and, q_or, q_ife, q_cmp, q_cmp2, q_attr, q_sub, q_srev, q_call, q_callk, q_meth, q_bm, q_new, q_bi, q_isi, q_lc, q_dc, q_sortk, q_sortv, q_dict2, q_anil, q_acons, q_ival, q_items, q_vals, q_rng,     o_add, o_sub, o_mul, o_fdiv, o_mod, o_pow18, o_addT, ag_add, ag_sub, c_lt, c_gt, c_le, c_ge, c_eq, c_ne, c_is, c_isn, c_in, c_nin, u_tup, u_scr, n_scr, n_tup, n_str, n_abs, n_min2, n_max2, tg_nm, tg_2, tg_3, at_0, at_1, at_2, at_3, at_4, i_int, sat_some, getV_0, getV_s,     List.set_cons_zero, List.set_cons_succ, List.map_cons, List.map_nil, List.replicate_succ, List.replicate_zero, List.cons_append, List.nil_append, List.length_cons, List.length_nil]
      exact ⟨len_ok (by decide), trivial, trivial⟩
    · have e3 : (((rd.map (Bt.v ∘ rdT pl)).filter fun _ => true).map fun x => match x with | .tup [_, d, _, a] => Wv.tup [d, a] | _ => .non) = rd.map rdP := by
        rw [List.filter_eq_self.mpr (fun _ _ => rfl), List.map_map]
        rfl
      refine ⟨pre_snoc (pL.trans p2) _, _, rfl, ?_, ?_⟩
      · have := pre_len (pL.trans p2); omega
      · rw [at_new]
        congr 2
/-! ### means -/
def meanOf (as : List Int) : Wv := if as = [] then .non else .tup [.int (as.sum / (Int.gcd as.sum as.length : Int)), .int ((as.length : Int) / (Int.gcd as.sum as.length : Int))]
theorem sum_nonneg {as : List Int} (h : ∀ a ∈ as, 0 ≤ a) : 0 ≤ as.sum := by
  induction as with
  | nil => simp
  | cons a as ih =>
    have := h a (List.mem_cons_self ..)
    have := ih fun x hx => h x (List.mem_cons_of_mem _ hx)
    simp only [List.sum_cons]
    omega
theorem mean_end (S : List Int) (k i f : Nat) (as : List Int) (σ : Sw) (M : Mem) (hf : M[f]? = some (.lst (as.map .int))) (hp : ∀ a ∈ as, 0 ≤ a) (hl : as.length ≤ 300) (hσ : getV i σ = some (.ref f)) {C1 : Nat → List Wv → Mem → Out Wv} :
    (evE (Gp S) (callN (Gp S) fuel (k + 1)) C1 (.ife (.cmp .ne (.var i) (.lst .nil)) (.call ix_lowest (.cons (.bi .sum (.cons (.var i) .nil)) (.cons (.bi .len (.cons (.var i) .nil)) .nil)) []) (.con .non)) σ M).sat fun v M' => v = meanOf as ∧ M' = M ++ [.lst []] := by
  simp only [q_nil, q_cons, k_nx, k_ret, k_brk, k_ct, q_asg, q_asgA, q_asgS, q_aug, q_ex, q_ret, q_retN, q_pass, q_brk, q_cont, q_ifs, q_for, q_whl, b_t, b_f, be_t, be_f, ba_t, ba_f, bo_t, bo_f, t_bl, t_int, t_non,     q_var, q_con, q_glb, q_tup, q_lst, q_dict0, q_bin, q_neg, q_not, q_and, q_or, q_ife, q_cmp, q_cmp2, q_attr, q_sub, q_srev, q_call, q_callk, q_meth, q_bm, q_new, q_bi, q_isi, q_lc, q_dc, q_sortk, q_sortv, q_dict2, q_anil, q_acons, q_ival, q_items, q_vals, q_rng,     o_add, o_sub, o_mul, o_fdiv, o_mod, o_pow18, o_addT, ag_add, ag_sub, c_lt, c_gt, c_le, c_ge, c_eq, c_ne, c_is, c_isn, c_in, c_nin, u_tup, u_scr, n_scr, n_tup, n_str, n_abs, n_min2, n_max2, tg_nm, tg_2, tg_3, at_0, at_1, at_2, at_3, at_4, i_int, sat_some, getV_0, getV_s,     List.set_cons_zero, List.set_cons_succ, List.map_cons, List.map_nil, List.replicate_succ, List.replicate_zero, List.cons_append, List.nil_append, List.length_cons, List.length_nil, hσ]
  have hf2 : (M ++ [Ob.lst []])[f]? = some (.lst (as.map .int)) := by rw [List.getElem?_append_left (List.getElem?_eq_some_iff.mp hf).1]; exact hf
  refine ⟨len_ok (by decide), _, eqW_nil (toD_lst (n := 11) hf2 (toDs_map (g := fun a => .int a) fun x _ => by simp only [toD])) (at_new ..) (shaped_lst (d := 0) (by omega) fun x _ => ⟨rfl, Nat.le_refl _⟩), ?_⟩
  cases as with
  | nil =>
    simp only [q_nil, q_cons, k_nx, k_ret, k_brk, k_ct, q_asg, q_asgA, q_asgS, q_aug, q_ex, q_ret, q_retN, q_pass, q_brk, q_cont, q_ifs, q_for, q_whl, b_t, b_f, be_t, be_f, ba_t, ba_f, bo_t, bo_f, t_bl, t_int, t_non,     q_var, q_con, q_glb, q_tup, q_lst, q_dict0, q_bin, q_neg, q_not, q_and, q_or, q_ife, q_cmp, q_cmp2, q_attr, q_sub, q_srev, q_call, q_callk, q_meth, q_bm, q_new, q_bi, q_isi, q_lc, q_dc, q_sortk, q_sortv, q_dict2, q_anil, q_acons, q_ival, q_items, q_vals, q_rng,     o_add, o_sub, o_mul, o_fdiv, o_mod, o_pow18, o_addT, ag_add, ag_sub, c_lt, c_gt, c_le, c_ge, c_eq, c_ne, c_is, c_isn, c_in, c_nin, u_tup, u_scr, n_scr, n_tup, n_str, n_abs, n_min2, n_max2, tg_nm, tg_2, tg_3, at_0, at_1, at_2, at_3, at_4, i_int, sat_some, getV_0, getV_s,     List.set_cons_zero, List.set_cons_succ, List.map_cons, List.map_nil, List.replicate_succ, List.replicate_zero, List.cons_append, List.nil_append, List.length_cons, List.length_nil, List.isEmpty_nil, Bool.not_true, meanOf]
    simp
  | cons a as =>
    simp only [q_nil, q_cons, k_nx, k_ret, k_brk, k_ct, q_asg, q_asgA, q_asgS, q_aug, q_ex, q_ret, q_retN, q_pass, q_brk, q_cont, q_ifs, q_for, q_whl, b_t, b_f, be_t, be_f, ba_t, ba_f, bo_t, bo_f, t_bl, t_int, t_non,     q_var, q_con, q_glb, q_tup, q_lst, q_dict0, q_bin, q_neg, q_not, q_and, q_or, q_ife, q_cmp, q_cmp2, q_attr, q_sub, q_srev, q_call, q_callk, q_meth, q_bm, q_new, q_bi, q_isi, q_lc, q_dc, q_sortk, q_sortv, q_dict2, q_anil, q_acons, q_ival, q_items, q_vals, q_rng,     o_add, o_sub, o_mul, o_fdiv, o_mod, o_pow18, o_addT, ag_add, ag_sub, c_lt, c_gt, c_le, c_ge, c_eq, c_ne, c_is, c_isn, c_in, c_nin, u_tup, u_scr, n_scr, n_tup, n_str, n_abs, n_min2, n_max2, tg_nm, tg_2, tg_3, at_0, at_1, at_2, at_3, at_4, i_int, sat_some, getV_0, getV_s,     List.set_cons_zero, List.set_cons_succ, List.map_cons, List.map_nil, List.replicate_succ, List.replicate_zero, List.cons_append, List.nil_append, List.length_cons, List.length_nil, List.isEmpty_cons, Bool.not_false, hσ]
    simp only [List.map_cons] at hf2
    refine sat_of (n_sum (Gp S) f (a :: as) hf2) ?_
    refine sat_of (n_lenL (Gp S) f (.int a :: as.map .int) hf2) ?_
    have hlen : ((Wv.int a :: as.map Wv.int).length : Int) = (((a :: as).length : Nat) : Int) := by simp
    rw [hlen]
    simp only [List.length_cons] at hl
    refine sat_of (lowest_ok S k (a :: as).sum ((a :: as).length : Nat) _ (sum_nonneg hp) (by simp only [List.length_cons]; omega) (by simp only [List.length_cons]; omega)) ?_
    refine ⟨?_, rfl⟩
    unfold meanOf
    rw [if_neg (by simp)]
def mbSel (day wide : Int) (p : Int × Int) : Bool := decide (p.1 ≤ day) && decide (circ p.1 day ≤ wide)
theorem mean_by_ok (S : List Int) (k s : Nat) {pl : Str} (hn : Pl pl) (rd : List (Int × Int)) (day wide : Int) (M : Mem) (hW : WRd M s pl rd) (h : Asc rd) (hd : 0 ≤ day ∧ day ≤ 9999) (hw : 0 ≤ wide ∧ wide ≤ 182) :
    (callN (Gp S) fuel (k + 4) ix_mean_by [.ref s, .str pl, .int day, .int wide] M).sat fun v M' => M <+: M' ∧ v = meanOf ((rd.filter (mbSel day wide)).map (·.2)) := by
  have hz : 1001 ≤ sizeLine := by decide
  have hl := h.len
  obtain ⟨L, e1⟩ := look_name_ok S (k + 1) pl M hn.nm
  rw [at_mean_by]
  refine run_sat rfl ?_
  show (evSl (Gp S) _ _ fuel sl_mean_by [some (.ref s), some (.str pl), some (.int day), some (.int wide), none, none, none, none] M).sat _
  unfold sl_mean_by
  simp only [q_nil, q_cons, k_nx, k_ret, k_brk, k_ct, q_asg, q_asgA, q_asgS, q_aug, q_ex, q_ret, q_retN, q_pass, q_brk, q_cont, q_ifs, q_for, q_whl, b_t, b_f, be_t, be_f, ba_t, ba_f, bo_t, bo_f, t_bl, t_int, t_non,     q_var, q_con, q_glb, q_tup, q_lst, q_dict0, q_bin, q_neg, q_not, q_and, q_or, q_ife, q_cmp, q_cmp2, q_attr, q_sub, q_srev, q_call, q_callk, q_meth, q_bm, q_new, q_bi, q_isi, q_lc, q_dc, q_sortk, q_sortv, q_dict2, q_anil, q_acons, q_ival, q_items, q_vals, q_rng,     o_add, o_sub, o_mul, o_fdiv, o_mod, o_pow18, o_addT, ag_add, ag_sub, c_lt, c_gt, c_le, c_ge, c_eq, c_ne, c_is, c_isn, c_in, c_nin, u_tup, u_scr, n_scr, n_tup, n_str, n_abs, n_min2, n_max2, tg_nm, tg_2, tg_3, at_0, at_1, at_2, at_3, at_4, i_int, sat_some, getV_0, getV_s,     List.set_cons_zero, List.set_cons_succ, List.map_cons, List.map_nil, List.replicate_succ, List.replicate_zero, List.cons_append, List.nil_append, List.length_cons, List.length_nil, e1, sat_ok, look_day_ok S k day (M ++ L) hd.1 hd.2, look_whole_ok S (k + 1) wide 0 182 (M ++ L) hw.1 hw.2]
  refine ⟨len_ok (by decide), ?_⟩
  have pL : M <+: M ++ L := List.prefix_append _ _
  generalize M ++ L = M0 at *
  generalize hM1 : M0 ++ [Ob.lst []] = M1
  have p1 : M0 <+: M1 := by rw [← hM1]; exact List.prefix_append _ _
  have hf1 : M1[M0.length]? = some (.lst []) := by rw [← hM1]; exact at_new ..
  have hl1 : M1.length = M0.length + 1 := by rw [← hM1]; simp
  generalize hfn : M0.length = f at *
  refine sat_mono (readings_ok S k s hn rd M1 (hW.mono (pL.trans p1)) h) fun v M2 ⟨p2, y, hv, hy0, hy⟩ => ?_
  subst hv
  have hl2 := pre_len p2
  simp only [walk_lst hy, sat_some, lock_lst, unlk_lst]
  have e2 : M2 = M2.set f (.lst (((([] : List (Int × Int)).filter (mbSel day wide)).map (·.2)).map .int)) := (set_self (pre_get p2 hf1)).symm
  rw [e2]
  refine sat_mono (for_rule (Q := fun q M' => ∃ a b c, q = (.nx, [some (.ref s), some (.str pl), some (.int day), some (.int wide), some (.ref f), a, b, c]) ∧ M' = M2.set f (.lst (((rd.filter (mbSel day wide)).map (·.2)).map .int)))
    (fun pre post σ M' => ∃ pd qd : List (Int × Int), rd = pd ++ qd ∧ post = qd.map rdP ∧ ∃ a b c, σ = [some (.ref s), some (.str pl), some (.int day), some (.int wide), some (.ref f), a, b, c] ∧ M' = M2.set f (.lst (((pd.filter (mbSel day wide)).map (·.2)).map .int))) ?_ ?_ _ [] _ _ ⟨[], rd, rfl, rfl, _, _, _, rfl, rfl⟩) fun q M3 ⟨a, b, c, eq, eM⟩ => ?_
  · rintro pre x post σ M' ⟨pd, qd, hpq, hpost, a, b, c, rfl, rfl⟩
    match qd, hpost with
    | p :: qd, hpost =>
    simp only [List.map_cons, List.cons.injEq] at hpost
    obtain ⟨rfl, rfl⟩ := hpost
    have hrd : rd = (pd ++ [p]) ++ qd := by rw [hpq]; simp
    have hsel : pd.length < 300 := by rw [hpq] at hl; simp at hl; omega
    refine ⟨stays_lst (by rw [List.getElem?_set_ne (by omega)]; exact hy), [some (.ref s), some (.str pl), some (.int day), some (.int wide), some (.ref f), some (.int p.1), some (.int p.2), c], rfl, ?_⟩
    have hfM : (M2.set f (.lst (((pd.filter (mbSel day wide)).map (·.2)).map .int)))[f]? = some (.lst (((pd.filter (mbSel day wide)).map (·.2)).map .int)) := by rw [List.getElem?_set_self (by omega)]
    simp only [q_nil, q_cons, k_nx, k_ret, k_brk, k_ct, q_asg, q_asgA, q_asgS, q_aug, q_ex, q_ret, q_retN, q_pass, q_brk, q_cont, q_ifs, q_for, q_whl, b_t, b_f, be_t, be_f, ba_t, ba_f, bo_t, bo_f, t_bl, t_int, t_non,     q_var, q_con, q_glb, q_tup, q_lst, q_dict0, q_bin, q_neg, q_not, q_and, q_or, q_ife, q_cmp, q_cmp2, q_attr, q_sub, q_srev, q_call, q_callk, q_meth, q_bm, q_new, q_bi, q_isi, q_lc, q_dc, q_sortk, q_sortv, q_dict2, q_anil, q_acons, q_ival, q_items, q_vals, q_rng,     o_add, o_sub, o_mul, o_fdiv, o_mod, o_pow18, o_addT, ag_add, ag_sub, c_lt, c_gt, c_le, c_ge, c_eq, c_ne, c_is, c_isn, c_in, c_nin, u_tup, u_scr, n_scr, n_tup, n_str, n_abs, n_min2, n_max2, tg_nm, tg_2, tg_3, at_0, at_1, at_2, at_3, at_4, i_int, sat_some, getV_0, getV_s,     List.set_cons_zero, List.set_cons_succ, List.map_cons, List.map_nil, List.replicate_succ, List.replicate_zero, List.cons_append, List.nil_append, List.length_cons, List.length_nil, con_YEAR]
    refine ⟨by decide, by decide, ?_⟩
    by_cases c1 : p.1 ≤ day
    · rw [decide_eq_true c1]
      simp only [q_nil, q_cons, k_nx, k_ret, k_brk, k_ct, q_asg, q_asgA, q_asgS, q_aug, q_ex, q_ret, q_retN, q_pass, q_brk, q_cont, q_ifs, q_for, q_whl, b_t, b_f, be_t, be_f, ba_t, ba_f, bo_t, bo_f, t_bl, t_int, t_non,     q_var, q_con, q_glb, q_tup, q_lst, q_dict0, q_bin, q_neg, q_not, q_and, q_or, q_ife, q_cmp, q_cmp2, q_attr, q_sub, q_srev, q_call, q_callk, q_meth, q_bm, q_new, q_bi, q_isi, q_lc, q_dc, q_sortk, q_sortv, q_dict2, q_anil, q_acons, q_ival, q_items, q_vals, q_rng,     o_add, o_sub, o_mul, o_fdiv, o_mod, o_pow18, o_addT, ag_add, ag_sub, c_lt, c_gt, c_le, c_ge, c_eq, c_ne, c_is, c_isn, c_in, c_nin, u_tup, u_scr, n_scr, n_tup, n_str, n_abs, n_min2, n_max2, tg_nm, tg_2, tg_3, at_0, at_1, at_2, at_3, at_4, i_int, sat_some, getV_0, getV_s,     List.set_cons_zero, List.set_cons_succ, List.map_cons, List.map_nil, List.replicate_succ, List.replicate_zero, List.cons_append, List.nil_append, List.length_cons, List.length_nil, con_YEAR]
      by_cases c2 : circ p.1 day ≤ wide
      · have c2' := c2
        unfold circ at c2'
        rw [decide_eq_true c2']
        have hs : mbSel day wide p = true := by unfold mbSel; rw [decide_eq_true c1, decide_eq_true c2]; rfl
        simp only [q_nil, q_cons, k_nx, k_ret, k_brk, k_ct, q_asg, q_asgA, q_asgS, q_aug, q_ex, q_ret, q_retN, q_pass, q_brk, q_cont, q_ifs, q_for, q_whl, b_t, b_f, be_t, be_f, ba_t, ba_f, bo_t, bo_f, t_bl, t_int, t_non,     q_var, q_con, q_glb, q_tup, q_lst, q_dict0, q_bin, q_neg, q_not, q_and, q_or, q_ife, q_cmp, q_cmp2, q_attr, q_sub, q_srev, q_call, q_callk, q_meth, q_bm, q_new, q_bi, q_isi, q_lc, q_dc, q_sortk, q_sortv, q_dict2, q_anil, q_acons, q_ival, q_items, q_vals, q_rng,     o_add, o_sub, o_mul, o_fdiv, o_mod, o_pow18, o_addT, ag_add, ag_sub, c_lt, c_gt, c_le, c_ge, c_eq, c_ne, c_is, c_isn, c_in, c_nin, u_tup, u_scr, n_scr, n_tup, n_str, n_abs, n_min2, n_max2, tg_nm, tg_2, tg_3, at_0, at_1, at_2, at_3, at_4, i_int, sat_some, getV_0, getV_s,     List.set_cons_zero, List.set_cons_succ, List.map_cons, List.map_nil, List.replicate_succ, List.replicate_zero, List.cons_append, List.nil_append, List.length_cons, List.length_nil]
        have := List.length_filter_le (mbSel day wide) pd
        refine ⟨bmT_append hfM, sat_of (bm_append hfM (by simp; omega)) ?_⟩
        refine ⟨pd ++ [p], qd, hrd, rfl, _, _, _, rfl, ?_⟩
        rw [List.set_set]
        simp [List.filter_append, hs]
      · have c2' := c2
        unfold circ at c2'
        rw [decide_eq_false c2']
        have hs : mbSel day wide p = false := by unfold mbSel; rw [decide_eq_false c2, Bool.and_false]
        simp only [q_nil, q_cons, k_nx, k_ret, k_brk, k_ct, q_asg, q_asgA, q_asgS, q_aug, q_ex, q_ret, q_retN, q_pass, q_brk, q_cont, q_ifs, q_for, q_whl, b_t, b_f, be_t, be_f, ba_t, ba_f, bo_t, bo_f, t_bl, t_int, t_non,     q_var, q_con, q_glb, q_tup, q_lst, q_dict0, q_bin, q_neg, q_not, q_and, q_or, q_ife, q_cmp, q_cmp2, q_attr, q_sub, q_srev, q_call, q_callk, q_meth, q_bm, q_new, q_bi, q_isi, q_lc, q_dc, q_sortk, q_sortv, q_dict2, q_anil, q_acons, q_ival, q_items, q_vals, q_rng,     o_add, o_sub, o_mul, o_fdiv, o_mod, o_pow18, o_addT, ag_add, ag_sub, c_lt, c_gt, c_le, c_ge, c_eq, c_ne, c_is, c_isn, c_in, c_nin, u_tup, u_scr, n_scr, n_tup, n_str, n_abs, n_min2, n_max2, tg_nm, tg_2, tg_3, at_0, at_1, at_2, at_3, at_4, i_int, sat_some, getV_0, getV_s,     List.set_cons_zero, List.set_cons_succ, List.map_cons, List.map_nil, List.replicate_succ, List.replicate_zero, List.cons_append, List.nil_append, List.length_cons, List.length_nil]
        refine ⟨pd ++ [p], qd, hrd, rfl, _, _, _, rfl, ?_⟩
        simp [List.filter_append, hs]
    · rw [decide_eq_false c1]
      have hs : mbSel day wide p = false := by unfold mbSel; rw [decide_eq_false c1, Bool.false_and]
      simp only [q_nil, q_cons, k_nx, k_ret, k_brk, k_ct, q_asg, q_asgA, q_asgS, q_aug, q_ex, q_ret, q_retN, q_pass, q_brk, q_cont, q_ifs, q_for, q_whl, b_t, b_f, be_t, be_f, ba_t, ba_f, bo_t, bo_f, t_bl, t_int, t_non,     q_var, q_con, q_glb, q_tup, q_lst, q_dict0, q_bin, q_neg, q_not, q_and, q_or, q_ife, q_cmp, q_cmp2, q_attr, q_sub, q_srev, q_call, q_callk, q_meth, q_bm, q_new, q_bi, q_isi, q_lc, q_dc, q_sortk, q_sortv, q_dict2, q_anil, q_acons, q_ival, q_items, q_vals, q_rng,     o_add, o_sub, o_mul, o_fdiv, o_mod, o_pow18, o_addT, ag_add, ag_sub, c_lt, c_gt, c_le, c_ge, c_eq, c_ne, c_is, c_isn, c_in, c_nin, u_tup, u_scr, n_scr, n_tup, n_str, n_abs, n_min2, n_max2, tg_nm, tg_2, tg_3, at_0, at_1, at_2, at_3, at_4, i_int, sat_some, getV_0, getV_s,     List.set_cons_zero, List.set_cons_succ, List.map_cons, List.map_nil, List.replicate_succ, List.replicate_zero, List.cons_append, List.nil_append, List.length_cons, List.length_nil]
      refine ⟨pd ++ [p], qd, hrd, rfl, _, _, _, rfl, ?_⟩
      simp [List.filter_append, hs]
  · rintro pre σ M' ⟨pd, qd, hpq, hpost, a, b, c, rfl, rfl⟩
    have : qd = [] := by
      cases qd with
      | nil => rfl
      | cons _ _ => cases hpost
    subst this
    rw [List.append_nil] at hpq
    subst hpq
    exact ⟨stays_lst (by rw [List.getElem?_set_ne (by omega)]; exact hy), a, b, c, rfl, rfl⟩
  · subst eq eM
    rw [k_nx, q_cons, q_ret]
    have hfl : ((rd.filter (mbSel day wide)).map (·.2)).length ≤ 300 := by
      have := List.length_filter_le (mbSel day wide) rd
      simp; omega
    refine sat_mono (mean_end S (k + 2) 4 f ((rd.filter (mbSel day wide)).map (·.2)) _ _ (by rw [List.getElem?_set_self (by omega)]) (fun a ha => ?_) hfl rfl) fun v M' ⟨e1, e2⟩ => ?_
    · obtain ⟨p, hp, rfl⟩ := List.mem_map.mp ha
      exact h.pos p (List.mem_filter.mp hp).1
    · subst e1 e2
      simp only [q_nil, q_cons, k_nx, k_ret, k_brk, k_ct, q_asg, q_asgA, q_asgS, q_aug, q_ex, q_ret, q_retN, q_pass, q_brk, q_cont, q_ifs, q_for, q_whl, b_t, b_f, be_t, be_f, ba_t, ba_f, bo_t, bo_f, t_bl, t_int, t_non,     q_var, q_con, q_glb, q_tup, q_lst, q_dict0, q_bin, q_neg, q_not, q_and, q_or, q_ife, q_cmp, q_cmp2, q_attr, q_sub, q_srev, q_call, q_callk, q_meth, q_bm, q_new, q_bi, q_isi, q_lc, q_dc, q_sortk, q_sortv, q_dict2, q_anil, q_acons, q_ival, q_items, q_vals, q_rng,     o_add, o_sub, o_mul, o_fdiv, o_mod, o_pow18, o_addT, ag_add, ag_sub, c_lt, c_gt, c_le, c_ge, c_eq, c_ne, c_is, c_isn, c_in, c_nin, u_tup, u_scr, n_scr, n_tup, n_str, n_abs, n_min2, n_max2, tg_nm, tg_2, tg_3, at_0, at_1, at_2, at_3, at_4, i_int, sat_some, getV_0, getV_s,     List.set_cons_zero, List.set_cons_succ, List.map_cons, List.map_nil, List.replicate_succ, List.replicate_zero, List.cons_append, List.nil_append, List.length_cons, List.length_nil]
      exact ⟨pre_snoc (pre_set (pL.trans (p1.trans p2)) (by have := pre_len pL; omega)) _, trivial⟩
end Bh
end
section
set_option Elab.async false
set_option linter.all false
set_option maxRecDepth 100000
set_option maxHeartbeats 0
namespace Bh
open PySem MP
/-! ### what is looked for -/
def lfSel (day wide : Int) (j : Nat) (p : Int × Int) : Bool := decide (p.1 ≤ day) && decide (circ p.1 (day + (1 + (j : Int))) ≤ wide)
def lf (rd : List (Int × Int)) (day wide : Int) (j : Nat) : Wv := meanOf ((rd.filter (lfSel day wide j)).map (·.2))
theorem rng_eq (a b : Int) (n : Nat) (h : b = a + n) : rngW a b = (List.range n).map fun (k : Nat) => Wv.int (a + (k : Int)) := by
  unfold rngW
  have : (b - a).toNat = n := by omega
  rw [this]
theorem looked_for_ok (S : List Int) (k s : Nat) {pl : Str} (hpl : Pl pl) (rd : List (Int × Int)) (day wide : Int) (many : Nat) (M : Mem) (hW : WRd M s pl rd) (h : Asc rd) (hd : 0 ≤ day ∧ day ≤ 9999 ) (hm : 1 ≤ many ∧ many ≤ 99) (hw : 0 ≤ wide ∧ wide ≤ 182) :
    (callN (Gp S) fuel (k + 4) ix_looked_for [.ref s, .str pl, .int day, .int many, .int wide] M).sat fun v M' => M <+: M' ∧ ∃ y, v = .ref y ∧ M.length ≤ y ∧ M'[y]? = some (.lst ((List.range many).map (lf rd day wide))) := by
  have hz : 1001 ≤ sizeLine := by decide
  have hl := h.len
  obtain ⟨L, e1⟩ := look_name_ok S (k + 1) pl M hpl.nm
  rw [at_looked_for]
  refine run_sat rfl ?_
  show (evSl (Gp S) _ _ fuel sl_looked_for [some (.ref s), some (.str pl), some (.int day), some (.int many), some (.int wide), none, none, none, none, none, none] M).sat _
  unfold sl_looked_for
  simp only [q_nil, q_cons, k_nx, k_ret, k_brk, k_ct, q_asg, q_asgA, q_asgS, q_aug, q_ex, q_ret, q_retN, q_pass, q_brk, q_cont, q_ifs, q_for, q_whl, b_t, b_f, be_t, be_f, ba_t, ba_f, bo_t, bo_f, t_bl, t_int, t_non,     q_var, q_con, q_glb, q_tup, q_lst, q_dict0, q_bin, q_neg, q_not, q_and, q_or, q_ife, q_cmp, q_cmp2, q_attr, q_sub, q_srev, q_call, q_callk, q_meth, q_bm, q_new, q_bi, q_isi, q_lc, q_dc, q_sortk, q_sortv, q_dict2, q_anil, q_acons, q_ival, q_items, q_vals, q_rng,     o_add, o_sub, o_mul, o_fdiv, o_mod, o_pow18, o_addT, ag_add, ag_sub, c_lt, c_gt, c_le, c_ge, c_eq, c_ne, c_is, c_isn, c_in, c_nin, u_tup, u_scr, n_scr, n_tup, n_str, n_abs, n_min2, n_max2, tg_nm, tg_2, tg_3, at_0, at_1, at_2, at_3, at_4, i_int, sat_some, getV_0, getV_s,     List.set_cons_zero, List.set_cons_succ, List.map_cons, List.map_nil, List.replicate_succ, List.replicate_zero, List.cons_append, List.nil_append, List.length_cons, List.length_nil, e1, sat_ok, look_day_ok S k day (M ++ L) hd.1 hd.2, look_whole_ok S (k + 1) many 1 99 (M ++ L) (by omega) (by omega), look_whole_ok S (k + 1) wide 0 182 (M ++ L) hw.1 hw.2]
  refine ⟨len_ok (by decide), ?_⟩
  have pL : M <+: M ++ L := List.prefix_append _ _
  generalize M ++ L = M0 at *
  generalize hM1 : M0 ++ [Ob.lst []] = M1
  have p1 : M0 <+: M1 := by rw [← hM1]; exact List.prefix_append _ _
  have hf1 : M1[M0.length]? = some (.lst []) := by rw [← hM1]; exact at_new ..
  have hl1 : M1.length = M0.length + 1 := by rw [← hM1]; simp
  have hl0 := pre_len pL
  generalize hfn : M0.length = f at *
  refine ⟨by unfold rngOk; rw [decide_eq_true (by omega), decide_eq_true (by omega), decide_eq_true (by omega), decide_eq_true (by omega)]; rfl, ?_⟩
  rw [rng_eq 1 _ many (by omega)]
  have hlk : lockM [] M1 = M1 := rfl
  have hul : ∀ N : Mem, unlkM [] N = N := fun _ => rfl
  simp only [hlk, hul]
  refine sat_mono (for_rule (Q := fun q M' => ∃ a b c d e, q = (.nx, [some (.ref s), some (.str pl), some (.int day), some (.int many), some (.int wide), some (.ref f), a, b, c, d, e]) ∧ M0 <+: M' ∧ M'[f]? = some (.lst ((List.range many).map (lf rd day wide))))
    (fun pre post σ M' => ∃ n : Nat, n ≤ many ∧ post = ((List.range many).drop n).map (fun k : Nat => Wv.int (1 + (k : Int))) ∧ (∃ a b c d e, σ = [some (.ref s), some (.str pl), some (.int day), some (.int many), some (.int wide), some (.ref f), a, b, c, d, e]) ∧ M0 <+: M' ∧ M'[f]? = some (.lst ((List.range n).map (lf rd day wide)))) ?_ ?_ _ [] _ _ ⟨0, by omega, rfl, ⟨_, _, _, _, _, rfl⟩, p1, hf1⟩) fun q M3 ⟨a, b, c, d, e, eq, p3, hf3⟩ => ?_
  · rintro pre x post σ M' ⟨n, hn, hpost, ⟨a, b, c, d, e, rfl⟩, pm, hf⟩
    have hn2 : n < many := by
      by_cases z : n < many
      · exact z
      · rw [List.drop_eq_nil_of_le (by simp; omega)] at hpost; cases hpost
    rw [List.drop_eq_getElem_cons (by simpa using hn2)] at hpost
    simp only [List.getElem_range, List.map_cons, List.cons.injEq] at hpost
    obtain ⟨rfl, rfl⟩ := hpost
    refine ⟨rfl, [some (.ref s), some (.str pl), some (.int day), some (.int many), some (.int wide), some (.ref f), some (.int (1 + (n : Int))), b, c, d, e], rfl, ?_⟩
    have hfl : f < M'.length := (List.getElem?_eq_some_iff.mp hf).1
    rw [q_cons, q_asg, q_lc, q_ival]
    simp only [q_call, q_acons, q_anil, q_var, getV_0, getV_s, sat_some, List.cons_append, List.nil_append]
    refine sat_mono (readings_ok S k s hpl rd M' (hW.mono (pL.trans pm)) h) fun v M2 ⟨p2, y, hv, hy0, hy⟩ => ?_
    subst hv
    simp only [walk_lst hy, sat_some, lock_lst, unlk_lst]
    refine sat_of (lc_pure (fun x => match x with | .tup [.int d, _] => decide (d ≤ day) | _ => false) id (stays_lst hy) (by simp; omega) (fun x hx => ?_)) ?_
    · obtain ⟨p, hp, rfl⟩ := List.mem_map.mp hx
      refine ⟨[some (.ref s), some (.str pl), some (.int day), some (.int many), some (.int wide), some (.ref f), some (.int (1 + (n : Int))), b, c, some (.int p.1), some (.int p.2)], rfl, ⟨.bl (decide (p.1 ≤ day)), sat_eq ?_, rfl⟩, fun _ => sat_eq ?_⟩
      · simp only [q_nil, q_cons, k_nx, k_ret, k_brk, k_ct, q_asg, q_asgA, q_asgS, q_aug, q_ex, q_ret, q_retN, q_pass, q_brk, q_cont, q_ifs, q_for, q_whl, b_t, b_f, be_t, be_f, ba_t, ba_f, bo_t, bo_f, t_bl, t_int, t_non,     q_var, q_con, q_glb, q_tup, q_lst, q_dict0, q_bin, q_neg, q_not, q_and, q_or, q_ife, q_cmp, q_cmp2, q_attr, q_sub, q_srev, q_call, q_callk, q_meth, q_bm, q_new, q_bi, q_isi, q_lc, q_dc, q_sortk, q_sortv, q_dict2, q_anil, q_acons, q_ival, q_items, q_vals, q_rng,     o_add, o_sub, o_mul, o_fdiv, o_mod, o_pow18, o_addT, ag_add, ag_sub, c_lt, c_gt, c_le, c_ge, c_eq, c_ne, c_is, c_isn, c_in, c_nin, u_tup, u_scr, n_scr, n_tup, n_str, n_abs, n_min2, n_max2, tg_nm, tg_2, tg_3, at_0, at_1, at_2, at_3, at_4, i_int, sat_some, getV_0, getV_s,     List.set_cons_zero, List.set_cons_succ, List.map_cons, List.map_nil, List.replicate_succ, List.replicate_zero, List.cons_append, List.nil_append, List.length_cons, List.length_nil]
        exact ⟨trivial, trivial⟩
      · simp only [q_nil, q_cons, k_nx, k_ret, k_brk, k_ct, q_asg, q_asgA, q_asgS, q_aug, q_ex, q_ret, q_retN, q_pass, q_brk, q_cont, q_ifs, q_for, q_whl, b_t, b_f, be_t, be_f, ba_t, ba_f, bo_t, bo_f, t_bl, t_int, t_non,     q_var, q_con, q_glb, q_tup, q_lst, q_dict0, q_bin, q_neg, q_not, q_and, q_or, q_ife, q_cmp, q_cmp2, q_attr, q_sub, q_srev, q_call, q_callk, q_meth, q_bm, q_new, q_bi, q_isi, q_lc, q_dc, q_sortk, q_sortv, q_dict2, q_anil, q_acons, q_ival, q_items, q_vals, q_rng,     o_add, o_sub, o_mul, o_fdiv, o_mod, o_pow18, o_addT, ag_add, ag_sub, c_lt, c_gt, c_le, c_ge, c_eq, c_ne, c_is, c_isn, c_in, c_nin, u_tup, u_scr, n_scr, n_tup, n_str, n_abs, n_min2, n_max2, tg_nm, tg_2, tg_3, at_0, at_1, at_2, at_3, at_4, i_int, sat_some, getV_0, getV_s,     List.set_cons_zero, List.set_cons_succ, List.map_cons, List.map_nil, List.replicate_succ, List.replicate_zero, List.cons_append, List.nil_append, List.length_cons, List.length_nil]
        exact ⟨len_ok (by decide), rfl, trivial⟩
    have ef : (((rd.map rdP).filter fun x => match x with | .tup [.int d, _] => decide (d ≤ day) | _ => false).map id) = (rd.filter fun p => decide (p.1 ≤ day)).map rdP := by
      rw [List.map_id, List.filter_map]
      rfl
    rw [ef]
    simp only [tg_nm, sat_some, List.set_cons_zero, List.set_cons_succ]
    generalize hM4 : M2 ++ [Ob.lst ((rd.filter fun p => decide (p.1 ≤ day)).map rdP)] = M4
    have hr4 : M4[M2.length]? = some (.lst ((rd.filter fun p => decide (p.1 ≤ day)).map rdP)) := by rw [← hM4]; exact at_new ..
    have p4 : M2 <+: M4 := by rw [← hM4]; exact List.prefix_append _ _
    have hfll : (rd.filter fun p => decide (p.1 ≤ day)).length ≤ 300 := by
      have := List.length_filter_le (fun p : Int × Int => decide (p.1 ≤ day)) rd
      omega
    rw [k_nx, q_cons, q_asg, q_lc, q_ival]
    simp only [q_var, getV_0, getV_s, sat_some, walk_lst hr4, lock_lst, unlk_lst]
    refine sat_of (lc_pure (fun x => match x with | .tup [.int d, _] => decide (circ d (day + (1 + (n : Int))) ≤ wide) | _ => false) (fun x => match x with | .tup [_, a] => a | _ => .non) (stays_lst hr4) (by simp; omega) (fun x hx => ?_)) ?_
    · obtain ⟨p, hp, rfl⟩ := List.mem_map.mp hx
      refine ⟨[some (.ref s), some (.str pl), some (.int day), some (.int many), some (.int wide), some (.ref f), some (.int (1 + (n : Int))), some (.ref M2.length), c, some (.int p.1), some (.int p.2)], rfl, ⟨.bl (decide (circ p.1 (day + (1 + (n : Int))) ≤ wide)), sat_eq ?_, rfl⟩, fun _ => sat_eq ?_⟩
      · simp only [q_nil, q_cons, k_nx, k_ret, k_brk, k_ct, q_asg, q_asgA, q_asgS, q_aug, q_ex, q_ret, q_retN, q_pass, q_brk, q_cont, q_ifs, q_for, q_whl, b_t, b_f, be_t, be_f, ba_t, ba_f, bo_t, bo_f, t_bl, t_int, t_non,     q_var, q_con, q_glb, q_tup, q_lst, q_dict0, q_bin, q_neg, q_not, q_and, q_or, q_ife, q_cmp, q_cmp2, q_attr, q_sub, q_srev, q_call, q_callk, q_meth, q_bm, q_new, q_bi, q_isi, q_lc, q_dc, q_sortk, q_sortv, q_dict2, q_anil, q_acons, q_ival, q_items, q_vals, q_rng,     o_add, o_sub, o_mul, o_fdiv, o_mod, o_pow18, o_addT, ag_add, ag_sub, c_lt, c_gt, c_le, c_ge, c_eq, c_ne, c_is, c_isn, c_in, c_nin, u_tup, u_scr, n_scr, n_tup, n_str, n_abs, n_min2, n_max2, tg_nm, tg_2, tg_3, at_0, at_1, at_2, at_3, at_4, i_int, sat_some, getV_0, getV_s,     List.set_cons_zero, List.set_cons_succ, List.map_cons, List.map_nil, List.replicate_succ, List.replicate_zero, List.cons_append, List.nil_append, List.length_cons, List.length_nil, near_ok, sat_ok]
        exact ⟨trivial, trivial⟩
      · simp only [q_nil, q_cons, k_nx, k_ret, k_brk, k_ct, q_asg, q_asgA, q_asgS, q_aug, q_ex, q_ret, q_retN, q_pass, q_brk, q_cont, q_ifs, q_for, q_whl, b_t, b_f, be_t, be_f, ba_t, ba_f, bo_t, bo_f, t_bl, t_int, t_non,     q_var, q_con, q_glb, q_tup, q_lst, q_dict0, q_bin, q_neg, q_not, q_and, q_or, q_ife, q_cmp, q_cmp2, q_attr, q_sub, q_srev, q_call, q_callk, q_meth, q_bm, q_new, q_bi, q_isi, q_lc, q_dc, q_sortk, q_sortv, q_dict2, q_anil, q_acons, q_ival, q_items, q_vals, q_rng,     o_add, o_sub, o_mul, o_fdiv, o_mod, o_pow18, o_addT, ag_add, ag_sub, c_lt, c_gt, c_le, c_ge, c_eq, c_ne, c_is, c_isn, c_in, c_nin, u_tup, u_scr, n_scr, n_tup, n_str, n_abs, n_min2, n_max2, tg_nm, tg_2, tg_3, at_0, at_1, at_2, at_3, at_4, i_int, sat_some, getV_0, getV_s,     List.set_cons_zero, List.set_cons_succ, List.map_cons, List.map_nil, List.replicate_succ, List.replicate_zero, List.cons_append, List.nil_append, List.length_cons, List.length_nil]
        exact ⟨rfl, trivial⟩
    have eg : ((((rd.filter fun p => decide (p.1 ≤ day)).map rdP).filter fun x => match x with | .tup [.int d, _] => decide (circ d (day + (1 + (n : Int))) ≤ wide) | _ => false).map fun x => match x with | .tup [_, a] => a | _ => .non) = ((rd.filter (lfSel day wide n)).map (·.2)).map .int := by
      rw [List.filter_map, List.filter_filter, List.map_map, List.map_map]
      have : (rd.filter (lfSel day wide n)) = rd.filter fun a => (((fun x => match x with | Wv.tup [.int d, _] => decide (circ d (day + (1 + (n : Int))) ≤ wide) | _ => false) ∘ rdP) a && decide (a.1 ≤ day)) := by
        congr 1
        funext p
        unfold lfSel
        rw [Bool.and_comm]
        rfl
      rw [this]
      rfl
    rw [eg]
    simp only [tg_nm, sat_some, List.set_cons_zero, List.set_cons_succ]
    generalize hM5 : M4 ++ [Ob.lst (((rd.filter (lfSel day wide n)).map (·.2)).map .int)] = M5
    have hr5 : M5[M4.length]? = some (.lst (((rd.filter (lfSel day wide n)).map (·.2)).map .int)) := by rw [← hM5]; exact at_new ..
    have p5 : M4 <+: M5 := by rw [← hM5]; exact List.prefix_append _ _
    have hf5 : M5[f]? = some (.lst ((List.range n).map (lf rd day wide))) := pre_get (p2.trans (p4.trans p5)) hf
    have hl5 : f < M5.length := (List.getElem?_eq_some_iff.mp hf5).1
    rw [k_nx, q_cons, q_ex, q_bm]
    simp only [q_var, getV_0, getV_s, sat_some, q_acons]
    refine ⟨bmT_append hf5, ?_⟩
    refine sat_mono (mean_end S (k + 2) 8 M4.length ((rd.filter (lfSel day wide n)).map (·.2)) _ _ hr5 (fun a ha => ?_) ?_ rfl) fun v M' ⟨e1, e2⟩ => ?_
    · obtain ⟨p, hp, rfl⟩ := List.mem_map.mp ha
      exact h.pos p (List.mem_filter.mp hp).1
    · have := List.length_filter_le (lfSel day wide n) rd
      simp; omega
    · subst e1 e2
      simp only [q_nil, q_cons, k_nx, k_ret, k_brk, k_ct, q_asg, q_asgA, q_asgS, q_aug, q_ex, q_ret, q_retN, q_pass, q_brk, q_cont, q_ifs, q_for, q_whl, b_t, b_f, be_t, be_f, ba_t, ba_f, bo_t, bo_f, t_bl, t_int, t_non,     q_var, q_con, q_glb, q_tup, q_lst, q_dict0, q_bin, q_neg, q_not, q_and, q_or, q_ife, q_cmp, q_cmp2, q_attr, q_sub, q_srev, q_call, q_callk, q_meth, q_bm, q_new, q_bi, q_isi, q_lc, q_dc, q_sortk, q_sortv, q_dict2, q_anil, q_acons, q_ival, q_items, q_vals, q_rng,     o_add, o_sub, o_mul, o_fdiv, o_mod, o_pow18, o_addT, ag_add, ag_sub, c_lt, c_gt, c_le, c_ge, c_eq, c_ne, c_is, c_isn, c_in, c_nin, u_tup, u_scr, n_scr, n_tup, n_str, n_abs, n_min2, n_max2, tg_nm, tg_2, tg_3, at_0, at_1, at_2, at_3, at_4, i_int, sat_some, getV_0, getV_s,     List.set_cons_zero, List.set_cons_succ, List.map_cons, List.map_nil, List.replicate_succ, List.replicate_zero, List.cons_append, List.nil_append, List.length_cons, List.length_nil]
      have hf6 : (M5 ++ [Ob.lst []])[f]? = some (.lst ((List.range n).map (lf rd day wide))) := by rw [List.getElem?_append_left hl5]; exact hf5
      refine sat_of (bm_append hf6 (by simp; omega)) ?_
      refine ⟨n + 1, hn2, rfl, ⟨_, _, _, _, _, rfl⟩, ?_, ?_⟩
      · exact pre_set (pre_snoc (pm.trans (p2.trans (p4.trans p5))) _) (by omega)
      · rw [List.getElem?_set_self (by simp; omega), List.range_succ, List.map_append]
        rfl
  · rintro pre σ M' ⟨n, hn, hpost, ⟨a, b, c, d, e, rfl⟩, pm, hf⟩
    have hn2 : n = many := by
      by_cases z : n < many
      · rw [List.drop_eq_getElem_cons (by simpa using z)] at hpost; cases hpost
      · omega
    subst hn2
    exact ⟨rfl, a, b, c, d, e, rfl, pm, hf⟩
  · subst eq
    simp only [q_nil, q_cons, k_nx, k_ret, k_brk, k_ct, q_asg, q_asgA, q_asgS, q_aug, q_ex, q_ret, q_retN, q_pass, q_brk, q_cont, q_ifs, q_for, q_whl, b_t, b_f, be_t, be_f, ba_t, ba_f, bo_t, bo_f, t_bl, t_int, t_non,     q_var, q_con, q_glb, q_tup, q_lst, q_dict0, q_bin, q_neg, q_not, q_and, q_or, q_ife, q_cmp, q_cmp2, q_attr, q_sub, q_srev, q_call, q_callk, q_meth, q_bm, q_new, q_bi, q_isi, q_lc, q_dc, q_sortk, q_sortv, q_dict2, q_anil, q_acons, q_ival, q_items, q_vals, q_rng,     o_add, o_sub, o_mul, o_fdiv, o_mod, o_pow18, o_addT, ag_add, ag_sub, c_lt, c_gt, c_le, c_ge, c_eq, c_ne, c_is, c_isn, c_in, c_nin, u_tup, u_scr, n_scr, n_tup, n_str, n_abs, n_min2, n_max2, tg_nm, tg_2, tg_3, at_0, at_1, at_2, at_3, at_4, i_int, sat_some, getV_0, getV_s,     List.set_cons_zero, List.set_cons_succ, List.map_cons, List.map_nil, List.replicate_succ, List.replicate_zero, List.cons_append, List.nil_append, List.length_cons, List.length_nil]
    exact ⟨pL.trans p3, f, rfl, hl0, hf3⟩
end Bh
end
section
set_option Elab.async false
set_option linter.all false
set_option maxRecDepth 100000
set_option maxHeartbeats 0
namespace Bh
open PySem MP
/-! ### the driest days, of any readings -/
def look : List (Int × Int) → Int → Option Int
  | [], _ => none
  | p :: r, d => if p.1 = d then some p.2 else look r d
def winL (rd : List (Int × Int)) (m : Nat) (d : Int) : List Int := (List.range m).filterMap fun k : Nat => look rd (d + (k : Int))
def dryS (rd : List (Int × Int)) (m : Nat) (best : Wv) (d : Int) : Wv := if (winL rd m d).length = m ∧ (match best with | .tup [.int b, _] => decide ((winL rd m d).sum < b) | _ => true) = true then .tup [.int (winL rd m d).sum, .int d] else best
def dryF (rd : List (Int × Int)) (m : Nat) : Wv := (rd.map (·.1)).foldl (dryS rd m) .non
/-- what the best may be -/
def BestOk (b : Wv) : Prop := b = .non ∨ ∃ x y : Int, b = .tup [.int x, .int y]
theorem dryS_ok (rd : List (Int × Int)) (m : Nat) {b : Wv} (d : Int) (h : BestOk b) : BestOk (dryS rd m b d) := by
  unfold dryS
  generalize (match b with | .tup [.int b, _] => decide ((winL rd m d).sum < b) | _ => true) = z
  by_cases c : (winL rd m d).length = m ∧ z = true
  · rw [if_pos c]; exact .inr ⟨_, _, rfl⟩
  · rw [if_neg c]; exact h
theorem fold_ok (rd : List (Int × Int)) (m : Nat) {b : Wv} (ds : List Int) (h : BestOk b) : BestOk (ds.foldl (dryS rd m) b) := by
  induction ds generalizing b with
  | nil => exact h
  | cons d ds ih => exact ih (dryS_ok rd m d h)
theorem dryF_ok (rd : List (Int × Int)) (m : Nat) : BestOk (dryF rd m) := fold_ok rd m _ (.inl rfl)
theorem best_pur {b : Wv} (h : BestOk b) : pur 2 b = true := by
  rcases h with rfl | ⟨x, y, rfl⟩ <;> rfl
def rdD (rd : List (Int × Int)) : List (Wv × Wv) := rd.map fun p => (.int p.1, .int p.2)
theorem rdD_get (rd : List (Int × Int)) (d : Int) : dget (rdD rd) (.int d) = (look rd d).map .int := by
  unfold rdD
  induction rd with
  | nil => rfl
  | cons p r ih =>
    simp only [List.map_cons, dget, look]
    by_cases e : p.1 = d
    · rw [if_pos (by rw [e]), if_pos e]; rfl
    · rw [if_neg (fun z => e (Wv.int.inj z)), if_neg e]; exact ih
theorem keyOk_A {kvs : List (Wv × Wv)} {k : Wv} (h : keyA k = true) (hk : ∀ p ∈ kvs, keyA p.1 = true) : keyOk kvs k = true := by
  unfold keyOk
  rw [h, List.all_eq_true.mpr hk]
  simp
theorem rdD_key (rd : List (Int × Int)) (j : Int) : keyOk (rdD rd) (.int j) = true := keyOk_A rfl fun p hp => by
  unfold rdD at hp
  obtain ⟨i, hi, rfl⟩ := List.mem_map.mp hp
  rfl
theorem dputs_new {kvs ps : List (Wv × Wv)} (h : ((kvs ++ ps).map (·.1)).Nodup) : dputs kvs ps = kvs ++ ps := by
  induction ps generalizing kvs with
  | nil => simp [dputs]
  | cons p ps ih =>
    simp only [dputs]
    have hp : ∀ q ∈ kvs, q.1 ≠ p.1 := by
      intro q hq e
      rw [List.map_append, List.map_cons] at h
      exact (List.nodup_append.mp h).2.2 _ (List.mem_map.mpr ⟨q, hq, rfl⟩) _ (List.mem_cons_self ..) e
    rw [dput_new hp, ih (by simpa using h)]
    simp
theorem rdD_nodup {rd : List (Int × Int)} (h : Asc rd) : ((rdD rd).map (·.1)).Nodup := by
  unfold rdD
  rw [List.map_map, List.nodup_iff_pairwise_ne, List.pairwise_map]
  refine h.pw.imp fun {p q} h e => ?_
  simp only [Function.comp_def, Wv.int.injEq] at e
  omega
theorem rd_dict {S : List Int} {M : Mem} {l : Nat} {rd : List (Int × Int)} (h : Asc rd) (hM : M[l]? = some (.lst (rd.map rdP))) : biW (Gp S) .dict [.ref l] M = .ok (.ref M.length) (M ++ [.dct false (rdD rd)]) := by
  have hz : 1001 ≤ sizeLine := by decide
  have hl := h.len
  have hpairs : pairs (rd.map rdP) = some (rdD rd) := by
    unfold rdD
    exact mapO_map (fun i _ => rfl)
  have hkA : ((rdD rd).all fun p => keyA p.1) = true := by
    rw [List.all_eq_true]
    intro p hp
    unfold rdD at hp
    obtain ⟨i, hi, rfl⟩ := List.mem_map.mp hp
    rfl
  have hdl : (rdD rd).length = rd.length := by unfold rdD; simp
  have e0 : dputs [] (rdD rd) = rdD rd := dputs_new (kvs := []) (by simpa using rdD_nodup h)
  simp only [biW, lstOf, hM, Option.bind_some, hpairs, hkA, hdl, len_ok (show rd.length ≤ sizeLine by omega), Bool.and_self, Out.chk, e0]
theorem rd_sorted {S : List Int} {M : Mem} {l : Nat} {z : Bool} {rd : List (Int × Int)} (h : Asc rd) (hM : M[l]? = some (.dct z (rdD rd))) : biW (Gp S) .sorted [.ref l] M = .ok (.ref M.length) (M ++ [.lst (rd.map fun p => .int p.1)]) := by
  have hz : 1001 ≤ sizeLine := by decide
  have hl := h.len
  have e1 : (rdD rd).map (·.1) = rd.map fun p => .int p.1 := by unfold rdD; rw [List.map_map]; rfl
  have e2 : mapO (toD (Gp S).S M deepD) (rd.map fun p => Wv.int p.1) = some (rd.map fun p => PyData.int p.1) := mapO_map fun t ht => by simp only [toD]
  have e3 : sortBy (rd.map fun p => PyData.int p.1) (rd.map fun p => Wv.int p.1) = some (rd.map fun p => Wv.int p.1) :=
    sortBy_int (fun p : Int × Int => p.1) (List.Perm.refl _) h.pw (fun a _ b _ => W.dataLt_int _ _) (alikeAllB_map fun a _ b _ => by simp [W.alike]) sortableB_int (dcap_map fun a _ => by simp [PyData.depth])
  simp only [biW, itemsS, itemsOf, hM, e1, Option.bind_some, e2, e3, newL, List.length_map, len_ok (show rd.length ≤ sizeLine by omega), Out.chk]
theorem asc_filter {rd : List (Int × Int)} (h : Asc rd) (f : Int × Int → Bool) : Asc (rd.filter f) :=
  ⟨h.pw.filter _, Nat.le_trans (List.length_filter_le ..) h.len, fun p hp => h.pos p (List.mem_filter.mp hp).1⟩
theorem win_eq (rd : List (Int × Int)) (m : Nat) (d : Int) (p : Wv → Bool) (f : Wv → Wv) (g : Nat → Wv) (hp : ∀ k : Nat, p (g k) = (look rd (d + (k : Int))).isSome) (hf : ∀ k : Nat, ∀ a, look rd (d + (k : Int)) = some a → f (g k) = .int a) : (((List.range m).map g).filter p).map f = (winL rd m d).map .int := by
  unfold winL
  induction List.range m with
  | nil => rfl
  | cons k ks ih =>
    simp only [List.map_cons, List.filter_cons, hp k]
    cases e : look rd (d + (k : Int)) with
    | none =>
      rw [List.filterMap_cons_none (f := fun k : Nat => look rd (d + (k : Int))) e]
      simpa using ih
    | some a =>
      rw [List.filterMap_cons_some (f := fun k : Nat => look rd (d + (k : Int))) e]
      simp only [Option.isSome_some, if_true, List.map_cons, hf k a e]
      rw [ih]
theorem driest_ok (S : List Int) (k s m : Nat) {pl : Str} (hpl : Pl pl) (rd : List (Int × Int)) (day : Int) (M : Mem) (hW : WRd M s pl rd) (h : Asc rd) (hd : 0 ≤ day ∧ day ≤ 9999) (hm : 1 ≤ m ∧ m ≤ 99) (hr : ∀ p ∈ rd, 0 ≤ p.1 ∧ p.1 ≤ 9999) :
    (callN (Gp S) fuel (k + 4) ix_driest [.ref s, .str pl, .int day, .int m] M).sat fun v M' => M <+: M' ∧ v = dryF (rd.filter fun p => decide (p.1 ≤ day)) m := by
  have hz : 1001 ≤ sizeLine := by decide
  have hl := h.len
  obtain ⟨L, e1⟩ := look_name_ok S (k + 1) pl M hpl.nm
  rw [at_driest]
  refine run_sat rfl ?_
  show (evSl (Gp S) _ _ fuel sl_driest [some (.ref s), some (.str pl), some (.int day), some (.int m), none, none, none, none, none, none] M).sat _
  unfold sl_driest
  simp only [q_nil, q_cons, k_nx, k_ret, k_brk, k_ct, q_asg, q_asgA, q_asgS, q_aug, q_ex, q_ret, q_retN, q_pass, q_brk, q_cont, q_ifs, q_for, q_whl, b_t, b_f, be_t, be_f, ba_t, ba_f, bo_t, bo_f, t_bl, t_int, t_non,     q_var, q_con, q_glb, q_tup, q_lst, q_dict0, q_bin, q_neg, q_not, q_and, q_or, q_ife, q_cmp, q_cmp2, q_attr, q_sub, q_srev, q_call, q_callk, q_meth, q_bm, q_new, q_bi, q_isi, q_lc, q_dc, q_sortk, q_sortv, q_dict2, q_anil, q_acons, q_ival, q_items, q_vals, q_rng,     o_add, o_sub, o_mul, o_fdiv, o_mod, o_pow18, o_addT, ag_add, ag_sub, c_lt, c_gt, c_le, c_ge, c_eq, c_ne, c_is, c_isn, c_in, c_nin, u_tup, u_scr, n_scr, n_tup, n_str, n_abs, n_min2, n_max2, tg_nm, tg_2, tg_3, at_0, at_1, at_2, at_3, at_4, i_int, sat_some, getV_0, getV_s,     List.set_cons_zero, List.set_cons_succ, List.map_cons, List.map_nil, List.replicate_succ, List.replicate_zero, List.cons_append, List.nil_append, List.length_cons, List.length_nil, e1, sat_ok, look_day_ok S k day (M ++ L) hd.1 hd.2, look_whole_ok S (k + 1) m 1 99 (M ++ L) (by omega) (by omega)]
  have pL : M <+: M ++ L := List.prefix_append _ _
  generalize M ++ L = M0 at *
  refine sat_mono (readings_ok S k s hpl rd M0 (hW.mono pL) h) fun v M2 ⟨p2, y, hv, hy0, hy⟩ => ?_
  subst hv
  simp only [walk_lst hy, sat_some, lock_lst, unlk_lst]
  refine sat_of (lc_pure (fun x => match x with | .tup [.int d, _] => decide (d ≤ day) | _ => false) id (stays_lst hy) (by simp; omega) (fun x hx => ?_)) ?_
  · obtain ⟨p, hp, rfl⟩ := List.mem_map.mp hx
    refine ⟨[some (.ref s), some (.str pl), some (.int day), some (.int m), none, none, none, none, some (.int p.1), some (.int p.2)], rfl, ⟨.bl (decide (p.1 ≤ day)), sat_eq ?_, rfl⟩, fun _ => sat_eq ?_⟩
    · simp only [q_nil, q_cons, k_nx, k_ret, k_brk, k_ct, q_asg, q_asgA, q_asgS, q_aug, q_ex, q_ret, q_retN, q_pass, q_brk, q_cont, q_ifs, q_for, q_whl, b_t, b_f, be_t, be_f, ba_t, ba_f, bo_t, bo_f, t_bl, t_int, t_non,     q_var, q_con, q_glb, q_tup, q_lst, q_dict0, q_bin, q_neg, q_not, q_and, q_or, q_ife, q_cmp, q_cmp2, q_attr, q_sub, q_srev, q_call, q_callk, q_meth, q_bm, q_new, q_bi, q_isi, q_lc, q_dc, q_sortk, q_sortv, q_dict2, q_anil, q_acons, q_ival, q_items, q_vals, q_rng,     o_add, o_sub, o_mul, o_fdiv, o_mod, o_pow18, o_addT, ag_add, ag_sub, c_lt, c_gt, c_le, c_ge, c_eq, c_ne, c_is, c_isn, c_in, c_nin, u_tup, u_scr, n_scr, n_tup, n_str, n_abs, n_min2, n_max2, tg_nm, tg_2, tg_3, at_0, at_1, at_2, at_3, at_4, i_int, sat_some, getV_0, getV_s,     List.set_cons_zero, List.set_cons_succ, List.map_cons, List.map_nil, List.replicate_succ, List.replicate_zero, List.cons_append, List.nil_append, List.length_cons, List.length_nil]
      exact ⟨trivial, trivial⟩
    · simp only [q_nil, q_cons, k_nx, k_ret, k_brk, k_ct, q_asg, q_asgA, q_asgS, q_aug, q_ex, q_ret, q_retN, q_pass, q_brk, q_cont, q_ifs, q_for, q_whl, b_t, b_f, be_t, be_f, ba_t, ba_f, bo_t, bo_f, t_bl, t_int, t_non,     q_var, q_con, q_glb, q_tup, q_lst, q_dict0, q_bin, q_neg, q_not, q_and, q_or, q_ife, q_cmp, q_cmp2, q_attr, q_sub, q_srev, q_call, q_callk, q_meth, q_bm, q_new, q_bi, q_isi, q_lc, q_dc, q_sortk, q_sortv, q_dict2, q_anil, q_acons, q_ival, q_items, q_vals, q_rng,     o_add, o_sub, o_mul, o_fdiv, o_mod, o_pow18, o_addT, ag_add, ag_sub, c_lt, c_gt, c_le, c_ge, c_eq, c_ne, c_is, c_isn, c_in, c_nin, u_tup, u_scr, n_scr, n_tup, n_str, n_abs, n_min2, n_max2, tg_nm, tg_2, tg_3, at_0, at_1, at_2, at_3, at_4, i_int, sat_some, getV_0, getV_s,     List.set_cons_zero, List.set_cons_succ, List.map_cons, List.map_nil, List.replicate_succ, List.replicate_zero, List.cons_append, List.nil_append, List.length_cons, List.length_nil]
      exact ⟨len_ok (by decide), rfl, trivial⟩
  have ef : (((rd.map rdP).filter fun x => match x with | .tup [.int d, _] => decide (d ≤ day) | _ => false).map id) = (rd.filter fun p => decide (p.1 ≤ day)).map rdP := by
    rw [List.map_id, List.filter_map]
    rfl
  rw [ef]
  have hr' : ∀ p ∈ rd.filter (fun p => decide (p.1 ≤ day)), 0 ≤ p.1 ∧ p.1 ≤ 9999 := fun p hp => hr p (List.mem_filter.mp hp).1
  have h := asc_filter h (fun p => decide (p.1 ≤ day))
  generalize (rd.filter fun p => decide (p.1 ≤ day)) = rf at *
  clear hl
  have hl := h.len
  refine sat_of (rd_dict h (at_new ..)) ?_
  generalize hM3 : M2 ++ [Ob.lst (rf.map rdP)] = M3
  have p3 : M2 <+: M3 := by rw [← hM3]; exact List.prefix_append _ _
  generalize hM4 : M3 ++ [Ob.dct false (rdD rf)] = M4
  have p4 : M3 <+: M4 := by rw [← hM4]; exact List.prefix_append _ _
  have hd4 : M4[M3.length]? = some (.dct false (rdD rf)) := by rw [← hM4]; exact at_new ..
  generalize M3.length = r at *
  refine sat_of (rd_sorted h hd4) ?_
  generalize hM5 : M4 ++ [Ob.lst (rf.map fun p => .int p.1)] = M5
  have p5 : M4 <+: M5 := by rw [← hM5]; exact List.prefix_append _ _
  have hy5 : M5[M4.length]? = some (.lst (rf.map fun p => .int p.1)) := by rw [← hM5]; exact at_new ..
  have hd5 := pre_get p5 hd4
  generalize M4.length = yl at *
  simp only [walk_lst hy5, sat_some, lock_lst, unlk_lst]
  refine sat_mono (for_rule (Q := fun q M' => ∃ c d e f, q = (.nx, [some (.ref s), some (.str pl), some (.int day), some (.int m), some (.ref r), some (dryF rf m), c, d, e, f]) ∧ M5 <+: M')
    (fun pre post σ M' => ∃ pd qd : List (Int × Int), rf = pd ++ qd ∧ post = qd.map (fun p => Wv.int p.1) ∧ (∃ c d e f, σ = [some (.ref s), some (.str pl), some (.int day), some (.int m), some (.ref r), some ((pd.map (·.1)).foldl (dryS rf m) .non), c, d, e, f]) ∧ M5 <+: M') ?_ ?_ _ [] _ _ ⟨[], rf, rfl, rfl, ⟨_, _, _, _, rfl⟩, List.prefix_refl _⟩) fun q M6 ⟨c, d, e, f, eq, p6⟩ => ?_
  · rintro pre x post σ M' ⟨pd, qd, hpq, hpost, ⟨c, d, e, f, rfl⟩, pm⟩
    match qd, hpost with
    | p :: qd, hpost =>
    simp only [List.map_cons, List.cons.injEq] at hpost
    obtain ⟨rfl, rfl⟩ := hpost
    have hpm : p ∈ rf := by rw [hpq]; simp
    have hpr := hr' p hpm
    have hdM := pre_get pm hd5
    generalize hb : ((pd.map (·.1)).foldl (dryS rf m) Wv.non) = best
    have hbo : BestOk best := by rw [← hb]; exact fold_ok rf m _ (.inl rfl)
    refine ⟨stays_lst (pre_get pm hy5), [some (.ref s), some (.str pl), some (.int day), some (.int m), some (.ref r), some best, some (.int p.1), d, e, f], rfl, ?_⟩
    rw [q_cons, q_asg, q_lc, q_rng]
    simp only [q_var, q_bin, getV_0, getV_s, sat_some, o_add, i_int]
    refine ⟨by unfold rngOk; rw [decide_eq_true (by omega), decide_eq_true (by omega), decide_eq_true (by omega), decide_eq_true (by omega)]; rfl, ?_⟩
    rw [rng_eq p.1 _ m (by omega)]
    have hlk : ∀ N : Mem, lockM [] N = N := fun _ => rfl
    have hul : ∀ N : Mem, unlkM [] N = N := fun _ => rfl
    simp only [hlk, hul]
    refine sat_of (lc_pure (fun x => match x with | .int i => (look rf i).isSome | _ => false) (fun x => match x with | .int i => .int ((look rf i).getD 0) | _ => .non) rfl (by simp; omega) (fun x hx => ?_)) ?_
    · obtain ⟨i, hi, rfl⟩ := List.mem_map.mp hx
      refine ⟨[some (.ref s), some (.str pl), some (.int day), some (.int m), some (.ref r), some best, some (.int p.1), d, some (.int (p.1 + (i : Int))), f], rfl, ⟨.bl (look rf (p.1 + (i : Int))).isSome, sat_eq ?_, rfl⟩, fun hc => sat_eq ?_⟩
      · simp only [q_nil, q_cons, k_nx, k_ret, k_brk, k_ct, q_asg, q_asgA, q_asgS, q_aug, q_ex, q_ret, q_retN, q_pass, q_brk, q_cont, q_ifs, q_for, q_whl, b_t, b_f, be_t, be_f, ba_t, ba_f, bo_t, bo_f, t_bl, t_int, t_non,     q_var, q_con, q_glb, q_tup, q_lst, q_dict0, q_bin, q_neg, q_not, q_and, q_or, q_ife, q_cmp, q_cmp2, q_attr, q_sub, q_srev, q_call, q_callk, q_meth, q_bm, q_new, q_bi, q_isi, q_lc, q_dc, q_sortk, q_sortv, q_dict2, q_anil, q_acons, q_ival, q_items, q_vals, q_rng,     o_add, o_sub, o_mul, o_fdiv, o_mod, o_pow18, o_addT, ag_add, ag_sub, c_lt, c_gt, c_le, c_ge, c_eq, c_ne, c_is, c_isn, c_in, c_nin, u_tup, u_scr, n_scr, n_tup, n_str, n_abs, n_min2, n_max2, tg_nm, tg_2, tg_3, at_0, at_1, at_2, at_3, at_4, i_int, sat_some, getV_0, getV_s,     List.set_cons_zero, List.set_cons_succ, List.map_cons, List.map_nil, List.replicate_succ, List.replicate_zero, List.cons_append, List.nil_append, List.length_cons, List.length_nil]
        refine ⟨_, in_dct hdM (rdD_key _ _), ?_, trivial⟩
        rw [rdD_get]
        cases look rf (p.1 + (i : Int)) <;> rfl
      · have hc' : (look rf (p.1 + (i : Int))).isSome = true := hc
        obtain ⟨z, hz'⟩ := Option.isSome_iff_exists.mp hc'
        simp only [q_nil, q_cons, k_nx, k_ret, k_brk, k_ct, q_asg, q_asgA, q_asgS, q_aug, q_ex, q_ret, q_retN, q_pass, q_brk, q_cont, q_ifs, q_for, q_whl, b_t, b_f, be_t, be_f, ba_t, ba_f, bo_t, bo_f, t_bl, t_int, t_non,     q_var, q_con, q_glb, q_tup, q_lst, q_dict0, q_bin, q_neg, q_not, q_and, q_or, q_ife, q_cmp, q_cmp2, q_attr, q_sub, q_srev, q_call, q_callk, q_meth, q_bm, q_new, q_bi, q_isi, q_lc, q_dc, q_sortk, q_sortv, q_dict2, q_anil, q_acons, q_ival, q_items, q_vals, q_rng,     o_add, o_sub, o_mul, o_fdiv, o_mod, o_pow18, o_addT, ag_add, ag_sub, c_lt, c_gt, c_le, c_ge, c_eq, c_ne, c_is, c_isn, c_in, c_nin, u_tup, u_scr, n_scr, n_tup, n_str, n_abs, n_min2, n_max2, tg_nm, tg_2, tg_3, at_0, at_1, at_2, at_3, at_4, i_int, sat_some, getV_0, getV_s,     List.set_cons_zero, List.set_cons_succ, List.map_cons, List.map_nil, List.replicate_succ, List.replicate_zero, List.cons_append, List.nil_append, List.length_cons, List.length_nil]
        refine sat_of (sub_dct hdM (rdD_key _ _) (by rw [rdD_get, hz']; rfl)) ⟨?_, rfl⟩
        show Wv.int z = Wv.int ((look rf (p.1 + (i : Int))).getD 0)
        rw [hz']; rfl
    rw [win_eq rf m p.1 _ _ _ (fun k => rfl) (fun k a ha => by show Wv.int ((look rf (p.1 + (k : Int))).getD 0) = _; rw [ha]; rfl)]
    simp only [tg_nm, sat_some, List.set_cons_zero, List.set_cons_succ]
    generalize hM7 : M' ++ [Ob.lst ((winL rf m p.1).map .int)] = M7
    have hr7 : M7[M'.length]? = some (.lst ((winL rf m p.1).map .int)) := by rw [← hM7]; exact at_new ..
    have p7 : M' <+: M7 := by rw [← hM7]; exact List.prefix_append _ _
    have hsum : biW (Gp S) .sum [.ref M'.length] M7 = .ok (.int (winL rf m p.1).sum) M7 := n_sum (Gp S) _ _ hr7
    have hlen : biW (Gp S) .len [.ref M'.length] M7 = .ok (.int (winL rf m p.1).length) M7 := by
      have := n_lenL (Gp S) M'.length _ hr7
      rw [List.length_map] at this
      exact this
    simp only [q_nil, q_cons, k_nx, k_ret, k_brk, k_ct, q_asg, q_asgA, q_asgS, q_aug, q_ex, q_ret, q_retN, q_pass, q_brk, q_cont, q_ifs, q_for, q_whl, b_t, b_f, be_t, be_f, ba_t, ba_f, bo_t, bo_f, t_bl, t_int, t_non,     q_var, q_con, q_glb, q_tup, q_lst, q_dict0, q_bin, q_neg, q_not, q_and, q_or, q_ife, q_cmp, q_cmp2, q_attr, q_sub, q_srev, q_call, q_callk, q_meth, q_bm, q_new, q_bi, q_isi, q_lc, q_dc, q_sortk, q_sortv, q_dict2, q_anil, q_acons, q_ival, q_items, q_vals, q_rng,     o_add, o_sub, o_mul, o_fdiv, o_mod, o_pow18, o_addT, ag_add, ag_sub, c_lt, c_gt, c_le, c_ge, c_eq, c_ne, c_is, c_isn, c_in, c_nin, u_tup, u_scr, n_scr, n_tup, n_str, n_abs, n_min2, n_max2, tg_nm, tg_2, tg_3, at_0, at_1, at_2, at_3, at_4, i_int, sat_some, getV_0, getV_s,     List.set_cons_zero, List.set_cons_succ, List.map_cons, List.map_nil, List.replicate_succ, List.replicate_zero, List.cons_append, List.nil_append, List.length_cons, List.length_nil, hsum, hlen, sat_ok]
    refine ⟨_, eqW_int _ _, ?_⟩
    have hrf : rf = (pd ++ [p]) ++ qd := by rw [hpq]; simp
    have fin : ∀ (b : Wv), b = dryS rf m best p.1 → ∃ pd_1 qd_1 : List (Int × Int), rf = pd_1 ++ qd_1 ∧ qd.map (fun p => Wv.int p.1) = qd_1.map (fun p => Wv.int p.1) ∧ (∃ c' d' e' f', [some (.ref s), some (.str pl), some (.int day), some (.int m), some (.ref r), some b, some (.int p.1), some (.ref M'.length), e, f] = [some (.ref s), some (.str pl), some (.int day), some (.int m), some (.ref r), some ((pd_1.map (·.1)).foldl (dryS rf m) .non), c', d', e', f']) ∧ M5 <+: M7 := fun b hb' => by
      refine ⟨pd ++ [p], qd, hrf, rfl, ⟨some (.int p.1), some (.ref M'.length), e, f, ?_⟩, pm.trans p7⟩
      rw [List.map_append, List.foldl_append, hb, hb']
      rfl
    by_cases c1 : (winL rf m p.1).length = m
    · rw [decide_eq_true (show (((winL rf m p.1).length : Nat) : Int) = (m : Int) by rw [c1])]
      simp only [q_nil, q_cons, k_nx, k_ret, k_brk, k_ct, q_asg, q_asgA, q_asgS, q_aug, q_ex, q_ret, q_retN, q_pass, q_brk, q_cont, q_ifs, q_for, q_whl, b_t, b_f, be_t, be_f, ba_t, ba_f, bo_t, bo_f, t_bl, t_int, t_non,     q_var, q_con, q_glb, q_tup, q_lst, q_dict0, q_bin, q_neg, q_not, q_and, q_or, q_ife, q_cmp, q_cmp2, q_attr, q_sub, q_srev, q_call, q_callk, q_meth, q_bm, q_new, q_bi, q_isi, q_lc, q_dc, q_sortk, q_sortv, q_dict2, q_anil, q_acons, q_ival, q_items, q_vals, q_rng,     o_add, o_sub, o_mul, o_fdiv, o_mod, o_pow18, o_addT, ag_add, ag_sub, c_lt, c_gt, c_le, c_ge, c_eq, c_ne, c_is, c_isn, c_in, c_nin, u_tup, u_scr, n_scr, n_tup, n_str, n_abs, n_min2, n_max2, tg_nm, tg_2, tg_3, at_0, at_1, at_2, at_3, at_4, i_int, sat_some, getV_0, getV_s,     List.set_cons_zero, List.set_cons_succ, List.map_cons, List.map_nil, List.replicate_succ, List.replicate_zero, List.cons_append, List.nil_append, List.length_cons, List.length_nil]
      rcases hbo with rfl | ⟨x, y, rfl⟩
      · refine ⟨true, rfl, ?_⟩
        simp only [q_nil, q_cons, k_nx, k_ret, k_brk, k_ct, q_asg, q_asgA, q_asgS, q_aug, q_ex, q_ret, q_retN, q_pass, q_brk, q_cont, q_ifs, q_for, q_whl, b_t, b_f, be_t, be_f, ba_t, ba_f, bo_t, bo_f, t_bl, t_int, t_non,     q_var, q_con, q_glb, q_tup, q_lst, q_dict0, q_bin, q_neg, q_not, q_and, q_or, q_ife, q_cmp, q_cmp2, q_attr, q_sub, q_srev, q_call, q_callk, q_meth, q_bm, q_new, q_bi, q_isi, q_lc, q_dc, q_sortk, q_sortv, q_dict2, q_anil, q_acons, q_ival, q_items, q_vals, q_rng,     o_add, o_sub, o_mul, o_fdiv, o_mod, o_pow18, o_addT, ag_add, ag_sub, c_lt, c_gt, c_le, c_ge, c_eq, c_ne, c_is, c_isn, c_in, c_nin, u_tup, u_scr, n_scr, n_tup, n_str, n_abs, n_min2, n_max2, tg_nm, tg_2, tg_3, at_0, at_1, at_2, at_3, at_4, i_int, sat_some, getV_0, getV_s,     List.set_cons_zero, List.set_cons_succ, List.map_cons, List.map_nil, List.replicate_succ, List.replicate_zero, List.cons_append, List.nil_append, List.length_cons, List.length_nil, hsum, sat_ok]
        refine ⟨len_ok (by decide), fin _ ?_⟩
        unfold dryS
        rw [if_pos ⟨c1, rfl⟩]
      · refine ⟨false, rfl, ?_⟩
        simp only [q_nil, q_cons, k_nx, k_ret, k_brk, k_ct, q_asg, q_asgA, q_asgS, q_aug, q_ex, q_ret, q_retN, q_pass, q_brk, q_cont, q_ifs, q_for, q_whl, b_t, b_f, be_t, be_f, ba_t, ba_f, bo_t, bo_f, t_bl, t_int, t_non,     q_var, q_con, q_glb, q_tup, q_lst, q_dict0, q_bin, q_neg, q_not, q_and, q_or, q_ife, q_cmp, q_cmp2, q_attr, q_sub, q_srev, q_call, q_callk, q_meth, q_bm, q_new, q_bi, q_isi, q_lc, q_dc, q_sortk, q_sortv, q_dict2, q_anil, q_acons, q_ival, q_items, q_vals, q_rng,     o_add, o_sub, o_mul, o_fdiv, o_mod, o_pow18, o_addT, ag_add, ag_sub, c_lt, c_gt, c_le, c_ge, c_eq, c_ne, c_is, c_isn, c_in, c_nin, u_tup, u_scr, n_scr, n_tup, n_str, n_abs, n_min2, n_max2, tg_nm, tg_2, tg_3, at_0, at_1, at_2, at_3, at_4, i_int, sat_some, getV_0, getV_s,     List.set_cons_zero, List.set_cons_succ, List.map_cons, List.map_nil, List.replicate_succ, List.replicate_zero, List.cons_append, List.nil_append, List.length_cons, List.length_nil, hsum, sat_ok]
        by_cases c2 : (winL rf m p.1).sum < x
        · rw [decide_eq_true c2]
          simp only [q_nil, q_cons, k_nx, k_ret, k_brk, k_ct, q_asg, q_asgA, q_asgS, q_aug, q_ex, q_ret, q_retN, q_pass, q_brk, q_cont, q_ifs, q_for, q_whl, b_t, b_f, be_t, be_f, ba_t, ba_f, bo_t, bo_f, t_bl, t_int, t_non,     q_var, q_con, q_glb, q_tup, q_lst, q_dict0, q_bin, q_neg, q_not, q_and, q_or, q_ife, q_cmp, q_cmp2, q_attr, q_sub, q_srev, q_call, q_callk, q_meth, q_bm, q_new, q_bi, q_isi, q_lc, q_dc, q_sortk, q_sortv, q_dict2, q_anil, q_acons, q_ival, q_items, q_vals, q_rng,     o_add, o_sub, o_mul, o_fdiv, o_mod, o_pow18, o_addT, ag_add, ag_sub, c_lt, c_gt, c_le, c_ge, c_eq, c_ne, c_is, c_isn, c_in, c_nin, u_tup, u_scr, n_scr, n_tup, n_str, n_abs, n_min2, n_max2, tg_nm, tg_2, tg_3, at_0, at_1, at_2, at_3, at_4, i_int, sat_some, getV_0, getV_s,     List.set_cons_zero, List.set_cons_succ, List.map_cons, List.map_nil, List.replicate_succ, List.replicate_zero, List.cons_append, List.nil_append, List.length_cons, List.length_nil, hsum, sat_ok]
          refine ⟨len_ok (by decide), fin _ ?_⟩
          unfold dryS
          rw [if_pos ⟨c1, decide_eq_true c2⟩]
        · rw [decide_eq_false c2]
          simp only [q_nil, q_cons, k_nx, k_ret, k_brk, k_ct, q_asg, q_asgA, q_asgS, q_aug, q_ex, q_ret, q_retN, q_pass, q_brk, q_cont, q_ifs, q_for, q_whl, b_t, b_f, be_t, be_f, ba_t, ba_f, bo_t, bo_f, t_bl, t_int, t_non,     q_var, q_con, q_glb, q_tup, q_lst, q_dict0, q_bin, q_neg, q_not, q_and, q_or, q_ife, q_cmp, q_cmp2, q_attr, q_sub, q_srev, q_call, q_callk, q_meth, q_bm, q_new, q_bi, q_isi, q_lc, q_dc, q_sortk, q_sortv, q_dict2, q_anil, q_acons, q_ival, q_items, q_vals, q_rng,     o_add, o_sub, o_mul, o_fdiv, o_mod, o_pow18, o_addT, ag_add, ag_sub, c_lt, c_gt, c_le, c_ge, c_eq, c_ne, c_is, c_isn, c_in, c_nin, u_tup, u_scr, n_scr, n_tup, n_str, n_abs, n_min2, n_max2, tg_nm, tg_2, tg_3, at_0, at_1, at_2, at_3, at_4, i_int, sat_some, getV_0, getV_s,     List.set_cons_zero, List.set_cons_succ, List.map_cons, List.map_nil, List.replicate_succ, List.replicate_zero, List.cons_append, List.nil_append, List.length_cons, List.length_nil]
          refine fin _ ?_
          unfold dryS
          rw [if_neg fun z => c2 (of_decide_eq_true z.2)]
    · rw [decide_eq_false (show ¬ (((winL rf m p.1).length : Nat) : Int) = (m : Int) by omega)]
      simp only [q_nil, q_cons, k_nx, k_ret, k_brk, k_ct, q_asg, q_asgA, q_asgS, q_aug, q_ex, q_ret, q_retN, q_pass, q_brk, q_cont, q_ifs, q_for, q_whl, b_t, b_f, be_t, be_f, ba_t, ba_f, bo_t, bo_f, t_bl, t_int, t_non,     q_var, q_con, q_glb, q_tup, q_lst, q_dict0, q_bin, q_neg, q_not, q_and, q_or, q_ife, q_cmp, q_cmp2, q_attr, q_sub, q_srev, q_call, q_callk, q_meth, q_bm, q_new, q_bi, q_isi, q_lc, q_dc, q_sortk, q_sortv, q_dict2, q_anil, q_acons, q_ival, q_items, q_vals, q_rng,     o_add, o_sub, o_mul, o_fdiv, o_mod, o_pow18, o_addT, ag_add, ag_sub, c_lt, c_gt, c_le, c_ge, c_eq, c_ne, c_is, c_isn, c_in, c_nin, u_tup, u_scr, n_scr, n_tup, n_str, n_abs, n_min2, n_max2, tg_nm, tg_2, tg_3, at_0, at_1, at_2, at_3, at_4, i_int, sat_some, getV_0, getV_s,     List.set_cons_zero, List.set_cons_succ, List.map_cons, List.map_nil, List.replicate_succ, List.replicate_zero, List.cons_append, List.nil_append, List.length_cons, List.length_nil]
      refine fin _ ?_
      unfold dryS
      rw [if_neg fun z => c1 z.1]
  · rintro pre σ M' ⟨pd, qd, hpq, hpost, ⟨c, d, e, f, rfl⟩, pm⟩
    have : qd = [] := by
      cases qd with
      | nil => rfl
      | cons _ _ => cases hpost
    subst this
    rw [List.append_nil] at hpq
    subst hpq
    exact ⟨stays_lst (pre_get pm hy5), c, d, e, f, rfl, pm⟩
  · subst eq
    simp only [q_nil, q_cons, k_nx, k_ret, k_brk, k_ct, q_asg, q_asgA, q_asgS, q_aug, q_ex, q_ret, q_retN, q_pass, q_brk, q_cont, q_ifs, q_for, q_whl, b_t, b_f, be_t, be_f, ba_t, ba_f, bo_t, bo_f, t_bl, t_int, t_non,     q_var, q_con, q_glb, q_tup, q_lst, q_dict0, q_bin, q_neg, q_not, q_and, q_or, q_ife, q_cmp, q_cmp2, q_attr, q_sub, q_srev, q_call, q_callk, q_meth, q_bm, q_new, q_bi, q_isi, q_lc, q_dc, q_sortk, q_sortv, q_dict2, q_anil, q_acons, q_ival, q_items, q_vals, q_rng,     o_add, o_sub, o_mul, o_fdiv, o_mod, o_pow18, o_addT, ag_add, ag_sub, c_lt, c_gt, c_le, c_ge, c_eq, c_ne, c_is, c_isn, c_in, c_nin, u_tup, u_scr, n_scr, n_tup, n_str, n_abs, n_min2, n_max2, tg_nm, tg_2, tg_3, at_0, at_1, at_2, at_3, at_4, i_int, sat_some, getV_0, getV_s,     List.set_cons_zero, List.set_cons_succ, List.map_cons, List.map_nil, List.replicate_succ, List.replicate_zero, List.cons_append, List.nil_append, List.length_cons, List.length_nil]
    exact ⟨pL.trans (p2.trans (p3.trans (p4.trans (p5.trans p6)))), trivial⟩
end Bh
end
section
set_option Elab.async false
set_option linter.all false
set_option maxRecDepth 100000
set_option maxHeartbeats 0
namespace Bh
open PySem MP
/-! ### the law's own mean -/
theorem law_apart_ok (S : List Int) (k : Nat) (a b : Int) (M : Mem) : callN (Gp S) fuel (k + 1) ix__law_apart [.int a, .int b] M = .ok (.int (circ a b)) M := by
  refine sat_eq ?_
  rw [at__law_apart]
  refine run_sat rfl ?_
  show (evSl (Gp S) _ _ fuel sl__law_apart [some (.int a), some (.int b), none] M).sat _
  unfold sl__law_apart
  simp only [q_nil, q_cons, k_nx, k_ret, k_brk, k_ct, q_asg, q_asgA, q_asgS, q_aug, q_ex, q_ret, q_retN, q_pass, q_brk, q_cont, q_ifs, q_for, q_whl, b_t, b_f, be_t, be_f, ba_t, ba_f, bo_t, bo_f, t_bl, t_int, t_non,     q_var, q_con, q_glb, q_tup, q_lst, q_dict0, q_bin, q_neg, q_not, q_and, q_or, q_ife, q_cmp, q_cmp2, q_attr, q_sub, q_srev, q_call, q_callk, q_meth, q_bm, q_new, q_bi, q_isi, q_lc, q_dc, q_sortk, q_sortv, q_dict2, q_anil, q_acons, q_ival, q_items, q_vals, q_rng,     o_add, o_sub, o_mul, o_fdiv, o_mod, o_pow18, o_addT, ag_add, ag_sub, c_lt, c_gt, c_le, c_ge, c_eq, c_ne, c_is, c_isn, c_in, c_nin, u_tup, u_scr, n_scr, n_tup, n_str, n_abs, n_min2, n_max2, tg_nm, tg_2, tg_3, at_0, at_1, at_2, at_3, at_4, i_int, sat_some, getV_0, getV_s,     List.set_cons_zero, List.set_cons_succ, List.map_cons, List.map_nil, List.replicate_succ, List.replicate_zero, List.cons_append, List.nil_append, List.length_cons, List.length_nil]
  exact ⟨by decide, by decide, rfl, trivial⟩
theorem low_uniq {t b s l : Nat} (hb : 0 < b) (hl : 0 < l) (hc : Nat.gcd t b = 1) (he : t * l = s * b) : t = s / Nat.gcd s l ∧ b = l / Nat.gcd s l := by
  have hg : 0 < Nat.gcd s l := Nat.gcd_pos_of_pos_right s hl
  obtain ⟨s', hs⟩ := Nat.gcd_dvd_left s l
  obtain ⟨l', hl'⟩ := Nat.gcd_dvd_right s l
  have hco : Nat.gcd s' l' = 1 := by
    have h1 : Nat.gcd (Nat.gcd s l * s') (Nat.gcd s l * l') = Nat.gcd s l * Nat.gcd s' l' := Nat.gcd_mul_left ..
    rw [← hs, ← hl'] at h1
    have h2 : Nat.gcd s l * 1 = Nat.gcd s l * Nat.gcd s' l' := by rw [Nat.mul_one]; exact h1
    exact (Nat.eq_of_mul_eq_mul_left hg h2).symm
  generalize Nat.gcd s l = G at *
  have h1 : t * l' = s' * b := by
    have : G * (t * l') = G * (s' * b) := by
      calc G * (t * l') = t * (G * l') := by rw [Nat.mul_left_comm]
        _ = t * l := by rw [← hl']
        _ = s * b := he
        _ = G * s' * b := by rw [← hs]
        _ = G * (s' * b) := by rw [Nat.mul_assoc]
    exact Nat.eq_of_mul_eq_mul_left hg this
  have d1 : b ∣ l' := by
    have : b ∣ t * l' := ⟨s', by rw [h1, Nat.mul_comm]⟩
    exact Nat.Coprime.dvd_of_dvd_mul_left (show Nat.Coprime b t by unfold Nat.Coprime; rw [Nat.gcd_comm]; exact hc) this
  have d2 : l' ∣ b := by
    have : l' ∣ s' * b := ⟨t, by rw [← h1, Nat.mul_comm]⟩
    exact Nat.Coprime.dvd_of_dvd_mul_left (show Nat.Coprime l' s' by unfold Nat.Coprime; rw [Nat.gcd_comm]; exact hco) this
  have e := Nat.dvd_antisymm d1 d2
  subst e
  have e2 := Nat.eq_of_mul_eq_mul_right hb h1
  subst e2
  refine ⟨?_, ?_⟩
  · rw [hs, Nat.mul_div_cancel_left _ hg]
  · rw [hl', Nat.mul_div_cancel_left _ hg]
theorem mean_nat {as : List Int} {s l t b : Nat} (h0 : as ≠ []) (hs : as.sum = (s : Int)) (hll : as.length = l) (hb : 0 < b) (hl : 0 < l) (hc : Nat.gcd t b = 1) (he : t * l = s * b) : Wv.tup [.int (t : Int), .int (b : Int)] = meanOf as := by
  obtain ⟨e1, e2⟩ := low_uniq hb hl hc he
  unfold meanOf
  rw [if_neg h0, hs, hll]
  have : (Int.gcd (s : Int) (l : Int) : Int) = ((Nat.gcd s l : Nat) : Int) := rfl
  rw [this, ← Int.natCast_ediv, ← Int.natCast_ediv, ← e1, ← e2]
theorem law_mean_ok (S : List Int) (k l : Nat) (as : List Int) (M : Mem) (hM : M[l]? = some (.lst (as.map .int))) (hp : ∀ a ∈ as, 0 ≤ a) (hl : as.length ≤ 300) :
    (callN (Gp S) fuel (k + 1) ix__law_mean [.ref l] M).sat fun v M' => M <+: M' ∧ v = meanOf as := by
  rw [at__law_mean]
  refine run_sat rfl ?_
  show (evSl (Gp S) _ _ fuel sl__law_mean [some (.ref l), none, none, none] M).sat _
  unfold sl__law_mean
  simp only [q_nil, q_cons, k_nx, k_ret, k_brk, k_ct, q_asg, q_asgA, q_asgS, q_aug, q_ex, q_ret, q_retN, q_pass, q_brk, q_cont, q_ifs, q_for, q_whl, b_t, b_f, be_t, be_f, ba_t, ba_f, bo_t, bo_f, t_bl, t_int, t_non,     q_var, q_con, q_glb, q_tup, q_lst, q_dict0, q_bin, q_neg, q_not, q_and, q_or, q_ife, q_cmp, q_cmp2, q_attr, q_sub, q_srev, q_call, q_callk, q_meth, q_bm, q_new, q_bi, q_isi, q_lc, q_dc, q_sortk, q_sortv, q_dict2, q_anil, q_acons, q_ival, q_items, q_vals, q_rng,     o_add, o_sub, o_mul, o_fdiv, o_mod, o_pow18, o_addT, ag_add, ag_sub, c_lt, c_gt, c_le, c_ge, c_eq, c_ne, c_is, c_isn, c_in, c_nin, u_tup, u_scr, n_scr, n_tup, n_str, n_abs, n_min2, n_max2, tg_nm, tg_2, tg_3, at_0, at_1, at_2, at_3, at_4, i_int, sat_some, getV_0, getV_s,     List.set_cons_zero, List.set_cons_succ, List.map_cons, List.map_nil, List.replicate_succ, List.replicate_zero, List.cons_append, List.nil_append, List.length_cons, List.length_nil]
  generalize hM1 : M ++ [Ob.lst []] = M1
  have p1 : M <+: M1 := by rw [← hM1]; exact List.prefix_append _ _
  have h1 := pre_get p1 hM
  refine ⟨len_ok (by decide), _, eqW_nil (toD_lst (n := 11) h1 (toDs_map (g := fun a => .int a) fun x _ => by simp only [toD])) (by rw [← hM1]; exact at_new ..) (shaped_lst (d := 0) (by omega) fun x _ => ⟨rfl, Nat.le_refl _⟩), ?_⟩
  cases as with
  | nil =>
    simp only [q_nil, q_cons, k_nx, k_ret, k_brk, k_ct, q_asg, q_asgA, q_asgS, q_aug, q_ex, q_ret, q_retN, q_pass, q_brk, q_cont, q_ifs, q_for, q_whl, b_t, b_f, be_t, be_f, ba_t, ba_f, bo_t, bo_f, t_bl, t_int, t_non,     q_var, q_con, q_glb, q_tup, q_lst, q_dict0, q_bin, q_neg, q_not, q_and, q_or, q_ife, q_cmp, q_cmp2, q_attr, q_sub, q_srev, q_call, q_callk, q_meth, q_bm, q_new, q_bi, q_isi, q_lc, q_dc, q_sortk, q_sortv, q_dict2, q_anil, q_acons, q_ival, q_items, q_vals, q_rng,     o_add, o_sub, o_mul, o_fdiv, o_mod, o_pow18, o_addT, ag_add, ag_sub, c_lt, c_gt, c_le, c_ge, c_eq, c_ne, c_is, c_isn, c_in, c_nin, u_tup, u_scr, n_scr, n_tup, n_str, n_abs, n_min2, n_max2, tg_nm, tg_2, tg_3, at_0, at_1, at_2, at_3, at_4, i_int, sat_some, getV_0, getV_s,     List.set_cons_zero, List.set_cons_succ, List.map_cons, List.map_nil, List.replicate_succ, List.replicate_zero, List.cons_append, List.nil_append, List.length_cons, List.length_nil, List.isEmpty_nil]
    exact ⟨p1, rfl⟩
  | cons a as =>
    have h0 : a :: as ≠ [] := by simp
    have hlp : 0 < (a :: as).length := by simp
    generalize a :: as = bs at *
    have ee : (List.map PyData.int bs).isEmpty = false := by
      cases bs with
      | nil => exact absurd rfl h0
      | cons _ _ => rfl
    rw [ee]
    obtain ⟨s, hs⟩ := Int.eq_ofNat_of_zero_le (sum_nonneg hp)
    generalize hbl : bs.length = n at *
    simp only [q_nil, q_cons, k_nx, k_ret, k_brk, k_ct, q_asg, q_asgA, q_asgS, q_aug, q_ex, q_ret, q_retN, q_pass, q_brk, q_cont, q_ifs, q_for, q_whl, b_t, b_f, be_t, be_f, ba_t, ba_f, bo_t, bo_f, t_bl, t_int, t_non,     q_var, q_con, q_glb, q_tup, q_lst, q_dict0, q_bin, q_neg, q_not, q_and, q_or, q_ife, q_cmp, q_cmp2, q_attr, q_sub, q_srev, q_call, q_callk, q_meth, q_bm, q_new, q_bi, q_isi, q_lc, q_dc, q_sortk, q_sortv, q_dict2, q_anil, q_acons, q_ival, q_items, q_vals, q_rng,     o_add, o_sub, o_mul, o_fdiv, o_mod, o_pow18, o_addT, ag_add, ag_sub, c_lt, c_gt, c_le, c_ge, c_eq, c_ne, c_is, c_isn, c_in, c_nin, u_tup, u_scr, n_scr, n_tup, n_str, n_abs, n_min2, n_max2, tg_nm, tg_2, tg_3, at_0, at_1, at_2, at_3, at_4, i_int, sat_some, getV_0, getV_s,     List.set_cons_zero, List.set_cons_succ, List.map_cons, List.map_nil, List.replicate_succ, List.replicate_zero, List.cons_append, List.nil_append, List.length_cons, List.length_nil]
    refine sat_of (n_sum (Gp S) l bs h1) ?_
    refine sat_of (n_lenL (Gp S) l (bs.map .int) h1) ?_
    rw [List.length_map, hbl, hs]
    refine ⟨len_ok (by decide), ?_⟩
    try simp only [q_nil, q_cons, k_nx, k_ret, k_brk, k_ct, q_asg, q_asgA, q_asgS, q_aug, q_ex, q_ret, q_retN, q_pass, q_brk, q_cont, q_ifs, q_for, q_whl, b_t, b_f, be_t, be_f, ba_t, ba_f, bo_t, bo_f, t_bl, t_int, t_non,     q_var, q_con, q_glb, q_tup, q_lst, q_dict0, q_bin, q_neg, q_not, q_and, q_or, q_ife, q_cmp, q_cmp2, q_attr, q_sub, q_srev, q_call, q_callk, q_meth, q_bm, q_new, q_bi, q_isi, q_lc, q_dc, q_sortk, q_sortv, q_dict2, q_anil, q_acons, q_ival, q_items, q_vals, q_rng,     o_add, o_sub, o_mul, o_fdiv, o_mod, o_pow18, o_addT, ag_add, ag_sub, c_lt, c_gt, c_le, c_ge, c_eq, c_ne, c_is, c_isn, c_in, c_nin, u_tup, u_scr, n_scr, n_tup, n_str, n_abs, n_min2, n_max2, tg_nm, tg_2, tg_3, at_0, at_1, at_2, at_3, at_4, i_int, sat_some, getV_0, getV_s,     List.set_cons_zero, List.set_cons_succ, List.map_cons, List.map_nil, List.replicate_succ, List.replicate_zero, List.cons_append, List.nil_append, List.length_cons, List.length_nil]
    refine ⟨by unfold rngOk; rw [decide_eq_true (by omega), decide_eq_true (by omega), decide_eq_true (by omega), decide_eq_true (by omega)]; rfl, ?_⟩
    rw [rng_eq 2 _ (n - 1) (by omega)]
    have hlk : ∀ N : Mem, lockM [] N = N := fun _ => rfl
    have hul : ∀ N : Mem, unlkM [] N = N := fun _ => rfl
    simp only [hlk, hul]
    refine sat_mono (for_rule (Q := fun q M' => ∃ (t b : Nat) (c : Option Wv), q = (.nx, [some (.ref l), some (.int (t : Int)), some (.int (b : Int)), c]) ∧ M' = M1 ∧ 0 < b ∧ b ≤ n ∧ t * n = s * b ∧ ∀ d : Nat, 2 ≤ d → d < 2 + (n - 1) → ¬ (d ∣ t ∧ d ∣ b))
      (fun pre post σ M' => ∃ (j : Nat) (t b : Nat) (c : Option Wv), j ≤ n - 1 ∧ post = ((List.range (n - 1)).drop j).map (fun k : Nat => Wv.int (2 + (k : Int))) ∧ σ = [some (.ref l), some (.int (t : Int)), some (.int (b : Int)), c] ∧ M' = M1 ∧ 0 < b ∧ b ≤ n ∧ t * n = s * b ∧ ∀ d : Nat, 2 ≤ d → d < 2 + j → ¬ (d ∣ t ∧ d ∣ b)) ?_ ?_ _ [] _ _ ⟨0, s, n, none, by omega, rfl, rfl, rfl, hlp, Nat.le_refl _, rfl, fun d h1 h2 => by omega⟩) fun q M2 ⟨t, b, c, eq, eM, hb, hbn, he, hd⟩ => ?_
    · rintro pre x post σ M' ⟨j, t, b, c, hj, hpost, rfl, rfl, hb, hbn, he, hd⟩
      have hj2 : j < n - 1 := by
        by_cases z : j < n - 1
        · exact z
        · rw [List.drop_eq_nil_of_le (by simp; omega)] at hpost; cases hpost
      rw [List.drop_eq_getElem_cons (by simpa using hj2)] at hpost
      simp only [List.getElem_range, List.map_cons, List.cons.injEq] at hpost
      obtain ⟨rfl, rfl⟩ := hpost
      refine ⟨rfl, [some (.ref l), some (.int (t : Int)), some (.int (b : Int)), some (.int (2 + (j : Int)))], rfl, ?_⟩
      simp only [q_nil, q_cons, k_nx, k_ret, k_brk, k_ct, q_asg, q_asgA, q_asgS, q_aug, q_ex, q_ret, q_retN, q_pass, q_brk, q_cont, q_ifs, q_for, q_whl, b_t, b_f, be_t, be_f, ba_t, ba_f, bo_t, bo_f, t_bl, t_int, t_non,     q_var, q_con, q_glb, q_tup, q_lst, q_dict0, q_bin, q_neg, q_not, q_and, q_or, q_ife, q_cmp, q_cmp2, q_attr, q_sub, q_srev, q_call, q_callk, q_meth, q_bm, q_new, q_bi, q_isi, q_lc, q_dc, q_sortk, q_sortv, q_dict2, q_anil, q_acons, q_ival, q_items, q_vals, q_rng,     o_add, o_sub, o_mul, o_fdiv, o_mod, o_pow18, o_addT, ag_add, ag_sub, c_lt, c_gt, c_le, c_ge, c_eq, c_ne, c_is, c_isn, c_in, c_nin, u_tup, u_scr, n_scr, n_tup, n_str, n_abs, n_min2, n_max2, tg_nm, tg_2, tg_3, at_0, at_1, at_2, at_3, at_4, i_int, sat_some, getV_0, getV_s,     List.set_cons_zero, List.set_cons_succ, List.map_cons, List.map_nil, List.replicate_succ, List.replicate_zero, List.cons_append, List.nil_append, List.length_cons, List.length_nil]
      have ek : (2 + (j : Int)) = ((2 + j : Nat) : Int) := by omega
      rw [ek]
      refine whl_rule (fun m σ M'' => ∃ t' b' : Nat, σ = [some (.ref l), some (.int (t' : Int)), some (.int (b' : Int)), some (.int ((2 + j : Nat) : Int))] ∧ M'' = M' ∧ m = b' ∧ 0 < b' ∧ b' ≤ n ∧ t' * n = s * b' ∧ ∀ d : Nat, 2 ≤ d → d < 2 + j → ¬ (d ∣ t' ∧ d ∣ b')) ?_ fuel b _ _ ⟨t, b, rfl, rfl, rfl, hb, hbn, he, hd⟩ (by unfold fuel; omega)
      rintro m σ M'' ⟨t', b', rfl, rfl, hmb, hb', hbn', he', hd'⟩
      simp only [q_nil, q_cons, k_nx, k_ret, k_brk, k_ct, q_asg, q_asgA, q_asgS, q_aug, q_ex, q_ret, q_retN, q_pass, q_brk, q_cont, q_ifs, q_for, q_whl, b_t, b_f, be_t, be_f, ba_t, ba_f, bo_t, bo_f, t_bl, t_int, t_non,     q_var, q_con, q_glb, q_tup, q_lst, q_dict0, q_bin, q_neg, q_not, q_and, q_or, q_ife, q_cmp, q_cmp2, q_attr, q_sub, q_srev, q_call, q_callk, q_meth, q_bm, q_new, q_bi, q_isi, q_lc, q_dc, q_sortk, q_sortv, q_dict2, q_anil, q_acons, q_ival, q_items, q_vals, q_rng,     o_add, o_sub, o_mul, o_fdiv, o_mod, o_pow18, o_addT, ag_add, ag_sub, c_lt, c_gt, c_le, c_ge, c_eq, c_ne, c_is, c_isn, c_in, c_nin, u_tup, u_scr, n_scr, n_tup, n_str, n_abs, n_min2, n_max2, tg_nm, tg_2, tg_3, at_0, at_1, at_2, at_3, at_4, i_int, sat_some, getV_0, getV_s,     List.set_cons_zero, List.set_cons_succ, List.map_cons, List.map_nil, List.replicate_succ, List.replicate_zero, List.cons_append, List.nil_append, List.length_cons, List.length_nil]
      refine ⟨decide_eq_true (by omega), _, eqW_int _ _, ?_⟩
      have stop : ¬ ((2 + j) ∣ t' ∧ (2 + j) ∣ b') → ∃ (j_1 t b : Nat) (c : Option Wv), j_1 ≤ n - 1 ∧ ((List.range (n - 1)).drop (j + 1)).map (fun k : Nat => Wv.int (2 + (k : Int))) = ((List.range (n - 1)).drop j_1).map (fun k : Nat => Wv.int (2 + (k : Int))) ∧ [some (Wv.ref l), some (Wv.int (t' : Int)), some (Wv.int (b' : Int)), some (Wv.int ((2 + j : Nat) : Int))] = [some (Wv.ref l), some (Wv.int (t : Int)), some (Wv.int (b : Int)), c] ∧ True ∧ 0 < b ∧ b ≤ n ∧ t * n = s * b ∧ ∀ d : Nat, 2 ≤ d → d < 2 + j_1 → ¬ (d ∣ t ∧ d ∣ b) := fun hno => by
        refine ⟨j + 1, t', b', _, by omega, rfl, rfl, trivial, hb', hbn', he', fun d h1 h2 => ?_⟩
        by_cases z : d < 2 + j
        · exact hd' d h1 z
        · have : d = 2 + j := by omega
          rw [this]; exact hno
      have dv : ∀ x : Nat, ((x : Int) % ((2 + j : Nat) : Int) = 0) ↔ (2 + j) ∣ x := fun x => by
        rw [← Int.natCast_emod]
        constructor
        · intro h; exact Nat.dvd_of_mod_eq_zero (by omega)
        · intro h; rw [Nat.mod_eq_zero_of_dvd h]; rfl
      by_cases c1 : (2 + j) ∣ t'
      · rw [decide_eq_true ((dv t').mpr c1)]
        simp only [q_nil, q_cons, k_nx, k_ret, k_brk, k_ct, q_asg, q_asgA, q_asgS, q_aug, q_ex, q_ret, q_retN, q_pass, q_brk, q_cont, q_ifs, q_for, q_whl, b_t, b_f, be_t, be_f, ba_t, ba_f, bo_t, bo_f, t_bl, t_int, t_non,     q_var, q_con, q_glb, q_tup, q_lst, q_dict0, q_bin, q_neg, q_not, q_and, q_or, q_ife, q_cmp, q_cmp2, q_attr, q_sub, q_srev, q_call, q_callk, q_meth, q_bm, q_new, q_bi, q_isi, q_lc, q_dc, q_sortk, q_sortv, q_dict2, q_anil, q_acons, q_ival, q_items, q_vals, q_rng,     o_add, o_sub, o_mul, o_fdiv, o_mod, o_pow18, o_addT, ag_add, ag_sub, c_lt, c_gt, c_le, c_ge, c_eq, c_ne, c_is, c_isn, c_in, c_nin, u_tup, u_scr, n_scr, n_tup, n_str, n_abs, n_min2, n_max2, tg_nm, tg_2, tg_3, at_0, at_1, at_2, at_3, at_4, i_int, sat_some, getV_0, getV_s,     List.set_cons_zero, List.set_cons_succ, List.map_cons, List.map_nil, List.replicate_succ, List.replicate_zero, List.cons_append, List.nil_append, List.length_cons, List.length_nil]
        refine ⟨decide_eq_true (by omega), _, eqW_int _ _, ?_⟩
        by_cases c2 : (2 + j) ∣ b'
        · rw [decide_eq_true ((dv b').mpr c2)]
          refine ⟨true, rfl, fun _ => ?_, fun z => by cases z⟩
          have hdec : (decide (0 < ((2 + j : Nat) : Int)) && decide (((2 + j : Nat) : Int) < 2 ^ 200)) = true := by
            rw [decide_eq_true (by omega), decide_eq_true (by omega)]; rfl
          refine ⟨hdec, hdec, len_ok (by decide), ?_⟩
          obtain ⟨x, hx⟩ := c1
          obtain ⟨y, hy⟩ := c2
          have ex : ((t' : Int) / ((2 + j : Nat) : Int)) = ((x : Nat) : Int) := by
            rw [← Int.natCast_ediv, hx, Nat.mul_div_cancel_left _ (by omega)]
          have ey : ((b' : Int) / ((2 + j : Nat) : Int)) = ((y : Nat) : Int) := by
            rw [← Int.natCast_ediv, hy, Nat.mul_div_cancel_left _ (by omega)]
          rw [ex, ey]
          have hy0 : 0 < y := by
            by_cases z : y = 0
            · rw [z, Nat.mul_zero] at hy; omega
            · omega
          have hlt : y < b' := by
            rw [hy]
            have h2 : 2 * y ≤ (2 + j) * y := Nat.mul_le_mul_right y (by omega)
            omega
          refine ⟨y, by omega, x, y, rfl, trivial, rfl, hy0, by omega, ?_, fun d h1 h2 h3 => hd' d h1 h2 ⟨?_, ?_⟩⟩
          · rw [hx, hy] at he'
            have : (2 + j) * (x * n) = (2 + j) * (s * y) := by
              rw [← Nat.mul_assoc, he', Nat.mul_left_comm]
            exact Nat.eq_of_mul_eq_mul_left (by omega) this
          · rw [hx]; exact Nat.dvd_trans h3.1 (Nat.dvd_mul_left ..)
          · rw [hy]; exact Nat.dvd_trans h3.2 (Nat.dvd_mul_left ..)
        · rw [decide_eq_false fun z => c2 ((dv b').mp z)]
          exact ⟨false, rfl, fun z => (by cases z), fun _ => stop fun z => c2 z.2⟩
      · rw [decide_eq_false fun z => c1 ((dv t').mp z)]
        simp only [q_nil, q_cons, k_nx, k_ret, k_brk, k_ct, q_asg, q_asgA, q_asgS, q_aug, q_ex, q_ret, q_retN, q_pass, q_brk, q_cont, q_ifs, q_for, q_whl, b_t, b_f, be_t, be_f, ba_t, ba_f, bo_t, bo_f, t_bl, t_int, t_non,     q_var, q_con, q_glb, q_tup, q_lst, q_dict0, q_bin, q_neg, q_not, q_and, q_or, q_ife, q_cmp, q_cmp2, q_attr, q_sub, q_srev, q_call, q_callk, q_meth, q_bm, q_new, q_bi, q_isi, q_lc, q_dc, q_sortk, q_sortv, q_dict2, q_anil, q_acons, q_ival, q_items, q_vals, q_rng,     o_add, o_sub, o_mul, o_fdiv, o_mod, o_pow18, o_addT, ag_add, ag_sub, c_lt, c_gt, c_le, c_ge, c_eq, c_ne, c_is, c_isn, c_in, c_nin, u_tup, u_scr, n_scr, n_tup, n_str, n_abs, n_min2, n_max2, tg_nm, tg_2, tg_3, at_0, at_1, at_2, at_3, at_4, i_int, sat_some, getV_0, getV_s,     List.set_cons_zero, List.set_cons_succ, List.map_cons, List.map_nil, List.replicate_succ, List.replicate_zero, List.cons_append, List.nil_append, List.length_cons, List.length_nil]
        exact ⟨false, rfl, fun z => (by cases z), fun _ => stop fun z => c1 z.1⟩
    · rintro pre σ M' ⟨j, t, b, c, hj, hpost, rfl, rfl, hb, hbn, he, hd⟩
      have hn2 : j = n - 1 := by
        by_cases z : j < n - 1
        · rw [List.drop_eq_getElem_cons (by simpa using z)] at hpost; cases hpost
        · omega
      subst hn2
      exact ⟨rfl, t, b, c, rfl, rfl, hb, hbn, he, hd⟩
    · subst eq eM
      try simp only [q_nil, q_cons, k_nx, k_ret, k_brk, k_ct, q_asg, q_asgA, q_asgS, q_aug, q_ex, q_ret, q_retN, q_pass, q_brk, q_cont, q_ifs, q_for, q_whl, b_t, b_f, be_t, be_f, ba_t, ba_f, bo_t, bo_f, t_bl, t_int, t_non,     q_var, q_con, q_glb, q_tup, q_lst, q_dict0, q_bin, q_neg, q_not, q_and, q_or, q_ife, q_cmp, q_cmp2, q_attr, q_sub, q_srev, q_call, q_callk, q_meth, q_bm, q_new, q_bi, q_isi, q_lc, q_dc, q_sortk, q_sortv, q_dict2, q_anil, q_acons, q_ival, q_items, q_vals, q_rng,     o_add, o_sub, o_mul, o_fdiv, o_mod, o_pow18, o_addT, ag_add, ag_sub, c_lt, c_gt, c_le, c_ge, c_eq, c_ne, c_is, c_isn, c_in, c_nin, u_tup, u_scr, n_scr, n_tup, n_str, n_abs, n_min2, n_max2, tg_nm, tg_2, tg_3, at_0, at_1, at_2, at_3, at_4, i_int, sat_some, getV_0, getV_s,     List.set_cons_zero, List.set_cons_succ, List.map_cons, List.map_nil, List.replicate_succ, List.replicate_zero, List.cons_append, List.nil_append, List.length_cons, List.length_nil]
      refine ⟨len_ok (by decide), p1, ?_⟩
      refine mean_nat h0 hs hbl hb hlp ?_ he
      by_cases z : Nat.gcd t b = 1
      · exact z
      · exfalso
        have hg0 : 0 < Nat.gcd t b := Nat.gcd_pos_of_pos_right t hb
        have hgb : Nat.gcd t b ≤ b := Nat.le_of_dvd hb (Nat.gcd_dvd_right t b)
        exact hd (Nat.gcd t b) (by omega) (by omega) ⟨Nat.gcd_dvd_left t b, Nat.gcd_dvd_right t b⟩
end Bh
end
section
set_option Elab.async false
set_option linter.all false
set_option maxRecDepth 100000
set_option maxHeartbeats 0
namespace Bh
open PySem MP
/-! ### means, plainly -/
theorem mean_tup {as : List Int} (h : as ≠ []) : ∃ p q : Int, meanOf as = .tup [.int p, .int q] ∧ 0 < q ∧ q ≤ as.length ∧ p * as.length = as.sum * q := by
  unfold meanOf
  rw [if_neg h]
  have hl : 0 < (as.length : Int) := by
    cases as with
    | nil => exact absurd rfl h
    | cons a as => simp only [List.length_cons]; omega
  generalize (as.length : Int) = l at *
  generalize as.sum = s
  have hg : 0 < (Int.gcd s l : Int) := by
    have := Int.gcd_pos_of_ne_zero_right s (show l ≠ 0 by omega)
    omega
  obtain ⟨x, hx⟩ := Int.gcd_dvd_left (a := s) (b := l)
  obtain ⟨y, hy⟩ := Int.gcd_dvd_right (a := s) (b := l)
  generalize (Int.gcd s l : Int) = g at *
  subst hx
  have e1 : g * x / g = x := Int.mul_ediv_cancel_left _ (by omega)
  have e2 : l / g = y := by rw [hy]; exact Int.mul_ediv_cancel_left _ (by omega)
  refine ⟨_, _, rfl, ?_, ?_, ?_⟩
  · rw [e2]
    by_cases z : 0 < y
    · exact z
    · have := Int.mul_nonpos_of_nonneg_of_nonpos (show 0 ≤ g by omega) (show y ≤ 0 by omega)
      omega
  · exact Int.ediv_le_self _ (by omega)
  · rw [e1, e2, hy, Int.mul_comm g x, Int.mul_assoc]
theorem sum_lo {as : List Int} {lo : Int} (h : ∀ a ∈ as, lo ≤ a) : lo * as.length ≤ as.sum := by
  induction as with
  | nil => simp
  | cons a as ih =>
    have h1 := h a (List.mem_cons_self ..)
    have h2 := ih fun x hx => h x (List.mem_cons_of_mem _ hx)
    have e : lo * ((a :: as).length : Nat) = lo * as.length + lo := by
      simp only [List.length_cons]
      rw [Int.natCast_add, Int.mul_add]
      simp
    rw [e, List.sum_cons]
    omega
theorem sum_hi {as : List Int} {hi : Int} (h : ∀ a ∈ as, a ≤ hi) : as.sum ≤ hi * as.length := by
  induction as with
  | nil => simp
  | cons a as ih =>
    have h1 := h a (List.mem_cons_self ..)
    have h2 := ih fun x hx => h x (List.mem_cons_of_mem _ hx)
    have e : hi * ((a :: as).length : Nat) = hi * as.length + hi := by
      simp only [List.length_cons]
      rw [Int.natCast_add, Int.mul_add]
      simp
    rw [e, List.sum_cons]
    omega
theorem mean_between {as : List Int} {lo hi p q : Int} (hq : 0 < q) (hl : as ≠ []) (e : p * as.length = as.sum * q) (h1 : ∀ a ∈ as, lo ≤ a) (h2 : ∀ a ∈ as, a ≤ hi) : lo * q ≤ p ∧ p ≤ hi * q := by
  have hl : 0 < (as.length : Int) := by
    cases as with
    | nil => exact absurd rfl hl
    | cons a as => simp only [List.length_cons]; omega
  have a1 := Int.mul_le_mul_of_nonneg_right (sum_lo h1) (show 0 ≤ q by omega)
  have a2 := Int.mul_le_mul_of_nonneg_right (sum_hi h2) (show 0 ≤ q by omega)
  constructor
  · refine Int.le_of_mul_le_mul_right ?_ hl
    rw [e, Int.mul_right_comm]
    exact a1
  · refine Int.le_of_mul_le_mul_right ?_ hl
    rw [e, Int.mul_right_comm]
    exact a2
theorem mean_pur (as : List Int) : pur 2 (meanOf as) = true := by
  unfold meanOf
  split <;> rfl
theorem mean_two (as : List Int) : meanOf (as ++ as) = meanOf as := by
  by_cases h : as = []
  · subst h; rfl
  · unfold meanOf
    rw [if_neg h, if_neg (by simp [h])]
    have e1 : (as ++ as).sum = 2 * as.sum := by rw [List.sum_append]; omega
    have e2 : ((as ++ as).length : Int) = 2 * (as.length : Int) := by rw [List.length_append]; omega
    have e3 : (Int.gcd (2 * as.sum) (2 * (as.length : Int)) : Int) = 2 * (Int.gcd as.sum as.length : Int) := by
      rw [Int.gcd_mul_left]
      rfl
    rw [e1, e2, e3, Int.mul_ediv_mul_of_pos _ _ (by omega), Int.mul_ediv_mul_of_pos _ _ (by omega)]
/-! ### least, greatest -/
theorem fmin_le (n : Int) (ns : List Int) : ns.foldl min n ≤ n ∧ ∀ x ∈ ns, ns.foldl min n ≤ x := by
  induction ns generalizing n with
  | nil => exact ⟨Int.le_refl _, fun x hx => by cases hx⟩
  | cons y ns ih =>
    simp only [List.foldl_cons]
    obtain ⟨h1, h2⟩ := ih (min n y)
    have := Int.min_le_left n y
    have := Int.min_le_right n y
    refine ⟨by omega, fun x hx => ?_⟩
    rcases List.mem_cons.mp hx with e | hx
    · rw [e]; omega
    · exact h2 x hx
theorem fmin_mem (n : Int) (ns : List Int) : ns.foldl min n ∈ n :: ns := by
  induction ns generalizing n with
  | nil => simp
  | cons y ns ih =>
    simp only [List.foldl_cons]
    have := ih (min n y)
    rcases List.mem_cons.mp this with e | e
    · rw [e]
      by_cases z : n ≤ y
      · rw [Int.min_eq_left z]; simp
      · rw [Int.min_eq_right (by omega)]; simp
    · exact List.mem_cons_of_mem _ (List.mem_cons_of_mem _ e)
theorem fmax_le (n : Int) (ns : List Int) : n ≤ ns.foldl max n ∧ ∀ x ∈ ns, x ≤ ns.foldl max n := by
  induction ns generalizing n with
  | nil => exact ⟨Int.le_refl _, fun x hx => by cases hx⟩
  | cons y ns ih =>
    simp only [List.foldl_cons]
    obtain ⟨h1, h2⟩ := ih (max n y)
    have := Int.le_max_left n y
    have := Int.le_max_right n y
    refine ⟨by omega, fun x hx => ?_⟩
    rcases List.mem_cons.mp hx with e | hx
    · rw [e]; omega
    · exact h2 x hx
theorem fmax_mem (n : Int) (ns : List Int) : ns.foldl max n ∈ n :: ns := by
  induction ns generalizing n with
  | nil => simp
  | cons y ns ih =>
    simp only [List.foldl_cons]
    have := ih (max n y)
    rcases List.mem_cons.mp this with e | e
    · rw [e]
      by_cases z : n ≤ y
      · rw [Int.max_eq_right z]; simp
      · rw [Int.max_eq_left (by omega)]; simp
    · exact List.mem_cons_of_mem _ (List.mem_cons_of_mem _ e)
theorem best_pre (mx : Bool) (n : Int) (ns : List Int) : bestOf mx (.int n :: ns.map .int) = ofD (if mx then W.maxD (.int n) (ns.map .int) else W.minD (.int n) (ns.map .int)) := by
  have ha : alikeAllB (PyData.int n :: ns.map .int) = true := alikeAllB_map (f := PyData.int) (xs := n :: ns) fun a _ b _ => by simp [W.alike]
  have hn : ((PyData.int n :: ns.map .int).all fun d => !noneB d) = true := by
    rw [List.all_eq_true]
    intro d hd
    obtain ⟨a, _, rfl⟩ := List.mem_map.mp (show d ∈ (n :: ns).map PyData.int from hd)
    rfl
  have hd : (PyData.int n :: ns.map .int).all dcap = true := dcap_map (f := PyData.int) (xs := n :: ns) fun a _ => by simp [PyData.depth]
  unfold bestOf
  rw [ha, hn, hd]
  rfl
theorem n_minL {S : List Int} {M : Mem} {l : Nat} {n : Int} {ns : List Int} (h : M[l]? = some (.lst ((n :: ns).map .int))) : biW (Gp S) .min [.ref l] M = .ok (.int (ns.foldl min n)) M := by
  have e : mapO (toD (Gp S).S M deepD) ((n :: ns).map Wv.int) = some ((n :: ns).map PyData.int) := mapO_map fun t _ => by simp only [toD]
  simp only [biW, lstOf, h, Option.bind_some, e]
  simp only [List.map_cons]
  rw [best_pre]
  simp only [Bool.false_eq_true, if_false, W.minD_ints, ofD, Out.ofO]
theorem n_maxL {S : List Int} {M : Mem} {l : Nat} {n : Int} {ns : List Int} (h : M[l]? = some (.lst ((n :: ns).map .int))) : biW (Gp S) .max [.ref l] M = .ok (.int (ns.foldl max n)) M := by
  have e : mapO (toD (Gp S).S M deepD) ((n :: ns).map Wv.int) = some ((n :: ns).map PyData.int) := mapO_map fun t _ => by simp only [toD]
  simp only [biW, lstOf, h, Option.bind_some, e]
  simp only [List.map_cons]
  rw [best_pre]
  simp only [if_true, W.maxD_ints, ofD, Out.ofO]
/-! ### lists that are alike -/
theorem eqW_lists {S : List Int} {M : Mem} {x y : Nat} {ws : List Wv} (hx : M[x]? = some (.lst ws)) (hy : M[y]? = some (.lst ws)) (hp : ∀ w ∈ ws, pur 6 w = true) : eqW (Gp S) (.ref x) (.ref y) M = some true := by
  have e : toDs (Gp S).S M 11 ws = some (ws.map dat) := by
    have := toDs_map (S := (Gp S).S) (M := M) (n := 11) (f := id) (g := dat) (xs := ws) fun w hw => toD_pur (hp w hw) (by omega)
    rw [List.map_id] at this
    exact this
  exact eqW_same (toD_lst (n := 11) hx e) (toD_lst (n := 11) hy e) (shaped_lst (d := 6) (by omega) fun w hw => ⟨dat_lay (hp w hw), dat_depth (hp w hw)⟩)
theorem eqW_empty {S : List Int} {M : Mem} {x y : Nat} (hx : M[x]? = some (.lst [])) (hy : M[y]? = some (.lst [])) : eqW (Gp S) (.ref x) (.ref y) M = some true := eqW_lists hx hy fun w hw => by cases hw
/-! ### slices -/
theorem cut_wind (n m j : Nat) (a : Nat → Int) (h : j + m ≤ n) : cut ((List.range n).map fun i : Nat => Wv.int (a i)) (some (j : Int)) (some ((j : Int) + (m : Int))) = ((List.range m).map fun k : Nat => a (j + k)).map .int := by
  unfold cut
  have e1 : sIx ((List.range n).map fun i : Nat => Wv.int (a i)).length 0 (some (j : Int)) = j := by
    simp only [sIx]
    rw [if_neg (by omega)]
    simp
    omega
  have e2 : sIx ((List.range n).map fun i : Nat => Wv.int (a i)).length ((List.range n).map fun i : Nat => Wv.int (a i)).length (some ((j : Int) + (m : Int))) = j + m := by
    simp only [sIx]
    rw [if_neg (by omega)]
    simp
    omega
  rw [e1, e2]
  refine List.ext_getElem? fun i => ?_
  rw [List.getElem?_take, List.getElem?_drop]
  by_cases z : i < m
  · rw [if_pos (by omega)]
    simp [List.getElem?_map, List.getElem?_range (show j + i < n by omega), List.getElem?_range z]
  · rw [if_neg (by omega)]
    rw [List.getElem?_eq_none]
    simp; omega
theorem slc_wind {M : Mem} {l n m j : Nat} {a : Nat → Int} (h : M[l]? = some (.lst ((List.range n).map fun i : Nat => Wv.int (a i)))) (hj : j + m ≤ n) : slcW (.ref l) (some (j : Int)) (some ((j : Int) + (m : Int))) M = .ok (.ref M.length) (M ++ [.lst (((List.range m).map fun k : Nat => a (j + k)).map .int)]) := by
  simp only [slcW, h, cut_wind n m j a hj]
end Bh
end
section
set_option Elab.async false
set_option linter.all false
set_option maxRecDepth 100000
set_option maxHeartbeats 0
namespace Bh
open PySem MP
/-! ### the law's own look at what holds: voids one deep -/
/-- a truth or its void -/
abbrev Itm := Bool × Bt
def vdW (v : Wv) : Wv := .tup [.str "void", v]
def Itm.w (i : Itm) : Wv := if i.1 = true then vdW i.2.v else i.2.v
def Itm.tr (i : Itm) : Tr := if i.1 = true then .vd (.bs i.2.w (.int i.2.d :: i.2.xs)) else .bs i.2.w (.int i.2.d :: i.2.xs)
theorem Itm.tr_w (i : Itm) : i.tr.w = i.w := by
  unfold Itm.tr Itm.w
  split <;> rfl
theorem void_strOk : PyData.strOk ("void" : Str) = true := by decide +kernel
/-- as is asked of the items -/
def ItOk (its : List Itm) : Prop := ∀ i ∈ its, i.2.ok
theorem bt_v_inj {u t : Bt} (h : u.v = t.v) : u = t := by
  obtain ⟨a, b, c⟩ := u
  obtain ⟨a', b', c'⟩ := t
  simp only [Bt.v, Wv.tup.injEq, List.cons.injEq, Wv.str.injEq, Wv.int.injEq] at h
  obtain ⟨rfl, rfl, rfl⟩ := h
  rfl
theorem vd_ne {u t : Bt} (h : t.ok) : vdW u.v ≠ t.v := fun e => by
  simp only [vdW, Bt.v, Wv.tup.injEq, List.cons.injEq, Wv.str.injEq] at e
  exact h.nv e.1.symm
theorem itm_inj {i j : Itm} (hi : i.2.ok) (hj : j.2.ok) (h : i.w = j.w) : i = j := by
  obtain ⟨z, u⟩ := i
  obtain ⟨y, t⟩ := j
  unfold Itm.w at h
  cases z <;> cases y <;> simp only [Bool.false_eq_true, if_false, if_true] at h
  · rw [bt_v_inj h]
  · exact absurd h.symm (vd_ne hi)
  · exact absurd h (vd_ne hj)
  · simp only [vdW, Wv.tup.injEq, List.cons.injEq, and_true, true_and] at h
    rw [bt_v_inj h]
theorem itm_pur {i : Itm} (h : i.2.ok) : pur 6 i.w = true := by
  unfold Itm.w
  split
  · show (PyData.strOk ("void" : Str) && (pur 5 i.2.v && true)) = true
    rw [void_strOk, h.pv]
    rfl
  · exact pur_le h.pv (by omega)
/-- the void of v is among these -/
theorem vd_mem {its : List Itm} (ok : ItOk its) (t : Bt) (ht : t.ok) : vdW t.v ∈ its.map Itm.w ↔ (true, t) ∈ its := by
  constructor
  · intro h
    obtain ⟨i, hi, e⟩ := List.mem_map.mp h
    have : i = (true, t) := itm_inj (ok i hi) ht (by rw [e]; rfl)
    rw [← this]; exact hi
  · intro h
    exact List.mem_map.mpr ⟨_, h, rfl⟩
theorem holds1 (S : List Int) (k l : Nat) (its : List Itm) (t : Bt) (M : Mem) (hM : M[l]? = some (.lst (its.map Itm.w))) (ok : ItOk its) (hl : its.length ≤ 300) (ht : t.ok) : callN (Gp S) fuel (k + 1) ix__law_holds [vdW t.v, .ref l] M = .ok (.bl true) (M ++ [.lst []] ++ [.lst []]) := by
  have hz : 1001 ≤ sizeLine := by decide
  refine sat_eq ?_
  rw [at__law_holds]
  refine run_sat rfl ?_
  show (evSl (Gp S) _ _ fuel sl__law_holds [some (vdW t.v), some (.ref l), none] M).sat _
  unfold sl__law_holds
  simp only [q_nil, q_cons, k_nx, k_ret, k_brk, k_ct, q_asg, q_asgA, q_asgS, q_aug, q_ex, q_ret, q_retN, q_pass, q_brk, q_cont, q_ifs, q_for, q_whl, b_t, b_f, be_t, be_f, ba_t, ba_f, bo_t, bo_f, t_bl, t_int, t_non,     q_var, q_con, q_glb, q_tup, q_lst, q_dict0, q_bin, q_neg, q_not, q_and, q_or, q_ife, q_cmp, q_cmp2, q_attr, q_sub, q_srev, q_call, q_callk, q_meth, q_bm, q_new, q_bi, q_isi, q_lc, q_dc, q_sortk, q_sortv, q_dict2, q_anil, q_acons, q_ival, q_items, q_vals, q_rng,     o_add, o_sub, o_mul, o_fdiv, o_mod, o_pow18, o_addT, ag_add, ag_sub, c_lt, c_gt, c_le, c_ge, c_eq, c_ne, c_is, c_isn, c_in, c_nin, u_tup, u_scr, n_scr, n_tup, n_str, n_abs, n_min2, n_max2, tg_nm, tg_2, tg_3, at_0, at_1, at_2, at_3, at_4, i_int, sat_some, getV_0, getV_s,     List.set_cons_zero, List.set_cons_succ, List.map_cons, List.map_nil, List.replicate_succ, List.replicate_zero, List.cons_append, List.nil_append, List.length_cons, List.length_nil, walk_lst hM, lock_lst, unlk_lst]
  refine sat_of (lc_pure (fun _ => false) id (stays_lst hM) (by simp; omega) (fun x hx => ?_)) ?_
  · obtain ⟨i, hi, rfl⟩ := List.mem_map.mp hx
    have hp : pur 7 (Wv.tup [.str "void", vdW t.v]) = true := by
      have h1 : pur 6 (vdW t.v) = true := itm_pur (i := (true, t)) ht
      show (PyData.strOk ("void" : Str) && (pur 6 (vdW t.v) && true)) = true
      rw [void_strOk, h1]
      rfl
    have hne : ¬ i.w = Wv.tup [.str "void", vdW t.v] := fun e => by
      unfold Itm.w at e
      split at e
      · simp only [vdW, Wv.tup.injEq, List.cons.injEq, and_true, true_and] at e
        exact vd_ne (ok i hi) e.symm
      · simp only [vdW, Bt.v, Wv.tup.injEq, List.cons.injEq, Wv.str.injEq] at e
        exact (ok i hi).nv e.1
    refine ⟨[some (vdW t.v), some (.ref l), some i.w], rfl, ⟨.bl false, sat_eq ?_, rfl⟩, fun z => by cases z⟩
    simp only [q_nil, q_cons, k_nx, k_ret, k_brk, k_ct, q_asg, q_asgA, q_asgS, q_aug, q_ex, q_ret, q_retN, q_pass, q_brk, q_cont, q_ifs, q_for, q_whl, b_t, b_f, be_t, be_f, ba_t, ba_f, bo_t, bo_f, t_bl, t_int, t_non,     q_var, q_con, q_glb, q_tup, q_lst, q_dict0, q_bin, q_neg, q_not, q_and, q_or, q_ife, q_cmp, q_cmp2, q_attr, q_sub, q_srev, q_call, q_callk, q_meth, q_bm, q_new, q_bi, q_isi, q_lc, q_dc, q_sortk, q_sortv, q_dict2, q_anil, q_acons, q_ival, q_items, q_vals, q_rng,     o_add, o_sub, o_mul, o_fdiv, o_mod, o_pow18, o_addT, ag_add, ag_sub, c_lt, c_gt, c_le, c_ge, c_eq, c_ne, c_is, c_isn, c_in, c_nin, u_tup, u_scr, n_scr, n_tup, n_str, n_abs, n_min2, n_max2, tg_nm, tg_2, tg_3, at_0, at_1, at_2, at_3, at_4, i_int, sat_some, getV_0, getV_s,     List.set_cons_zero, List.set_cons_succ, List.map_cons, List.map_nil, List.replicate_succ, List.replicate_zero, List.cons_append, List.nil_append, List.length_cons, List.length_nil]
    refine ⟨len_ok (by decide), _, eqW_pur (itm_pur (ok i hi)) hp (by omega) (by omega), ?_⟩
    rw [decide_eq_false hne]
    simp only [q_nil, q_cons, k_nx, k_ret, k_brk, k_ct, q_asg, q_asgA, q_asgS, q_aug, q_ex, q_ret, q_retN, q_pass, q_brk, q_cont, q_ifs, q_for, q_whl, b_t, b_f, be_t, be_f, ba_t, ba_f, bo_t, bo_f, t_bl, t_int, t_non,     q_var, q_con, q_glb, q_tup, q_lst, q_dict0, q_bin, q_neg, q_not, q_and, q_or, q_ife, q_cmp, q_cmp2, q_attr, q_sub, q_srev, q_call, q_callk, q_meth, q_bm, q_new, q_bi, q_isi, q_lc, q_dc, q_sortk, q_sortv, q_dict2, q_anil, q_acons, q_ival, q_items, q_vals, q_rng,     o_add, o_sub, o_mul, o_fdiv, o_mod, o_pow18, o_addT, ag_add, ag_sub, c_lt, c_gt, c_le, c_ge, c_eq, c_ne, c_is, c_isn, c_in, c_nin, u_tup, u_scr, n_scr, n_tup, n_str, n_abs, n_min2, n_max2, tg_nm, tg_2, tg_3, at_0, at_1, at_2, at_3, at_4, i_int, sat_some, getV_0, getV_s,     List.set_cons_zero, List.set_cons_succ, List.map_cons, List.map_nil, List.replicate_succ, List.replicate_zero, List.cons_append, List.nil_append, List.length_cons, List.length_nil]
    exact ⟨trivial, trivial⟩
  rw [List.filter_eq_nil_iff.mpr (fun x _ => by simp)]
  try simp only [q_nil, q_cons, k_nx, k_ret, k_brk, k_ct, q_asg, q_asgA, q_asgS, q_aug, q_ex, q_ret, q_retN, q_pass, q_brk, q_cont, q_ifs, q_for, q_whl, b_t, b_f, be_t, be_f, ba_t, ba_f, bo_t, bo_f, t_bl, t_int, t_non,     q_var, q_con, q_glb, q_tup, q_lst, q_dict0, q_bin, q_neg, q_not, q_and, q_or, q_ife, q_cmp, q_cmp2, q_attr, q_sub, q_srev, q_call, q_callk, q_meth, q_bm, q_new, q_bi, q_isi, q_lc, q_dc, q_sortk, q_sortv, q_dict2, q_anil, q_acons, q_ival, q_items, q_vals, q_rng,     o_add, o_sub, o_mul, o_fdiv, o_mod, o_pow18, o_addT, ag_add, ag_sub, c_lt, c_gt, c_le, c_ge, c_eq, c_ne, c_is, c_isn, c_in, c_nin, u_tup, u_scr, n_scr, n_tup, n_str, n_abs, n_min2, n_max2, tg_nm, tg_2, tg_3, at_0, at_1, at_2, at_3, at_4, i_int, sat_some, getV_0, getV_s,     List.set_cons_zero, List.set_cons_succ, List.map_cons, List.map_nil, List.replicate_succ, List.replicate_zero, List.cons_append, List.nil_append, List.length_cons, List.length_nil]
  refine ⟨len_ok (by decide), true, eqW_empty (M := M ++ [Ob.lst []] ++ [Ob.lst []]) ?_ (at_new ..), rfl, trivial⟩
  rw [List.getElem?_append_left (by simp)]
  exact at_new ..
theorem holds0 (S : List Int) (k l : Nat) (its : List Itm) (t : Bt) (M : Mem) (hM : M[l]? = some (.lst (its.map Itm.w))) (ok : ItOk its) (hl : its.length ≤ 300) (ht : t.ok) :
    (callN (Gp S) fuel (k + 2) ix__law_holds [t.v, .ref l] M).sat fun v M' => M <+: M' ∧ v = .bl (decide (vdW t.v ∉ its.map Itm.w)) := by
  have hz : 1001 ≤ sizeLine := by decide
  rw [at__law_holds]
  refine run_sat rfl ?_
  show (evSl (Gp S) _ _ fuel sl__law_holds [some t.v, some (.ref l), none] M).sat _
  unfold sl__law_holds
  simp only [q_nil, q_cons, k_nx, k_ret, k_brk, k_ct, q_asg, q_asgA, q_asgS, q_aug, q_ex, q_ret, q_retN, q_pass, q_brk, q_cont, q_ifs, q_for, q_whl, b_t, b_f, be_t, be_f, ba_t, ba_f, bo_t, bo_f, t_bl, t_int, t_non,     q_var, q_con, q_glb, q_tup, q_lst, q_dict0, q_bin, q_neg, q_not, q_and, q_or, q_ife, q_cmp, q_cmp2, q_attr, q_sub, q_srev, q_call, q_callk, q_meth, q_bm, q_new, q_bi, q_isi, q_lc, q_dc, q_sortk, q_sortv, q_dict2, q_anil, q_acons, q_ival, q_items, q_vals, q_rng,     o_add, o_sub, o_mul, o_fdiv, o_mod, o_pow18, o_addT, ag_add, ag_sub, c_lt, c_gt, c_le, c_ge, c_eq, c_ne, c_is, c_isn, c_in, c_nin, u_tup, u_scr, n_scr, n_tup, n_str, n_abs, n_min2, n_max2, tg_nm, tg_2, tg_3, at_0, at_1, at_2, at_3, at_4, i_int, sat_some, getV_0, getV_s,     List.set_cons_zero, List.set_cons_succ, List.map_cons, List.map_nil, List.replicate_succ, List.replicate_zero, List.cons_append, List.nil_append, List.length_cons, List.length_nil, walk_lst hM, lock_lst, unlk_lst]
  have hpv : pur 6 (vdW t.v) = true := itm_pur (i := (true, t)) ht
  refine sat_mono (lc_rule (Q := fun ws M' => M <+: M' ∧ ws = (its.map Itm.w).filter fun x => decide (x = vdW t.v)) (fun pre post acc M' => ∃ p q : List Itm, its = p ++ q ∧ post = q.map Itm.w ∧ M <+: M' ∧ acc = (p.map Itm.w).filter fun x => decide (x = vdW t.v)) ?_ ?_ _ [] [] M ⟨[], its, rfl, rfl, List.prefix_refl _, rfl⟩) fun ws M2 ⟨p2, e⟩ => ?_
  · rintro pre x post acc M' ⟨p, q, hpq, hq, pm, rfl⟩
    match q, hq with
    | i :: q, hq =>
    simp only [List.map_cons, List.cons.injEq] at hq
    obtain ⟨rfl, rfl⟩ := hq
    have hi : i ∈ its := by rw [hpq]; simp
    have hM' := pre_get pm hM
    have hpl : p.length ≤ 300 := by rw [hpq] at hl; simp at hl; omega
    have hits : its = (p ++ [i]) ++ q := by rw [hpq]; simp
    refine ⟨stays_lst hM', [some t.v, some (.ref l), some i.w], rfl, ?_⟩
    simp only [q_nil, q_cons, k_nx, k_ret, k_brk, k_ct, q_asg, q_asgA, q_asgS, q_aug, q_ex, q_ret, q_retN, q_pass, q_brk, q_cont, q_ifs, q_for, q_whl, b_t, b_f, be_t, be_f, ba_t, ba_f, bo_t, bo_f, t_bl, t_int, t_non,     q_var, q_con, q_glb, q_tup, q_lst, q_dict0, q_bin, q_neg, q_not, q_and, q_or, q_ife, q_cmp, q_cmp2, q_attr, q_sub, q_srev, q_call, q_callk, q_meth, q_bm, q_new, q_bi, q_isi, q_lc, q_dc, q_sortk, q_sortv, q_dict2, q_anil, q_acons, q_ival, q_items, q_vals, q_rng,     o_add, o_sub, o_mul, o_fdiv, o_mod, o_pow18, o_addT, ag_add, ag_sub, c_lt, c_gt, c_le, c_ge, c_eq, c_ne, c_is, c_isn, c_in, c_nin, u_tup, u_scr, n_scr, n_tup, n_str, n_abs, n_min2, n_max2, tg_nm, tg_2, tg_3, at_0, at_1, at_2, at_3, at_4, i_int, sat_some, getV_0, getV_s,     List.set_cons_zero, List.set_cons_succ, List.map_cons, List.map_nil, List.replicate_succ, List.replicate_zero, List.cons_append, List.nil_append, List.length_cons, List.length_nil]
    refine ⟨len_ok (by decide), _, eqW_pur (itm_pur (ok i hi)) hpv (by omega) (by omega), ?_⟩
    rw [show Wv.tup [.str "void", t.v] = vdW t.v from rfl]
    by_cases c : i.w = vdW t.v
    · rw [decide_eq_true c]
      simp only [q_nil, q_cons, k_nx, k_ret, k_brk, k_ct, q_asg, q_asgA, q_asgS, q_aug, q_ex, q_ret, q_retN, q_pass, q_brk, q_cont, q_ifs, q_for, q_whl, b_t, b_f, be_t, be_f, ba_t, ba_f, bo_t, bo_f, t_bl, t_int, t_non,     q_var, q_con, q_glb, q_tup, q_lst, q_dict0, q_bin, q_neg, q_not, q_and, q_or, q_ife, q_cmp, q_cmp2, q_attr, q_sub, q_srev, q_call, q_callk, q_meth, q_bm, q_new, q_bi, q_isi, q_lc, q_dc, q_sortk, q_sortv, q_dict2, q_anil, q_acons, q_ival, q_items, q_vals, q_rng,     o_add, o_sub, o_mul, o_fdiv, o_mod, o_pow18, o_addT, ag_add, ag_sub, c_lt, c_gt, c_le, c_ge, c_eq, c_ne, c_is, c_isn, c_in, c_nin, u_tup, u_scr, n_scr, n_tup, n_str, n_abs, n_min2, n_max2, tg_nm, tg_2, tg_3, at_0, at_1, at_2, at_3, at_4, i_int, sat_some, getV_0, getV_s,     List.set_cons_zero, List.set_cons_succ, List.map_cons, List.map_nil, List.replicate_succ, List.replicate_zero, List.cons_append, List.nil_append, List.length_cons, List.length_nil]
      rw [c]
      refine sat_of (holds1 S k l its t M' hM' ok hl ht) ?_
      refine ⟨true, rfl, fun _ => ⟨len_ok ?_, p ++ [i], q, hits, rfl, ?_, ?_⟩, fun z => by cases z⟩
      · have := List.length_filter_le (fun x => decide (x = vdW t.v)) (p.map Itm.w)
        rw [List.length_map] at this
        omega
      · exact pre_snoc (pre_snoc pm _) _
      · rw [List.map_append, List.filter_append]
        simp [c]
    · rw [decide_eq_false c]
      simp only [q_nil, q_cons, k_nx, k_ret, k_brk, k_ct, q_asg, q_asgA, q_asgS, q_aug, q_ex, q_ret, q_retN, q_pass, q_brk, q_cont, q_ifs, q_for, q_whl, b_t, b_f, be_t, be_f, ba_t, ba_f, bo_t, bo_f, t_bl, t_int, t_non,     q_var, q_con, q_glb, q_tup, q_lst, q_dict0, q_bin, q_neg, q_not, q_and, q_or, q_ife, q_cmp, q_cmp2, q_attr, q_sub, q_srev, q_call, q_callk, q_meth, q_bm, q_new, q_bi, q_isi, q_lc, q_dc, q_sortk, q_sortv, q_dict2, q_anil, q_acons, q_ival, q_items, q_vals, q_rng,     o_add, o_sub, o_mul, o_fdiv, o_mod, o_pow18, o_addT, ag_add, ag_sub, c_lt, c_gt, c_le, c_ge, c_eq, c_ne, c_is, c_isn, c_in, c_nin, u_tup, u_scr, n_scr, n_tup, n_str, n_abs, n_min2, n_max2, tg_nm, tg_2, tg_3, at_0, at_1, at_2, at_3, at_4, i_int, sat_some, getV_0, getV_s,     List.set_cons_zero, List.set_cons_succ, List.map_cons, List.map_nil, List.replicate_succ, List.replicate_zero, List.cons_append, List.nil_append, List.length_cons, List.length_nil]
      refine ⟨false, rfl, fun z => (by cases z), fun _ => ⟨p ++ [i], q, hits, rfl, pm, ?_⟩⟩
      rw [List.map_append, List.filter_append]
      simp [c]
  · rintro pre acc M' ⟨p, q, hpq, hq, pm, rfl⟩
    have : q = [] := by
      cases q with
      | nil => rfl
      | cons _ _ => cases hq
    subst this
    rw [List.append_nil] at hpq
    subst hpq
    exact ⟨stays_lst (pre_get pm hM), pm, rfl⟩
  · subst e
    try simp only [q_nil, q_cons, k_nx, k_ret, k_brk, k_ct, q_asg, q_asgA, q_asgS, q_aug, q_ex, q_ret, q_retN, q_pass, q_brk, q_cont, q_ifs, q_for, q_whl, b_t, b_f, be_t, be_f, ba_t, ba_f, bo_t, bo_f, t_bl, t_int, t_non,     q_var, q_con, q_glb, q_tup, q_lst, q_dict0, q_bin, q_neg, q_not, q_and, q_or, q_ife, q_cmp, q_cmp2, q_attr, q_sub, q_srev, q_call, q_callk, q_meth, q_bm, q_new, q_bi, q_isi, q_lc, q_dc, q_sortk, q_sortv, q_dict2, q_anil, q_acons, q_ival, q_items, q_vals, q_rng,     o_add, o_sub, o_mul, o_fdiv, o_mod, o_pow18, o_addT, ag_add, ag_sub, c_lt, c_gt, c_le, c_ge, c_eq, c_ne, c_is, c_isn, c_in, c_nin, u_tup, u_scr, n_scr, n_tup, n_str, n_abs, n_min2, n_max2, tg_nm, tg_2, tg_3, at_0, at_1, at_2, at_3, at_4, i_int, sat_some, getV_0, getV_s,     List.set_cons_zero, List.set_cons_succ, List.map_cons, List.map_nil, List.replicate_succ, List.replicate_zero, List.cons_append, List.nil_append, List.length_cons, List.length_nil]
    generalize hws : ((its.map Itm.w).filter fun x => decide (x = vdW t.v)) = ws
    have hwp : ∀ x ∈ ws, pur 6 x = true := fun x hx => by
      rw [← hws] at hx
      rw [of_decide_eq_true (List.mem_filter.mp hx).2]
      exact hpv
    have hx : (M2 ++ [Ob.lst ws] ++ [Ob.lst []])[M2.length]? = some (.lst ws) := by
      rw [List.getElem?_append_left (by simp)]
      exact at_new ..
    have e : toDs (Gp S).S (M2 ++ [Ob.lst ws] ++ [Ob.lst []]) 11 ws = some (ws.map dat) := by
      have := toDs_map (S := (Gp S).S) (M := M2 ++ [Ob.lst ws] ++ [Ob.lst []]) (n := 11) (f := id) (g := dat) (xs := ws) fun w hw => toD_pur (hwp w hw) (by omega)
      rw [List.map_id] at this
      exact this
    refine ⟨len_ok (by decide), _, eqW_nil (toD_lst (n := 11) hx e) (at_new ..) (shaped_lst (d := 6) (by omega) fun w hw => ⟨dat_lay (hwp w hw), dat_depth (hwp w hw)⟩), ?_, ?_⟩
    · exact pre_snoc (pre_snoc p2 _) _
    · congr 1
      by_cases c : vdW t.v ∈ its.map Itm.w
      · have : ws ≠ [] := fun z => by
          rw [z] at hws
          have := List.filter_eq_nil_iff.mp hws _ c
          simp at this
        rw [decide_eq_false (fun z => z c)]
        cases ws with
        | nil => exact absurd rfl this
        | cons _ _ => rfl
      · have : ws = [] := by
          rw [← hws]
          refine List.filter_eq_nil_iff.mpr fun x hx z => ?_
          rw [of_decide_eq_true z] at hx
          exact c hx
        rw [this, decide_eq_true c]
        rfl
/-! each item once -/
def dd (its : List Itm) : List Itm := its.foldl (fun g i => if i ∈ g then g else g ++ [i]) []
def keepI (its : List Itm) (i : Itm) : Bool := !i.1 && decide ((true, i.2) ∉ its)
def heldOf (its : List Itm) : List Bt := ((dd its).filter (keepI its)).map (·.2)
theorem in_lst {S : List Int} {M : Mem} {f : Nat} {ws : List Wv} {x : Wv} (hM : M[f]? = some (.lst ws)) (hw : ∀ w ∈ ws, pur 6 w = true) (hx : pur 6 x = true) : inW (Gp S) x (.ref f) M = some (decide (x ∈ ws)) := by
  have e : toDs (Gp S).S M deepD ws = some (ws.map dat) := by
    have := toDs_map (S := (Gp S).S) (M := M) (n := deepD) (f := id) (g := dat) (xs := ws) fun w h => toD_pur (hw w h) (by decide)
    rw [List.map_id] at this
    exact this
  have h1 : SeqAt.shaped (dat x) = true := shaped_dat hx (by omega)
  have h2 : SeqAt.shaped (.list (ws.map dat)) = true := shaped_lst (d := 6) (by omega) fun w h => ⟨dat_lay (hw w h), dat_depth (hw w h)⟩
  simp only [inW, hM, inLst, toD_pur (S := (Gp S).S) (M := M) (m := deepD) hx (by decide), e, h1, h2, Bool.and_self, if_true]
  congr 1
  rw [List.any_map]
  by_cases c : x ∈ ws
  · rw [decide_eq_true c, List.any_eq_true]
    refine ⟨x, c, ?_⟩
    simp only [Function.comp_def]
    rw [eqv_dat hx hx, decide_eq_true rfl]
  · rw [decide_eq_false c, List.any_eq_false]
    intro y hy
    simp only [Function.comp_def]
    rw [eqv_dat (hw y hy) hx, decide_eq_false (fun z : y = x => c (z ▸ hy))]
    simp
theorem dd_snoc (p : List Itm) (i : Itm) : dd (p ++ [i]) = if i ∈ dd p then dd p else dd p ++ [i] := by unfold dd; simp
theorem dd_mem {its : List Itm} {x : Itm} : x ∈ dd its ↔ x ∈ its := by
  have key : ∀ (its g : List Itm), x ∈ its.foldl (fun g i => if i ∈ g then g else g ++ [i]) g ↔ x ∈ g ∨ x ∈ its := by
    intro its
    induction its with
    | nil => intro g; simp
    | cons i its ih =>
      intro g
      rw [List.foldl_cons, ih]
      split
      · rename_i h
        simp only [List.mem_cons]
        constructor
        · rintro (h1 | h1)
          · exact .inl h1
          · exact .inr (.inr h1)
        · rintro (h1 | h1 | h1)
          · exact .inl h1
          · rw [h1]; exact .inl h
          · exact .inr h1
      · simp only [List.mem_append, List.mem_cons, List.not_mem_nil, or_false, or_assoc]
  have := key its []
  simpa [dd] using this
theorem dd_keys {its : List Itm} (ok : ItOk its) : keysOf (its.map Itm.w) = (dd its).map Itm.w := by
  have key : ∀ (q p : List Itm), (∀ i ∈ p, i.2.ok) → (∀ i ∈ q, i.2.ok) → (q.map Itm.w).foldl addK (p.map Itm.w) = (q.foldl (fun g i => if i ∈ g then g else g ++ [i]) p).map Itm.w := by
    intro q
    induction q with
    | nil => intro p _ _; rfl
    | cons i q ih =>
      intro p hp hq
      have hi := hq i (List.mem_cons_self ..)
      simp only [List.map_cons, List.foldl_cons]
      have e : addK (p.map Itm.w) i.w = (if i ∈ p then p else p ++ [i]).map Itm.w := by
        unfold addK
        by_cases c : i ∈ p
        · rw [if_pos c, if_pos (List.mem_map.mpr ⟨i, c, rfl⟩)]
        · rw [if_neg c, if_neg]
          · simp
          · intro h
            obtain ⟨j, hj, e⟩ := List.mem_map.mp h
            exact c (itm_inj (hp j hj) hi e ▸ hj)
      rw [e]
      refine ih _ (fun j hj => ?_) fun j hj => hq j (List.mem_cons_of_mem _ hj)
      split at hj
      · exact hp j hj
      · rcases List.mem_append.mp hj with hj | hj
        · exact hp j hj
        · rw [List.mem_singleton.mp hj]; exact hi
  exact key its [] (fun i hi => by cases hi) ok
theorem dd_len (its : List Itm) : (dd its).length ≤ its.length := by
  have key : ∀ (q p : List Itm), (q.foldl (fun g i => if i ∈ g then g else g ++ [i]) p).length ≤ p.length + q.length := by
    intro q
    induction q with
    | nil => intro p; simp
    | cons i q ih =>
      intro p
      rw [List.foldl_cons]
      have := ih (if i ∈ p then p else p ++ [i])
      have h2 : (if i ∈ p then p else p ++ [i]).length ≤ p.length + 1 := by
        split
        · omega
        · simp
      simp only [List.length_cons]
      omega
  have := key its []
  simpa [dd] using this
theorem holding_ok (S : List Int) (k l : Nat) (its : List Itm) (M : Mem) (hM : M[l]? = some (.lst (its.map Itm.w))) (ok : ItOk its) (hl : its.length ≤ 300) :
    (callN (Gp S) fuel (k + 3) ix__law_holding [.ref l] M).sat fun v M' => M <+: M' ∧ ∃ y, v = .ref y ∧ M.length ≤ y ∧ M'[y]? = some (.lst ((heldOf its).map Bt.v)) := by
  have hz : 1001 ≤ sizeLine := by decide
  rw [at__law_holding]
  refine run_sat rfl ?_
  show (evSl (Gp S) _ _ fuel sl__law_holding [some (.ref l), none, none] M).sat _
  unfold sl__law_holding
  simp only [q_nil, q_cons, k_nx, k_ret, k_brk, k_ct, q_asg, q_asgA, q_asgS, q_aug, q_ex, q_ret, q_retN, q_pass, q_brk, q_cont, q_ifs, q_for, q_whl, b_t, b_f, be_t, be_f, ba_t, ba_f, bo_t, bo_f, t_bl, t_int, t_non,     q_var, q_con, q_glb, q_tup, q_lst, q_dict0, q_bin, q_neg, q_not, q_and, q_or, q_ife, q_cmp, q_cmp2, q_attr, q_sub, q_srev, q_call, q_callk, q_meth, q_bm, q_new, q_bi, q_isi, q_lc, q_dc, q_sortk, q_sortv, q_dict2, q_anil, q_acons, q_ival, q_items, q_vals, q_rng,     o_add, o_sub, o_mul, o_fdiv, o_mod, o_pow18, o_addT, ag_add, ag_sub, c_lt, c_gt, c_le, c_ge, c_eq, c_ne, c_is, c_isn, c_in, c_nin, u_tup, u_scr, n_scr, n_tup, n_str, n_abs, n_min2, n_max2, tg_nm, tg_2, tg_3, at_0, at_1, at_2, at_3, at_4, i_int, sat_some, getV_0, getV_s,     List.set_cons_zero, List.set_cons_succ, List.map_cons, List.map_nil, List.replicate_succ, List.replicate_zero, List.cons_append, List.nil_append, List.length_cons, List.length_nil]
  refine ⟨len_ok (by decide), ?_⟩
  generalize hM1 : M ++ [Ob.lst []] = M1
  have p1 : M <+: M1 := by rw [← hM1]; exact List.prefix_append _ _
  have hf1 : M1[M.length]? = some (.lst []) := by rw [← hM1]; exact at_new ..
  have hlM : l < M.length := (List.getElem?_eq_some_iff.mp hM).1
  simp only [walk_lst (pre_get p1 hM), sat_some, lock_lst, unlk_lst]
  generalize hfn : M.length = f at *
  refine sat_mono (for_rule (Q := fun q M' => ∃ c, q = (.nx, [some (.ref l), some (.ref f), c]) ∧ M <+: M' ∧ M'[f]? = some (.lst ((heldOf its).map Bt.v)))
    (fun pre post σ M' => ∃ p q : List Itm, its = p ++ q ∧ post = q.map Itm.w ∧ (∃ c, σ = [some (.ref l), some (.ref f), c]) ∧ M <+: M' ∧ M'[f]? = some (.lst ((((dd p).filter (keepI its)).map (·.2)).map Bt.v))) ?_ ?_ _ [] _ _ ⟨[], its, rfl, rfl, ⟨_, rfl⟩, p1, hf1⟩) fun q M2 ⟨c, eq, p2, hf2⟩ => ?_
  · rintro pre x post σ M' ⟨p, q, hpq, hq, ⟨c, rfl⟩, pm, hf⟩
    match q, hq with
    | i :: q, hq =>
    simp only [List.map_cons, List.cons.injEq] at hq
    obtain ⟨rfl, rfl⟩ := hq
    have hi : i ∈ its := by rw [hpq]; simp
    have oki := ok i hi
    have hM' := pre_get pm hM
    have hits : its = (p ++ [i]) ++ q := by rw [hpq]; simp
    have hpl : p.length ≤ 300 := by rw [hpq] at hl; simp at hl; omega
    have hpp : ∀ j ∈ p, j.2.ok := fun j hj => ok j (by rw [hpq]; exact List.mem_append_left _ hj)
    generalize hac : (((dd p).filter (keepI its)).map (·.2)) = acc at *
    have hacp : ∀ w ∈ acc.map Bt.v, pur 6 w = true := fun w hw => by
      obtain ⟨t, ht, rfl⟩ := List.mem_map.mp hw
      rw [← hac] at ht
      obtain ⟨j, hj, rfl⟩ := List.mem_map.mp ht
      exact pur_le (hpp j (dd_mem.mp (List.mem_filter.mp hj).1)).pv (by omega)
    have hacl : acc.length ≤ 300 := by
      rw [← hac, List.length_map]
      have := List.length_filter_le (keepI its) (dd p)
      have := dd_len p
      omega
    have hfl : f < M'.length := (List.getElem?_eq_some_iff.mp hf).1
    refine ⟨stays_lst hM', [some (.ref l), some (.ref f), some i.w], rfl, ?_⟩
    have skip : keepI its i = false ∨ i ∈ dd p → ((dd (p ++ [i])).filter (keepI its)).map (·.2) = acc := fun h => by
      rw [dd_snoc, ← hac]
      rcases h with h | h
      · split
        · rfl
        · rw [List.filter_append, List.filter_cons, h]; simp
      · rw [if_pos h]
    have stay : keepI its i = false ∨ i ∈ dd p → ∀ N : Mem, M <+: N → N[f]? = some (.lst (acc.map Bt.v)) → ∃ p_1 q_1 : List Itm, its = p_1 ++ q_1 ∧ q.map Itm.w = q_1.map Itm.w ∧ (∃ c, [some (Wv.ref l), some (Wv.ref f), some i.w] = [some (Wv.ref l), some (Wv.ref f), c]) ∧ M <+: N ∧ N[f]? = some (.lst ((((dd p_1).filter (keepI its)).map (·.2)).map Bt.v)) := fun h N h1 h2 =>
      ⟨p ++ [i], q, hits, rfl, ⟨_, rfl⟩, h1, by rw [skip h]; exact h2⟩
    obtain ⟨z, t⟩ := i
    cases z with
    | true =>
      have ew : Itm.w (true, t) = .tup [.str "void", t.v] := rfl
      have hs0 : ∀ N : Mem, subW (Gp S) (Itm.w (true, t)) (.int 0) N = .ok (.str "void") N := fun N => rfl
      simp only [q_nil, q_cons, k_nx, k_ret, k_brk, k_ct, q_asg, q_asgA, q_asgS, q_aug, q_ex, q_ret, q_retN, q_pass, q_brk, q_cont, q_ifs, q_for, q_whl, b_t, b_f, be_t, be_f, ba_t, ba_f, bo_t, bo_f, t_bl, t_int, t_non,     q_var, q_con, q_glb, q_tup, q_lst, q_dict0, q_bin, q_neg, q_not, q_and, q_or, q_ife, q_cmp, q_cmp2, q_attr, q_sub, q_srev, q_call, q_callk, q_meth, q_bm, q_new, q_bi, q_isi, q_lc, q_dc, q_sortk, q_sortv, q_dict2, q_anil, q_acons, q_ival, q_items, q_vals, q_rng,     o_add, o_sub, o_mul, o_fdiv, o_mod, o_pow18, o_addT, ag_add, ag_sub, c_lt, c_gt, c_le, c_ge, c_eq, c_ne, c_is, c_isn, c_in, c_nin, u_tup, u_scr, n_scr, n_tup, n_str, n_abs, n_min2, n_max2, tg_nm, tg_2, tg_3, at_0, at_1, at_2, at_3, at_4, i_int, sat_some, getV_0, getV_s,     List.set_cons_zero, List.set_cons_succ, List.map_cons, List.map_nil, List.replicate_succ, List.replicate_zero, List.cons_append, List.nil_append, List.length_cons, List.length_nil]
      refine sat_of (hs0 _) ?_
      refine ⟨_, eqW_str void_shaped void_shaped, ?_⟩
      rw [decide_eq_true rfl]
      simp only [q_nil, q_cons, k_nx, k_ret, k_brk, k_ct, q_asg, q_asgA, q_asgS, q_aug, q_ex, q_ret, q_retN, q_pass, q_brk, q_cont, q_ifs, q_for, q_whl, b_t, b_f, be_t, be_f, ba_t, ba_f, bo_t, bo_f, t_bl, t_int, t_non,     q_var, q_con, q_glb, q_tup, q_lst, q_dict0, q_bin, q_neg, q_not, q_and, q_or, q_ife, q_cmp, q_cmp2, q_attr, q_sub, q_srev, q_call, q_callk, q_meth, q_bm, q_new, q_bi, q_isi, q_lc, q_dc, q_sortk, q_sortv, q_dict2, q_anil, q_acons, q_ival, q_items, q_vals, q_rng,     o_add, o_sub, o_mul, o_fdiv, o_mod, o_pow18, o_addT, ag_add, ag_sub, c_lt, c_gt, c_le, c_ge, c_eq, c_ne, c_is, c_isn, c_in, c_nin, u_tup, u_scr, n_scr, n_tup, n_str, n_abs, n_min2, n_max2, tg_nm, tg_2, tg_3, at_0, at_1, at_2, at_3, at_4, i_int, sat_some, getV_0, getV_s,     List.set_cons_zero, List.set_cons_succ, List.map_cons, List.map_nil, List.replicate_succ, List.replicate_zero, List.cons_append, List.nil_append, List.length_cons, List.length_nil, Bool.not_true]
      exact stay (.inl (by simp [keepI])) M' pm hf
    | false =>
      have ew : Itm.w (false, t) = t.v := rfl
      rw [ew]
      have hs0 : ∀ N : Mem, subW (Gp S) t.v (.int 0) N = .ok (.str t.w) N := fun N => rfl
      simp only [q_nil, q_cons, k_nx, k_ret, k_brk, k_ct, q_asg, q_asgA, q_asgS, q_aug, q_ex, q_ret, q_retN, q_pass, q_brk, q_cont, q_ifs, q_for, q_whl, b_t, b_f, be_t, be_f, ba_t, ba_f, bo_t, bo_f, t_bl, t_int, t_non,     q_var, q_con, q_glb, q_tup, q_lst, q_dict0, q_bin, q_neg, q_not, q_and, q_or, q_ife, q_cmp, q_cmp2, q_attr, q_sub, q_srev, q_call, q_callk, q_meth, q_bm, q_new, q_bi, q_isi, q_lc, q_dc, q_sortk, q_sortv, q_dict2, q_anil, q_acons, q_ival, q_items, q_vals, q_rng,     o_add, o_sub, o_mul, o_fdiv, o_mod, o_pow18, o_addT, ag_add, ag_sub, c_lt, c_gt, c_le, c_ge, c_eq, c_ne, c_is, c_isn, c_in, c_nin, u_tup, u_scr, n_scr, n_tup, n_str, n_abs, n_min2, n_max2, tg_nm, tg_2, tg_3, at_0, at_1, at_2, at_3, at_4, i_int, sat_some, getV_0, getV_s,     List.set_cons_zero, List.set_cons_succ, List.map_cons, List.map_nil, List.replicate_succ, List.replicate_zero, List.cons_append, List.nil_append, List.length_cons, List.length_nil]
      refine sat_of (hs0 _) ?_
      refine ⟨_, eqW_str oki.sh void_shaped, ?_⟩
      rw [decide_eq_false oki.nv]
      simp only [q_nil, q_cons, k_nx, k_ret, k_brk, k_ct, q_asg, q_asgA, q_asgS, q_aug, q_ex, q_ret, q_retN, q_pass, q_brk, q_cont, q_ifs, q_for, q_whl, b_t, b_f, be_t, be_f, ba_t, ba_f, bo_t, bo_f, t_bl, t_int, t_non,     q_var, q_con, q_glb, q_tup, q_lst, q_dict0, q_bin, q_neg, q_not, q_and, q_or, q_ife, q_cmp, q_cmp2, q_attr, q_sub, q_srev, q_call, q_callk, q_meth, q_bm, q_new, q_bi, q_isi, q_lc, q_dc, q_sortk, q_sortv, q_dict2, q_anil, q_acons, q_ival, q_items, q_vals, q_rng,     o_add, o_sub, o_mul, o_fdiv, o_mod, o_pow18, o_addT, ag_add, ag_sub, c_lt, c_gt, c_le, c_ge, c_eq, c_ne, c_is, c_isn, c_in, c_nin, u_tup, u_scr, n_scr, n_tup, n_str, n_abs, n_min2, n_max2, tg_nm, tg_2, tg_3, at_0, at_1, at_2, at_3, at_4, i_int, sat_some, getV_0, getV_s,     List.set_cons_zero, List.set_cons_succ, List.map_cons, List.map_nil, List.replicate_succ, List.replicate_zero, List.cons_append, List.nil_append, List.length_cons, List.length_nil, Bool.not_false]
      refine ⟨_, in_lst hf hacp (pur_le oki.pv (by omega)), ?_⟩
      have hmem : t.v ∈ acc.map Bt.v ↔ ((false, t) ∈ dd p ∧ keepI its (false, t) = true) := by
        constructor
        · intro h
          obtain ⟨u, hu, e⟩ := List.mem_map.mp h
          have := bt_v_inj e
          subst this
          rw [← hac] at hu
          obtain ⟨j, hj, e2⟩ := List.mem_map.mp hu
          obtain ⟨h1, h2⟩ := List.mem_filter.mp hj
          have hj1 : j.1 = false := by
            unfold keepI at h2
            rw [Bool.and_eq_true] at h2
            simpa using h2.1
          have : j = (false, u) := Prod.ext hj1 e2
          rw [this] at h1 h2
          exact ⟨h1, h2⟩
        · rintro ⟨h1, h2⟩
          refine List.mem_map.mpr ⟨t, ?_, rfl⟩
          rw [← hac]
          exact List.mem_map.mpr ⟨_, List.mem_filter.mpr ⟨h1, h2⟩, rfl⟩
      by_cases c1 : t.v ∈ acc.map Bt.v
      · rw [decide_eq_true c1]
        simp only [q_nil, q_cons, k_nx, k_ret, k_brk, k_ct, q_asg, q_asgA, q_asgS, q_aug, q_ex, q_ret, q_retN, q_pass, q_brk, q_cont, q_ifs, q_for, q_whl, b_t, b_f, be_t, be_f, ba_t, ba_f, bo_t, bo_f, t_bl, t_int, t_non,     q_var, q_con, q_glb, q_tup, q_lst, q_dict0, q_bin, q_neg, q_not, q_and, q_or, q_ife, q_cmp, q_cmp2, q_attr, q_sub, q_srev, q_call, q_callk, q_meth, q_bm, q_new, q_bi, q_isi, q_lc, q_dc, q_sortk, q_sortv, q_dict2, q_anil, q_acons, q_ival, q_items, q_vals, q_rng,     o_add, o_sub, o_mul, o_fdiv, o_mod, o_pow18, o_addT, ag_add, ag_sub, c_lt, c_gt, c_le, c_ge, c_eq, c_ne, c_is, c_isn, c_in, c_nin, u_tup, u_scr, n_scr, n_tup, n_str, n_abs, n_min2, n_max2, tg_nm, tg_2, tg_3, at_0, at_1, at_2, at_3, at_4, i_int, sat_some, getV_0, getV_s,     List.set_cons_zero, List.set_cons_succ, List.map_cons, List.map_nil, List.replicate_succ, List.replicate_zero, List.cons_append, List.nil_append, List.length_cons, List.length_nil, Bool.not_true]
        exact stay (.inr (hmem.mp c1).1) M' pm hf
      · rw [decide_eq_false c1]
        simp only [q_nil, q_cons, k_nx, k_ret, k_brk, k_ct, q_asg, q_asgA, q_asgS, q_aug, q_ex, q_ret, q_retN, q_pass, q_brk, q_cont, q_ifs, q_for, q_whl, b_t, b_f, be_t, be_f, ba_t, ba_f, bo_t, bo_f, t_bl, t_int, t_non,     q_var, q_con, q_glb, q_tup, q_lst, q_dict0, q_bin, q_neg, q_not, q_and, q_or, q_ife, q_cmp, q_cmp2, q_attr, q_sub, q_srev, q_call, q_callk, q_meth, q_bm, q_new, q_bi, q_isi, q_lc, q_dc, q_sortk, q_sortv, q_dict2, q_anil, q_acons, q_ival, q_items, q_vals, q_rng,     o_add, o_sub, o_mul, o_fdiv, o_mod, o_pow18, o_addT, ag_add, ag_sub, c_lt, c_gt, c_le, c_ge, c_eq, c_ne, c_is, c_isn, c_in, c_nin, u_tup, u_scr, n_scr, n_tup, n_str, n_abs, n_min2, n_max2, tg_nm, tg_2, tg_3, at_0, at_1, at_2, at_3, at_4, i_int, sat_some, getV_0, getV_s,     List.set_cons_zero, List.set_cons_succ, List.map_cons, List.map_nil, List.replicate_succ, List.replicate_zero, List.cons_append, List.nil_append, List.length_cons, List.length_nil, Bool.not_false]
        refine sat_mono (holds0 S k l its t M' hM' ok hl oki) fun v M2 ⟨p2, hv⟩ => ?_
        subst hv
        have hf2 := pre_get p2 hf
        simp only [q_nil, q_cons, k_nx, k_ret, k_brk, k_ct, q_asg, q_asgA, q_asgS, q_aug, q_ex, q_ret, q_retN, q_pass, q_brk, q_cont, q_ifs, q_for, q_whl, b_t, b_f, be_t, be_f, ba_t, ba_f, bo_t, bo_f, t_bl, t_int, t_non,     q_var, q_con, q_glb, q_tup, q_lst, q_dict0, q_bin, q_neg, q_not, q_and, q_or, q_ife, q_cmp, q_cmp2, q_attr, q_sub, q_srev, q_call, q_callk, q_meth, q_bm, q_new, q_bi, q_isi, q_lc, q_dc, q_sortk, q_sortv, q_dict2, q_anil, q_acons, q_ival, q_items, q_vals, q_rng,     o_add, o_sub, o_mul, o_fdiv, o_mod, o_pow18, o_addT, ag_add, ag_sub, c_lt, c_gt, c_le, c_ge, c_eq, c_ne, c_is, c_isn, c_in, c_nin, u_tup, u_scr, n_scr, n_tup, n_str, n_abs, n_min2, n_max2, tg_nm, tg_2, tg_3, at_0, at_1, at_2, at_3, at_4, i_int, sat_some, getV_0, getV_s,     List.set_cons_zero, List.set_cons_succ, List.map_cons, List.map_nil, List.replicate_succ, List.replicate_zero, List.cons_append, List.nil_append, List.length_cons, List.length_nil]
        by_cases c2 : vdW t.v ∉ its.map Itm.w
        · rw [decide_eq_true c2]
          have hk : keepI its (false, t) = true := by
            have : (true, t) ∉ its := fun z => c2 ((vd_mem ok t oki).mpr z)
            show (true && decide ((true, t) ∉ its)) = true
            rw [decide_eq_true this]
            rfl
          have hnd : (false, t) ∉ dd p := fun z => c1 (hmem.mpr ⟨z, hk⟩)
          simp only [q_nil, q_cons, k_nx, k_ret, k_brk, k_ct, q_asg, q_asgA, q_asgS, q_aug, q_ex, q_ret, q_retN, q_pass, q_brk, q_cont, q_ifs, q_for, q_whl, b_t, b_f, be_t, be_f, ba_t, ba_f, bo_t, bo_f, t_bl, t_int, t_non,     q_var, q_con, q_glb, q_tup, q_lst, q_dict0, q_bin, q_neg, q_not, q_and, q_or, q_ife, q_cmp, q_cmp2, q_attr, q_sub, q_srev, q_call, q_callk, q_meth, q_bm, q_new, q_bi, q_isi, q_lc, q_dc, q_sortk, q_sortv, q_dict2, q_anil, q_acons, q_ival, q_items, q_vals, q_rng,     o_add, o_sub, o_mul, o_fdiv, o_mod, o_pow18, o_addT, ag_add, ag_sub, c_lt, c_gt, c_le, c_ge, c_eq, c_ne, c_is, c_isn, c_in, c_nin, u_tup, u_scr, n_scr, n_tup, n_str, n_abs, n_min2, n_max2, tg_nm, tg_2, tg_3, at_0, at_1, at_2, at_3, at_4, i_int, sat_some, getV_0, getV_s,     List.set_cons_zero, List.set_cons_succ, List.map_cons, List.map_nil, List.replicate_succ, List.replicate_zero, List.cons_append, List.nil_append, List.length_cons, List.length_nil]
          refine ⟨bmT_append hf2, sat_of (bm_append hf2 (by rw [List.length_map]; omega)) ?_⟩
          refine ⟨p ++ [(false, t)], q, hits, rfl, ⟨_, rfl⟩, pre_set (pm.trans p2) (by omega), ?_⟩
          rw [List.getElem?_set_self (by have := pre_len p2; omega), dd_snoc, if_neg hnd, List.filter_append, List.filter_cons, hk, List.map_append, hac]
          simp
        · rw [decide_eq_false c2]
          simp only [q_nil, q_cons, k_nx, k_ret, k_brk, k_ct, q_asg, q_asgA, q_asgS, q_aug, q_ex, q_ret, q_retN, q_pass, q_brk, q_cont, q_ifs, q_for, q_whl, b_t, b_f, be_t, be_f, ba_t, ba_f, bo_t, bo_f, t_bl, t_int, t_non,     q_var, q_con, q_glb, q_tup, q_lst, q_dict0, q_bin, q_neg, q_not, q_and, q_or, q_ife, q_cmp, q_cmp2, q_attr, q_sub, q_srev, q_call, q_callk, q_meth, q_bm, q_new, q_bi, q_isi, q_lc, q_dc, q_sortk, q_sortv, q_dict2, q_anil, q_acons, q_ival, q_items, q_vals, q_rng,     o_add, o_sub, o_mul, o_fdiv, o_mod, o_pow18, o_addT, ag_add, ag_sub, c_lt, c_gt, c_le, c_ge, c_eq, c_ne, c_is, c_isn, c_in, c_nin, u_tup, u_scr, n_scr, n_tup, n_str, n_abs, n_min2, n_max2, tg_nm, tg_2, tg_3, at_0, at_1, at_2, at_3, at_4, i_int, sat_some, getV_0, getV_s,     List.set_cons_zero, List.set_cons_succ, List.map_cons, List.map_nil, List.replicate_succ, List.replicate_zero, List.cons_append, List.nil_append, List.length_cons, List.length_nil]
          refine stay (.inl ?_) M2 (pm.trans p2) hf2
          have : (true, t) ∈ its := (vd_mem ok t oki).mp (Classical.not_not.mp c2)
          have h2 : ¬ (true, t) ∉ its := fun z => z this
          show (true && decide ((true, t) ∉ its)) = false
          rw [decide_eq_false h2]
          rfl
  · rintro pre σ M' ⟨p, q, hpq, hq, ⟨c, rfl⟩, pm, hf⟩
    have : q = [] := by
      cases q with
      | nil => rfl
      | cons _ _ => cases hq
    subst this
    rw [List.append_nil] at hpq
    subst hpq
    exact ⟨stays_lst (pre_get pm hM), c, rfl, pm, hf⟩
  · subst eq
    simp only [q_nil, q_cons, k_nx, k_ret, k_brk, k_ct, q_asg, q_asgA, q_asgS, q_aug, q_ex, q_ret, q_retN, q_pass, q_brk, q_cont, q_ifs, q_for, q_whl, b_t, b_f, be_t, be_f, ba_t, ba_f, bo_t, bo_f, t_bl, t_int, t_non,     q_var, q_con, q_glb, q_tup, q_lst, q_dict0, q_bin, q_neg, q_not, q_and, q_or, q_ife, q_cmp, q_cmp2, q_attr, q_sub, q_srev, q_call, q_callk, q_meth, q_bm, q_new, q_bi, q_isi, q_lc, q_dc, q_sortk, q_sortv, q_dict2, q_anil, q_acons, q_ival, q_items, q_vals, q_rng,     o_add, o_sub, o_mul, o_fdiv, o_mod, o_pow18, o_addT, ag_add, ag_sub, c_lt, c_gt, c_le, c_ge, c_eq, c_ne, c_is, c_isn, c_in, c_nin, u_tup, u_scr, n_scr, n_tup, n_str, n_abs, n_min2, n_max2, tg_nm, tg_2, tg_3, at_0, at_1, at_2, at_3, at_4, i_int, sat_some, getV_0, getV_s,     List.set_cons_zero, List.set_cons_succ, List.map_cons, List.map_nil, List.replicate_succ, List.replicate_zero, List.cons_append, List.nil_append, List.length_cons, List.length_nil]
    exact ⟨p2, f, rfl, Nat.le_refl _, hf2⟩
end Bh
end
section
set_option Elab.async false
set_option linter.all false
set_option maxRecDepth 100000
set_option maxHeartbeats 0
namespace Bh
open PySem MP
/-! ### the law's own counting -/
theorem law_thing_ok (S : List Int) (k : Nat) (t : Bt) (M : Mem) (h : t.ok) : callN (Gp S) fuel (k + 1) ix__law_thing [t.v] M = .ok t.thing (M ++ [.dct false [(.str "share", .int 4), (.str "release", .int 5)]]) := by
  have hz : 1001 ≤ sizeLine := by decide
  refine sat_eq ?_
  rw [at__law_thing]
  refine run_sat rfl ?_
  show (evSl (Gp S) _ _ fuel sl__law_thing [some t.v, none] M).sat _
  unfold sl__law_thing
  have hs0 : ∀ N : Mem, subW (Gp S) t.v (.int 0) N = .ok (.str t.w) N := fun N => rfl
  simp only [q_nil, q_cons, k_nx, k_ret, k_brk, k_ct, q_asg, q_asgA, q_asgS, q_aug, q_ex, q_ret, q_retN, q_pass, q_brk, q_cont, q_ifs, q_for, q_whl, b_t, b_f, be_t, be_f, ba_t, ba_f, bo_t, bo_f, t_bl, t_int, t_non,     q_var, q_con, q_glb, q_tup, q_lst, q_dict0, q_bin, q_neg, q_not, q_and, q_or, q_ife, q_cmp, q_cmp2, q_attr, q_sub, q_srev, q_call, q_callk, q_meth, q_bm, q_new, q_bi, q_isi, q_lc, q_dc, q_sortk, q_sortv, q_dict2, q_anil, q_acons, q_ival, q_items, q_vals, q_rng,     o_add, o_sub, o_mul, o_fdiv, o_mod, o_pow18, o_addT, ag_add, ag_sub, c_lt, c_gt, c_le, c_ge, c_eq, c_ne, c_is, c_isn, c_in, c_nin, u_tup, u_scr, n_scr, n_tup, n_str, n_abs, n_min2, n_max2, tg_nm, tg_2, tg_3, at_0, at_1, at_2, at_3, at_4, i_int, sat_some, getV_0, getV_s,     List.set_cons_zero, List.set_cons_succ, List.map_cons, List.map_nil, List.replicate_succ, List.replicate_zero, List.cons_append, List.nil_append, List.length_cons, List.length_nil]
  generalize hM1 : M ++ [Ob.dct false [(Wv.str "share", Wv.int 4), (.str "release", .int 5)]] = M1
  have hd : M1[M.length]? = some (.dct false [(Wv.str "share", Wv.int 4), (.str "release", .int 5)]) := by rw [← hM1]; exact at_new ..
  refine ⟨by decide +kernel, bmT_get hd, ?_⟩
  refine sat_of (hs0 _) ?_
  refine sat_of (bm_get2 hd (keyOk_A rfl (by decide +kernel))) ?_
  have eg : ((dget [(Wv.str "share", Wv.int 4), (.str "release", .int 5)] (.str t.w)).getD (.int 3)) = .int ((t.tn : Int) + 2) := by
    simp only [dget]
    unfold Bt.tn
    by_cases c1 : t.w = ("share" : Str)
    · rw [if_pos (by rw [c1]), if_pos c1]; rfl
    · rw [if_neg (fun z => c1 (Wv.str.inj z).symm), if_neg c1]
      by_cases c2 : t.w = ("release" : Str)
      · rw [if_pos (by rw [c2]), if_pos c2]; rfl
      · rw [if_neg (fun z => c2 (Wv.str.inj z).symm), if_neg c2]; rfl
  rw [eg]
  rw [q_slcN (Gp S) _ _ (.var 0) (.con (.int 1)) rfl]
  simp only [q_nil, q_cons, k_nx, k_ret, k_brk, k_ct, q_asg, q_asgA, q_asgS, q_aug, q_ex, q_ret, q_retN, q_pass, q_brk, q_cont, q_ifs, q_for, q_whl, b_t, b_f, be_t, be_f, ba_t, ba_f, bo_t, bo_f, t_bl, t_int, t_non,     q_var, q_con, q_glb, q_tup, q_lst, q_dict0, q_bin, q_neg, q_not, q_and, q_or, q_ife, q_cmp, q_cmp2, q_attr, q_sub, q_srev, q_call, q_callk, q_meth, q_bm, q_new, q_bi, q_isi, q_lc, q_dc, q_sortk, q_sortv, q_dict2, q_anil, q_acons, q_ival, q_items, q_vals, q_rng,     o_add, o_sub, o_mul, o_fdiv, o_mod, o_pow18, o_addT, ag_add, ag_sub, c_lt, c_gt, c_le, c_ge, c_eq, c_ne, c_is, c_isn, c_in, c_nin, u_tup, u_scr, n_scr, n_tup, n_str, n_abs, n_min2, n_max2, tg_nm, tg_2, tg_3, at_0, at_1, at_2, at_3, at_4, i_int, sat_some, getV_0, getV_s,     List.set_cons_zero, List.set_cons_succ, List.map_cons, List.map_nil, List.replicate_succ, List.replicate_zero, List.cons_append, List.nil_append, List.length_cons, List.length_nil]
  have e1 : slcW t.v none (some 1) M1 = .ok (.tup [.str t.w]) M1 := by
    show Out.ok (Wv.tup (cut (.str t.w :: .int t.d :: t.xs) none (some 1))) M1 = _
    congr 2
  refine sat_of e1 ?_
  rw [q_slc (Gp S) _ _ (.var 0) (.con (.int 2)) (.var 1) rfl rfl]
  simp only [q_nil, q_cons, k_nx, k_ret, k_brk, k_ct, q_asg, q_asgA, q_asgS, q_aug, q_ex, q_ret, q_retN, q_pass, q_brk, q_cont, q_ifs, q_for, q_whl, b_t, b_f, be_t, be_f, ba_t, ba_f, bo_t, bo_f, t_bl, t_int, t_non,     q_var, q_con, q_glb, q_tup, q_lst, q_dict0, q_bin, q_neg, q_not, q_and, q_or, q_ife, q_cmp, q_cmp2, q_attr, q_sub, q_srev, q_call, q_callk, q_meth, q_bm, q_new, q_bi, q_isi, q_lc, q_dc, q_sortk, q_sortv, q_dict2, q_anil, q_acons, q_ival, q_items, q_vals, q_rng,     o_add, o_sub, o_mul, o_fdiv, o_mod, o_pow18, o_addT, ag_add, ag_sub, c_lt, c_gt, c_le, c_ge, c_eq, c_ne, c_is, c_isn, c_in, c_nin, u_tup, u_scr, n_scr, n_tup, n_str, n_abs, n_min2, n_max2, tg_nm, tg_2, tg_3, at_0, at_1, at_2, at_3, at_4, i_int, sat_some, getV_0, getV_s,     List.set_cons_zero, List.set_cons_succ, List.map_cons, List.map_nil, List.replicate_succ, List.replicate_zero, List.cons_append, List.nil_append, List.length_cons, List.length_nil]
  have hln := h.ln
  have e2 : slcW t.v (some 2) (some ((t.tn : Int) + 2)) M1 = .ok (.tup (t.xs.take t.tn)) M1 := by
    show Out.ok (Wv.tup (cut (.str t.w :: .int t.d :: t.xs) (some 2) (some ((t.tn : Int) + 2)))) M1 = _
    congr 2
    unfold cut
    simp only [sIx]
    rw [if_neg (by omega), if_neg (by omega)]
    have a1 : min (Int.toNat 2) (Wv.str t.w :: .int t.d :: t.xs).length = 2 := by
      simp only [List.length_cons]
      omega
    have a2 : min ((t.tn : Int) + 2).toNat (Wv.str t.w :: .int t.d :: t.xs).length - 2 = t.tn := by
      simp only [List.length_cons]
      omega
    rw [a1, a2]
    rfl
  refine sat_of e2 ?_
  simp only [q_nil, q_cons, k_nx, k_ret, k_brk, k_ct, q_asg, q_asgA, q_asgS, q_aug, q_ex, q_ret, q_retN, q_pass, q_brk, q_cont, q_ifs, q_for, q_whl, b_t, b_f, be_t, be_f, ba_t, ba_f, bo_t, bo_f, t_bl, t_int, t_non,     q_var, q_con, q_glb, q_tup, q_lst, q_dict0, q_bin, q_neg, q_not, q_and, q_or, q_ife, q_cmp, q_cmp2, q_attr, q_sub, q_srev, q_call, q_callk, q_meth, q_bm, q_new, q_bi, q_isi, q_lc, q_dc, q_sortk, q_sortv, q_dict2, q_anil, q_acons, q_ival, q_items, q_vals, q_rng,     o_add, o_sub, o_mul, o_fdiv, o_mod, o_pow18, o_addT, ag_add, ag_sub, c_lt, c_gt, c_le, c_ge, c_eq, c_ne, c_is, c_isn, c_in, c_nin, u_tup, u_scr, n_scr, n_tup, n_str, n_abs, n_min2, n_max2, tg_nm, tg_2, tg_3, at_0, at_1, at_2, at_3, at_4, i_int, sat_some, getV_0, getV_s,     List.set_cons_zero, List.set_cons_succ, List.map_cons, List.map_nil, List.replicate_succ, List.replicate_zero, List.cons_append, List.nil_append, List.length_cons, List.length_nil]
  refine ⟨len_ok ?_, rfl, trivial⟩
  have : t.tn ≤ 3 := by
    unfold Bt.tn
    split
    · omega
    · split <;> omega
  rw [List.length_take]
  omega
theorem counting_ok (S : List Int) (k l : Nat) (its : List Itm) (sf : List Bt) (M : Mem) (hM : M[l]? = some (.lst (its.map Itm.w))) (ok : ItOk its) (hl : its.length ≤ 300) (hal : Alk (heldOf its)) (hs : sortBy ((cntOf (heldOf its)).map okey) ((cntOf (heldOf its)).map Bt.v) = some (sf.map Bt.v)) (hsl : sf.length ≤ 300) :
    (callN (Gp S) fuel (k + 4) ix__law_counting [.ref l] M).sat fun v M' => M <+: M' ∧ ∃ y, v = .ref y ∧ M.length ≤ y ∧ M'[y]? = some (.lst (sf.map Bt.v)) := by
  have hz : 1001 ≤ sizeLine := by decide
  rw [at__law_counting]
  refine run_sat rfl ?_
  show (evSl (Gp S) _ _ fuel sl__law_counting [some (.ref l), none, none, none] M).sat _
  unfold sl__law_counting
  simp only [q_nil, q_cons, k_nx, k_ret, k_brk, k_ct, q_asg, q_asgA, q_asgS, q_aug, q_ex, q_ret, q_retN, q_pass, q_brk, q_cont, q_ifs, q_for, q_whl, b_t, b_f, be_t, be_f, ba_t, ba_f, bo_t, bo_f, t_bl, t_int, t_non,     q_var, q_con, q_glb, q_tup, q_lst, q_dict0, q_bin, q_neg, q_not, q_and, q_or, q_ife, q_cmp, q_cmp2, q_attr, q_sub, q_srev, q_call, q_callk, q_meth, q_bm, q_new, q_bi, q_isi, q_lc, q_dc, q_sortk, q_sortv, q_dict2, q_anil, q_acons, q_ival, q_items, q_vals, q_rng,     o_add, o_sub, o_mul, o_fdiv, o_mod, o_pow18, o_addT, ag_add, ag_sub, c_lt, c_gt, c_le, c_ge, c_eq, c_ne, c_is, c_isn, c_in, c_nin, u_tup, u_scr, n_scr, n_tup, n_str, n_abs, n_min2, n_max2, tg_nm, tg_2, tg_3, at_0, at_1, at_2, at_3, at_4, i_int, sat_some, getV_0, getV_s,     List.set_cons_zero, List.set_cons_succ, List.map_cons, List.map_nil, List.replicate_succ, List.replicate_zero, List.cons_append, List.nil_append, List.length_cons, List.length_nil]
  generalize hM1 : M ++ [Ob.dct false []] = M1
  have p1 : M <+: M1 := by rw [← hM1]; exact List.prefix_append _ _
  have hf1 : M1[M.length]? = some (.dct false []) := by rw [← hM1]; exact at_new ..
  have hl1 : M1.length = M.length + 1 := by rw [← hM1]; simp
  generalize hfn : M.length = fd at *
  refine sat_mono (holding_ok S k l its M1 (pre_get p1 hM) ok hl) fun v M2 ⟨p2, y, hv, hy0, hy⟩ => ?_
  subst hv
  simp only [walk_lst hy, sat_some, lock_lst, unlk_lst]
  have hlf : (heldOf its).length ≤ 300 := by
    unfold heldOf
    rw [List.length_map]
    have := List.length_filter_le (keepI its) (dd its)
    have := dd_len its
    omega
  have hok : ∀ t ∈ heldOf its, t.ok := fun t ht => by
    unfold heldOf at ht
    obtain ⟨i, hi, rfl⟩ := List.mem_map.mp ht
    exact ok i (dd_mem.mp (List.mem_filter.mp hi).1)
  generalize heldOf its = fs at *
  refine sat_mono (for_rule (Q := fun q M' => ∃ c d, q = (.nx, [some (.ref l), some (.ref fd), c, d]) ∧ M <+: M' ∧ M'[fd]? = some (.dct false (kvOf (cntOf fs))))
    (fun pre post σ M' => ∃ p q : List Bt, fs = p ++ q ∧ post = q.map Bt.v ∧ (∃ c d, σ = [some (.ref l), some (.ref fd), c, d]) ∧ M <+: M' ∧ M'[y]? = some (.lst (fs.map Bt.v)) ∧ M'[fd]? = some (.dct false (kvOf (cntOf p)))) ?_ ?_ _ [] _ _ ⟨[], fs, rfl, rfl, ⟨_, _, rfl⟩, p1.trans p2, hy, pre_get p2 hf1⟩) fun q M3 ⟨c, d, eq, p3, hf3⟩ => ?_
  · rintro pre x post σ M' ⟨p, q, hfs, hq, ⟨c, d, rfl⟩, pm, hyM, hfM⟩
    match q, hq with
    | t :: q, hq =>
    simp only [List.map_cons, List.cons.injEq] at hq
    obtain ⟨rfl, rfl⟩ := hq
    have ht : t ∈ fs := by rw [hfs]; simp
    have okt := hok t ht
    have hlp : p.length ≤ 300 := by rw [hfs] at hlf; simp at hlf; omega
    have hlc : (kvOf (cntOf p)).length ≤ 300 := by
      have := cntOf_len p
      unfold kvOf
      rw [List.length_map]; omega
    have hmp : ∀ u ∈ cntOf p, u ∈ fs := fun u hu => by rw [hfs]; exact List.mem_append_left _ (cntOf_mem hu)
    have hkp : ∀ r ∈ kvOf (cntOf p), keyT r.1 = true := by
      intro r hr
      unfold kvOf at hr
      obtain ⟨u, hu, rfl⟩ := List.mem_map.mp hr
      exact (hok u (hmp u hu)).kk
    refine ⟨stays_lst hyM, _, rfl, ?_⟩
    have e1 := law_thing_ok S (k + 2) t M' okt
    have hkey : Wv.tup [t.thing, .int t.d] = t.key := rfl
    simp only [q_nil, q_cons, k_nx, k_ret, k_brk, k_ct, q_asg, q_asgA, q_asgS, q_aug, q_ex, q_ret, q_retN, q_pass, q_brk, q_cont, q_ifs, q_for, q_whl, b_t, b_f, be_t, be_f, ba_t, ba_f, bo_t, bo_f, t_bl, t_int, t_non,     q_var, q_con, q_glb, q_tup, q_lst, q_dict0, q_bin, q_neg, q_not, q_and, q_or, q_ife, q_cmp, q_cmp2, q_attr, q_sub, q_srev, q_call, q_callk, q_meth, q_bm, q_new, q_bi, q_isi, q_lc, q_dc, q_sortk, q_sortv, q_dict2, q_anil, q_acons, q_ival, q_items, q_vals, q_rng,     o_add, o_sub, o_mul, o_fdiv, o_mod, o_pow18, o_addT, ag_add, ag_sub, c_lt, c_gt, c_le, c_ge, c_eq, c_ne, c_is, c_isn, c_in, c_nin, u_tup, u_scr, n_scr, n_tup, n_str, n_abs, n_min2, n_max2, tg_nm, tg_2, tg_3, at_0, at_1, at_2, at_3, at_4, i_int, sat_some, getV_0, getV_s,     List.set_cons_zero, List.set_cons_succ, List.map_cons, List.map_nil, List.replicate_succ, List.replicate_zero, List.cons_append, List.nil_append, List.length_cons, List.length_nil, e1, sat_ok]
    generalize hN : M' ++ [Ob.dct false [(Wv.str "share", Wv.int 4), (.str "release", .int 5)]] = N
    have pN : M' <+: N := by rw [← hN]; exact List.prefix_append _ _
    have hfN := pre_get pN hfM
    have hyN := pre_get pN hyM
    have hfl : fd < N.length := (List.getElem?_eq_some_iff.mp hfN).1
    have hsub : ∀ N : Mem, subW (Gp S) t.v (.int 1) N = .ok (.int t.d) N := fun N => rfl
    refine sat_of (hsub _) ?_
    simp only [q_nil, q_cons, k_nx, k_ret, k_brk, k_ct, q_asg, q_asgA, q_asgS, q_aug, q_ex, q_ret, q_retN, q_pass, q_brk, q_cont, q_ifs, q_for, q_whl, b_t, b_f, be_t, be_f, ba_t, ba_f, bo_t, bo_f, t_bl, t_int, t_non,     q_var, q_con, q_glb, q_tup, q_lst, q_dict0, q_bin, q_neg, q_not, q_and, q_or, q_ife, q_cmp, q_cmp2, q_attr, q_sub, q_srev, q_call, q_callk, q_meth, q_bm, q_new, q_bi, q_isi, q_lc, q_dc, q_sortk, q_sortv, q_dict2, q_anil, q_acons, q_ival, q_items, q_vals, q_rng,     o_add, o_sub, o_mul, o_fdiv, o_mod, o_pow18, o_addT, ag_add, ag_sub, c_lt, c_gt, c_le, c_ge, c_eq, c_ne, c_is, c_isn, c_in, c_nin, u_tup, u_scr, n_scr, n_tup, n_str, n_abs, n_min2, n_max2, tg_nm, tg_2, tg_3, at_0, at_1, at_2, at_3, at_4, i_int, sat_some, getV_0, getV_s,     List.set_cons_zero, List.set_cons_succ, List.map_cons, List.map_nil, List.replicate_succ, List.replicate_zero, List.cons_append, List.nil_append, List.length_cons, List.length_nil, hkey]
    refine ⟨len_ok (by decide), bmT_get hfN, sat_of (bm_get2 hfN (keyOk_T okt.kk hkp)) ?_⟩
    have fin : ∀ z : Wv, dput (kvOf (cntOf p)) t.key z = kvOf (putB (cntOf p) t) → (setW (.ref fd) t.key z N).sat fun _ M_1 => ∃ p_1 q_1, fs = p_1 ++ q_1 ∧ List.map Bt.v q = List.map Bt.v q_1 ∧ (∃ c' d', [some (Wv.ref l), some (Wv.ref fd), some t.v, some t.key] = [some (Wv.ref l), some (Wv.ref fd), c', d']) ∧ M <+: M_1 ∧ M_1[y]? = some (.lst (fs.map Bt.v)) ∧ M_1[fd]? = some (.dct false (kvOf (cntOf p_1))) := fun z hz' => by
      refine sat_of (set_dct hfN (keyOk_T okt.kk hkp) (by omega)) ⟨p ++ [t], q, by rw [hfs]; simp, rfl, ⟨_, _, rfl⟩, pre_set (pm.trans pN) (by omega), ?_, ?_⟩
      · rw [List.getElem?_set_ne (by omega)]; exact hyN
      · rw [List.getElem?_set_self hfl, cntOf_snoc, hz']
    rcases put_kv (cntOf p) t with ⟨u, hu, h1, h2, h3⟩ | ⟨h1, h2⟩
    · rw [h2]
      have a1 := hal u (hmp u hu) t ht h1
      have a2 := hal t ht u (hmp u hu) h1.symm
      exact sat_of (max2 (hok u (hmp u hu)).pv okt.pv a1 a2) (fin _ h3)
    · rw [h1]
      refine sat_of (max2 okt.pv okt.pv (alike_dat okt.pv) (alike_dat okt.pv)) ?_
      have : gt2 t t = t := by
        rcases gt2_mem t t with e | e <;> exact e
      rw [this]
      exact fin _ h2
  · rintro pre σ M' ⟨p, q, hfs, hq, ⟨c, d, rfl⟩, pm, hyM, hfM⟩
    have : q = [] := by
      cases q with
      | nil => rfl
      | cons _ _ => cases hq
    subst this
    rw [List.append_nil] at hfs
    subst hfs
    exact ⟨stays_lst hyM, c, d, rfl, pm, hfM⟩
  · subst eq
    simp only [q_nil, q_cons, k_nx, k_ret, k_brk, k_ct, q_asg, q_asgA, q_asgS, q_aug, q_ex, q_ret, q_retN, q_pass, q_brk, q_cont, q_ifs, q_for, q_whl, b_t, b_f, be_t, be_f, ba_t, ba_f, bo_t, bo_f, t_bl, t_int, t_non,     q_var, q_con, q_glb, q_tup, q_lst, q_dict0, q_bin, q_neg, q_not, q_and, q_or, q_ife, q_cmp, q_cmp2, q_attr, q_sub, q_srev, q_call, q_callk, q_meth, q_bm, q_new, q_bi, q_isi, q_lc, q_dc, q_sortk, q_sortv, q_dict2, q_anil, q_acons, q_ival, q_items, q_vals, q_rng,     o_add, o_sub, o_mul, o_fdiv, o_mod, o_pow18, o_addT, ag_add, ag_sub, c_lt, c_gt, c_le, c_ge, c_eq, c_ne, c_is, c_isn, c_in, c_nin, u_tup, u_scr, n_scr, n_tup, n_str, n_abs, n_min2, n_max2, tg_nm, tg_2, tg_3, at_0, at_1, at_2, at_3, at_4, i_int, sat_some, getV_0, getV_s,     List.set_cons_zero, List.set_cons_succ, List.map_cons, List.map_nil, List.replicate_succ, List.replicate_zero, List.cons_append, List.nil_append, List.length_cons, List.length_nil]
    have eV : valsOf (.ref fd) M3 = some ((cntOf fs).map Bt.v) := by
      simp only [valsOf, hf3]
      unfold kvOf
      rw [List.map_map]
      rfl
    have eK : mapO (keyOf (Gp S) (.tup (.sub .v 1) .v) M3) ((cntOf fs).map Bt.v) = some ((cntOf fs).map okey) := mapO_map fun t ht => by
      have hp := (hok t (cntOf_mem ht)).pv
      unfold keyOf
      rw [toD_pur hp (by decide)]
      simp only [noL_dat hp, if_true]
      simp only [keyD, Bt.v, dat, dats, okey]
      rfl
    refine sat_of (a := .ref M3.length) (M := M3 ++ [.lst (sf.map Bt.v)]) ?_ ?_
    · simp only [eV, Option.bind_some, eK, hs, newL, List.length_map, len_ok (show sf.length ≤ sizeLine by omega), Out.chk]
    · refine ⟨pre_snoc p3 _, _, rfl, ?_, at_new ..⟩
      have := pre_len p3
      omega
/-! ### in force: the same -/
theorem itm_dep (i : Itm) : i.tr.dep = if i.1 = true then 1 else 0 := by
  unfold Itm.tr
  split <;> rfl
theorem gone_mem {its : List Itm} (ok : ItOk its) : ∀ (vs : List Itm) (g : List Wv), (∀ i ∈ vs, i ∈ its ∧ i.1 = true) → (∀ x ∈ g, ∃ t : Bt, t.ok ∧ x = t.v) → ∀ x, x ∈ (vs.map Itm.w).foldl stepG g ↔ x ∈ g ∨ ∃ i ∈ vs, x = i.2.v := by
  intro vs
  induction vs with
  | nil => intro g _ _ x; simp
  | cons i vs ih =>
    intro g hv hg x
    obtain ⟨hi, hz⟩ := hv i (List.mem_cons_self ..)
    have ew : i.w = vdW i.2.v := by unfold Itm.w; rw [if_pos hz]
    have hnot : i.w ∉ g := fun h => by
      obtain ⟨t, ht, e⟩ := hg _ h
      rw [ew] at e
      exact vd_ne ht e
    have es : stepG g i.w = addK g i.2.v := by
      rw [stepG_out hnot, ew]
      rfl
    have hmem : ∀ y, y ∈ addK g i.2.v ↔ y ∈ g ∨ y = i.2.v := fun y => by
      unfold addK
      split
      · rename_i h
        constructor
        · exact .inl
        · rintro (h1 | h1)
          · exact h1
          · rw [h1]; exact h
      · simp
    rw [List.map_cons, List.foldl_cons, es, ih _ (fun j hj => hv j (List.mem_cons_of_mem _ hj)) (fun y hy => ?_) x]
    · rw [hmem]
      simp only [List.mem_cons, exists_eq_or_imp, or_assoc]
    · rcases (hmem y).mp hy with h | h
      · exact hg y h
      · exact ⟨i.2, ok i hi, h⟩
theorem held_force {its : List Itm} (ok : ItOk its) : (forceOf ((dd its).map Itm.tr)).map Tr.w = (heldOf its).map Bt.v := by
  have lay : ∀ n, layer ((dd its).map Itm.tr) n = ((dd its).filter fun i => decide (i.tr.dep = n)).map Itm.w := fun n => by
    unfold layer
    rw [List.filter_map, List.map_map]
    refine List.map_congr_left fun i _ => ?_
    exact i.tr_w
  have lay2 : ∀ n, layer ((dd its).map Itm.tr) (n + 2) = [] := fun n => by
    rw [lay, List.filter_eq_nil_iff.mpr]
    · rfl
    · intro i _ h
      have := of_decide_eq_true h
      rw [itm_dep] at this
      split at this <;> omega
  have hgone : ∀ x, x ∈ goneOf ((dd its).map Itm.tr) ↔ ∃ i ∈ its, i.1 = true ∧ x = i.2.v := fun x => by
    unfold goneOf
    rw [lay2 0, lay2 1, lay 1, List.foldl_nil, List.foldl_nil, gone_mem ok]
    · constructor
      · rintro (h | ⟨i, hi, e⟩)
        · cases h
        · obtain ⟨h1, h2⟩ := List.mem_filter.mp hi
          have h3 := of_decide_eq_true h2
          rw [itm_dep] at h3
          refine ⟨i, dd_mem.mp h1, ?_, e⟩
          by_cases z : i.1 = true
          · exact z
          · rw [if_neg z] at h3; cases h3
      · rintro ⟨i, hi, hz, e⟩
        refine .inr ⟨i, List.mem_filter.mpr ⟨dd_mem.mpr hi, decide_eq_true ?_⟩, e⟩
        rw [itm_dep, if_pos hz]
    · intro i hi
      obtain ⟨h1, h2⟩ := List.mem_filter.mp hi
      have h3 := of_decide_eq_true h2
      rw [itm_dep] at h3
      refine ⟨dd_mem.mp h1, ?_⟩
      by_cases z : i.1 = true
      · exact z
      · rw [if_neg z] at h3; cases h3
    · intro x hx; cases hx
  unfold forceOf heldOf
  rw [List.filter_map, List.map_map, List.map_map]
  have hff : ∀ i ∈ dd its, ((fun t => decide (t.dep = 0) && decide (t.w ∉ goneOf ((dd its).map Itm.tr))) ∘ Itm.tr) i = keepI its i := fun i hi => by
    have oki := ok i (dd_mem.mp hi)
    obtain ⟨z, t⟩ := i
    simp only [Function.comp_def, Itm.tr_w, itm_dep]
    cases z with
    | true => simp [keepI]
    | false =>
      have e : (Itm.w (false, t)) = t.v := rfl
      have h2 : t.v ∉ goneOf ((dd its).map Itm.tr) ↔ (true, t) ∉ its := by
        rw [hgone]
        constructor
        · exact fun h z => h ⟨_, z, rfl, rfl⟩
        · rintro h ⟨⟨z, u⟩, hi, hz, e⟩
          simp only at hz e
          subst hz
          rw [bt_v_inj e] at h
          exact h hi
      rw [e]
      simp only [keepI, h2]
      rfl
  rw [List.filter_congr hff]
  refine List.map_congr_left fun i hi => ?_
  have := (List.mem_filter.mp hi).2
  unfold keepI at this
  rw [Bool.and_eq_true] at this
  simp only [Function.comp_def, Itm.tr_w]
  unfold Itm.w
  rw [if_neg (by simpa using this.1)]
end Bh
end
section
set_option Elab.async false
set_option linter.all false
set_option maxRecDepth 100000
set_option maxHeartbeats 0
namespace Bh
open PySem MP
/-! ### rows of one thing -/
theorem addRow_nodup {R : List (Wv × List Wv)} {k v : Wv} (h : (R.map (·.1)).Nodup) : ((addRow R k v).map (·.1)).Nodup := by
  induction R with
  | nil => simp [addRow]
  | cons p R ih =>
    rw [List.map_cons, List.nodup_cons] at h
    simp only [addRow]
    split
    · rw [List.map_cons, List.nodup_cons]; exact h
    · rename_i e
      rw [List.map_cons, List.nodup_cons]
      refine ⟨fun z => ?_, ih h.2⟩
      obtain ⟨q, hq, e2⟩ := List.mem_map.mp z
      rcases addRow_keys q hq with h1 | ⟨u, hu, e3⟩
      · exact e (by rw [← e2, h1])
      · exact h.1 (List.mem_map.mpr ⟨u, hu, by rw [e3, e2]⟩)
theorem ofRows_none {w : Str} {n : Option Str} {R : List (Wv × List Wv)} (h : ∀ p ∈ R, ofHit w n p.1 = false) : ofRows w n R = [] := by
  induction R with
  | nil => rfl
  | cons p R ih =>
    simp only [ofRows, h p (List.mem_cons_self ..), Bool.false_eq_true, if_false]
    exact ih fun q hq => h q (List.mem_cons_of_mem _ hq)
theorem ofRows_add {w : Str} {n : Option Str} {K : Wv} {R : List (Wv × List Wv)} {k v : Wv} (hn : (R.map (·.1)).Nodup) (hR : ∀ p ∈ R, ofHit w n p.1 = true ↔ p.1 = K) (hk : ofHit w n k = true ↔ k = K) : ofRows w n (addRow R k v) = if k = K then ofRows w n R ++ [v] else ofRows w n R := by
  induction R with
  | nil =>
    simp only [addRow, ofRows]
    by_cases c : k = K
    · rw [if_pos c, if_pos (hk.mpr c)]; rfl
    · rw [if_neg c, if_neg (fun z => c (hk.mp z))]
  | cons p R ih =>
    rw [List.map_cons, List.nodup_cons] at hn
    have hp := hR p (List.mem_cons_self ..)
    have hR' := fun q hq => hR q (List.mem_cons_of_mem _ hq)
    simp only [addRow]
    by_cases e : p.1 = k
    · rw [if_pos e]
      simp only [ofRows]
      by_cases c : k = K
      · have h1 : ofHit w n p.1 = true := hp.mpr (e.trans c)
        rw [if_pos c, if_pos h1, if_pos h1]
        have : ofRows w n R = [] := ofRows_none fun q hq => by
          cases h2 : ofHit w n q.1 with
          | false => rfl
          | true =>
            exact absurd (List.mem_map.mpr ⟨q, hq, ((hR' q hq).mp h2).trans (e.trans c).symm⟩) hn.1
        rw [this]
        simp
      · have h1 : ¬ ofHit w n p.1 = true := fun z => c (e.symm.trans (hp.mp z))
        rw [if_neg c, if_neg h1, if_neg h1]
    · rw [if_neg e]
      simp only [ofRows]
      rw [ih hn.2 hR']
      by_cases c : k = K
      · rw [if_pos c, if_pos c]
        split
        · rw [List.append_assoc]
        · rfl
      · rw [if_neg c, if_neg c]
theorem rowsOf_snoc (p : List Bt) (t : Bt) : rowsOf (p ++ [t]) = addRow (rowsOf p) t.thing t.v := by unfold rowsOf; simp
theorem rowsOf_facts (sk : List Bt) : ((rowsOf sk).map (·.1)).Nodup ∧ ∀ p ∈ rowsOf sk, ∃ t ∈ sk, p.1 = t.thing := by
  have key : ∀ (q p : List Bt), ((rowsOf p).map (·.1)).Nodup ∧ (∀ r ∈ rowsOf p, ∃ t ∈ p, r.1 = t.thing) → ((rowsOf (p ++ q)).map (·.1)).Nodup ∧ ∀ r ∈ rowsOf (p ++ q), ∃ t ∈ p ++ q, r.1 = t.thing := by
    intro q
    induction q with
    | nil => intro p h; rw [List.append_nil]; exact h
    | cons t q ih =>
      intro p ⟨h1, h2⟩
      have : p ++ t :: q = (p ++ [t]) ++ q := by simp
      rw [this]
      refine ih _ ⟨?_, fun r hr => ?_⟩
      · rw [rowsOf_snoc]; exact addRow_nodup h1
      · rw [rowsOf_snoc] at hr
        rcases addRow_keys r hr with h | ⟨u, hu, e⟩
        · exact ⟨t, by simp, h⟩
        · obtain ⟨x, hx, e2⟩ := h2 u hu
          exact ⟨x, List.mem_append_left _ hx, by rw [← e, e2]⟩
  exact key sk [] ⟨List.nodup_nil, fun r hr => by cases hr⟩
theorem ofRows_rowsOf {w : Str} {n : Option Str} {K : Wv} (sk : List Bt) (h : ∀ t ∈ sk, ofHit w n t.thing = true ↔ t.thing = K) : ofRows w n (rowsOf sk) = (sk.filter fun t => decide (t.thing = K)).map Bt.v := by
  have key : ∀ (q p : List Bt), (∀ t ∈ p ++ q, ofHit w n t.thing = true ↔ t.thing = K) → ofRows w n (rowsOf p) = (p.filter fun t => decide (t.thing = K)).map Bt.v → ofRows w n (rowsOf (p ++ q)) = ((p ++ q).filter fun t => decide (t.thing = K)).map Bt.v := by
    intro q
    induction q with
    | nil => intro p _ h; rw [List.append_nil]; exact h
    | cons t q ih =>
      intro p hh he
      have e : p ++ t :: q = (p ++ [t]) ++ q := by simp
      rw [e] at hh ⊢
      refine ih _ hh ?_
      obtain ⟨f1, f2⟩ := rowsOf_facts p
      rw [rowsOf_snoc, ofRows_add f1 (fun r hr => ?_) (hh t (by simp)), he, List.filter_append, List.map_append]
      · by_cases c : t.thing = K
        · rw [if_pos c]; simp [c]
        · rw [if_neg c]; simp [c]
      · obtain ⟨x, hx, e2⟩ := f2 r hr
        rw [e2]
        exact hh x (by simp [hx])
  exact key sk [] h rfl
/-! ### readings at two places -/
def plS (z : Bool) : Str := if z = true then "b" else "a"
def rq (z : Bool) (p : Int × Int) : Bt := rdT (plS z) p
def RdB (t : Bt) : Prop := ∃ z p, t = rq z p ∧ 0 ≤ p.1 ∧ p.1 ≤ 9000 ∧ 0 ≤ p.2
def plI (t : Bt) : Int := if t.xs.take 1 = [.str "b"] then 1 else 0
def m1 (t : Bt) : Int := 2 * t.d + plI t
def m2 (t : Bt) : Int := 10000 * plI t + t.d
def amt (t : Bt) : Int := match t.xs with
  | [_, .int a] => a
  | _ => 0
def thA : Wv := .tup [.str "read", .str "a"]
theorem b_strOk : PyData.strOk ("b" : Str) = true := by decide +kernel
theorem plS_ok (z : Bool) : PyData.strOk (plS z) = true := by
  cases z
  · exact pl_a.st
  · exact b_strOk
theorem ab_ne : ¬ ("a" : Str) = ("b" : Str) := by decide +kernel
theorem plI_rq (z : Bool) (p : Int × Int) : plI (rq z p) = if z = true then 1 else 0 := by
  cases z
  · show (if [Wv.str "a"] = [Wv.str "b"] then (1 : Int) else 0) = 0
    rw [if_neg]
    intro h
    simp only [List.cons.injEq, Wv.str.injEq, and_true] at h
    exact ab_ne h
  · show (if [Wv.str "b"] = [Wv.str "b"] then (1 : Int) else 0) = 1
    rw [if_pos rfl]
theorem rq_tn (z : Bool) (p : Int × Int) : (rq z p).tn = 1 := by
  have h1 : ¬ ("read" : Str) = ("share" : Str) := by decide +kernel
  have h2 : ¬ ("read" : Str) = ("release" : Str) := by decide +kernel
  show (if ("read" : Str) = ("share" : Str) then 2 else if ("read" : Str) = ("release" : Str) then 3 else 1) = 1
  rw [if_neg h1, if_neg h2]
theorem rq_thing (z : Bool) (p : Int × Int) : (rq z p).thing = .tup [.str "read", .str (plS z)] := by
  unfold Bt.thing
  rw [rq_tn]
  rfl
theorem rq_key (z : Bool) (p : Int × Int) : (rq z p).key = .tup [.tup [.str "read", .str (plS z)], .int p.1] := by
  unfold Bt.key
  rw [rq_thing]
  rfl
theorem rq_ok (z : Bool) (p : Int × Int) : (rq z p).ok := by
  refine ⟨by show ¬ ("read" : Str) = "void"; decide +kernel, read_shaped, ?_, rd_pur (plS_ok z) p, ?_, ?_, ?_⟩
  · rw [rq_tn]; show 1 ≤ 2; omega
  · rw [rq_thing]; rfl
  · rw [rq_key]; rfl
  · rw [rq_key]
    simp only [pur, purs, read_strOk, plS_ok, Bool.and_self]
theorem rq_alike (z y : Bool) (p q : Int × Int) : W.alike (dat (rq z p).v) (dat (rq y q).v) = true := by
  simp [dat, dats, Bt.v, rq, rdT, W.alike, W.alikeAll]
theorem str_lt_ab : W.dataLt (.str "a") (.str "b") = true := by
  rw [W.dataLt_str]
  decide +kernel
theorem str_lt_ba : W.dataLt (.str "b") (.str "a") = false := by
  rw [W.dataLt_str]
  decide +kernel
theorem eqv_str (i j : Str) : PyData.eqv (.str i) (.str j) = decide (i = j) := by
  simp only [PyData.eqv]
  by_cases h : i = j
  · subst h; simp
  · simp [h]
theorem key_lt (z y : Bool) (p q : Int × Int) (hp : 0 ≤ p.1 ∧ p.1 ≤ 9000) (hq : 0 ≤ q.1 ∧ q.1 ≤ 9000) : W.dataLt (dat (rq z p).key) (dat (rq y q).key) = decide (m2 (rq z p) < m2 (rq y q)) := by
  unfold m2
  rw [plI_rq, plI_rq, rq_key, rq_key]
  have hd1 : (rq z p).d = p.1 := rfl
  have hd2 : (rq y q).d = q.1 := rfl
  rw [hd1, hd2]
  simp only [dat, dats]
  rw [W.dataLt_pair (by simp [W.alike, W.alikeAll]) (by simp [W.alike]), W.dataLt_pair (by simp [W.alike]) (by simp [W.alike])]
  have e1 : PyData.eqv (.tuple [.str "read", .str (plS z)]) (.tuple [.str "read", .str (plS y)]) = decide (plS z = plS y) := by
    simp only [PyData.eqv, PyData.eqvAll]
    by_cases h : plS z = plS y
    · rw [h]; simp
    · simp [h]
  rw [e1, eqv_int, eqv_str, eqv_str, W.dataLt_int, decide_eq_true (show ("read" : Str) = "read" from rfl)]
  simp only [if_true]
  have hab : ¬ plS false = plS true := ab_ne
  have hba : ¬ plS true = plS false := fun e => ab_ne e.symm
  have same : ∀ c : Int, (if decide (p.1 = q.1) = true then false else decide (p.1 < q.1)) = decide (c + p.1 < c + q.1) := fun c => by
    by_cases e : p.1 = q.1
    · rw [decide_eq_true e, if_pos rfl, decide_eq_false (by omega)]
    · rw [decide_eq_false e, if_neg (by simp)]
      by_cases f : p.1 < q.1
      · rw [decide_eq_true f, decide_eq_true (by omega)]
      · rw [decide_eq_false f, decide_eq_false (by omega)]
  cases z <;> cases y
  · rw [decide_eq_true rfl, if_pos rfl]
    exact same _
  · rw [decide_eq_false hab, if_neg (by simp), if_neg (by simp)]
    show W.dataLt (.str "a") (.str "b") = _
    rw [str_lt_ab, decide_eq_true (by simp; omega)]
  · rw [decide_eq_false hba, if_neg (by simp), if_neg (by simp)]
    show W.dataLt (.str "b") (.str "a") = _
    rw [str_lt_ba, decide_eq_false (by simp; omega)]
  · rw [decide_eq_true rfl, if_pos rfl]
    exact same _
theorem okey_lt (z y : Bool) (p q : Int × Int) (h : (rq z p).key = (rq y q).key → rq z p = rq y q) : W.dataLt (okey (rq z p)) (okey (rq y q)) = decide (m1 (rq z p) < m1 (rq y q)) := by
  unfold m1
  rw [plI_rq, plI_rq]
  have hd1 : (rq z p).d = p.1 := rfl
  have hd2 : (rq y q).d = q.1 := rfl
  unfold okey
  rw [hd1, hd2, W.dataLt_pair (by simp [W.alike]) (rq_alike z y p q), eqv_int, W.dataLt_int]
  by_cases e : p.1 = q.1
  · rw [decide_eq_true e, if_pos rfl]
    by_cases c : z = y
    · subst c
      have := h (by rw [rq_key, rq_key, e])
      rw [this]
      have e2 := eqv_dat (rd_pur (plS_ok z) q) (rd_pur (plS_ok z) q)
      rw [decide_eq_true rfl] at e2
      have e3 : PyData.eqv (dat (rq z q).v) (dat (rq z q).v) = true := e2
      rw [e3, if_pos rfl, decide_eq_false (by omega)]
    · have hab : ¬ plS false = plS true := ab_ne
      have hba : ¬ plS true = plS false := fun e => ab_ne e.symm
      have ne : ¬ plS z = plS y := by
        cases z <;> cases y
        · exact absurd rfl c
        · exact hab
        · exact hba
        · exact absurd rfl c
      have e4 : PyData.eqv (dat (rq z p).v) (dat (rq y q).v) = false := by
        have := eqv_dat (rd_pur (plS_ok z) p) (rd_pur (plS_ok y) q)
        rw [decide_eq_false] at this
        · exact this
        · intro h
          simp only [rdT, Bt.v, Wv.tup.injEq, List.cons.injEq, Wv.str.injEq] at h
          exact ne h.2.2.1
      rw [e4, if_neg (by simp)]
      have e5 : W.dataLt (dat (rq z p).v) (dat (rq y q).v) = W.dataLt (.str (plS z)) (.str (plS y)) := by
        show W.dataLt (.tuple [.str "read", .int p.1, .str (plS z), .int p.2]) (.tuple [.str "read", .int q.1, .str (plS y), .int q.2]) = _
        rw [W.dataLt_tuple, W.dataLt_cons (by simp [W.alike]), eqv_str, decide_eq_true (show ("read" : Str) = "read" from rfl), if_pos rfl, W.dataLt_cons (by simp [W.alike]), eqv_int, decide_eq_true e, if_pos rfl, W.dataLt_cons (by simp [W.alike]), eqv_str, decide_eq_false ne, if_neg (by simp)]
      rw [e5]
      cases z <;> cases y
      · exact absurd rfl c
      · show W.dataLt (.str "a") (.str "b") = _
        rw [str_lt_ab, decide_eq_true (by simp; omega)]
      · show W.dataLt (.str "b") (.str "a") = _
        rw [str_lt_ba, decide_eq_false (by simp; omega)]
      · exact absurd rfl c
  · rw [decide_eq_false e, if_neg (by simp)]
    cases z <;> cases y <;> simp only [Bool.false_eq_true, if_false, if_true] <;>
    · by_cases f : p.1 < q.1
      · rw [decide_eq_true f, decide_eq_true (by omega)]
      · rw [decide_eq_false f, decide_eq_false (by omega)]
end Bh
end
section
set_option Elab.async false
set_option linter.all false
set_option maxRecDepth 100000
set_option maxHeartbeats 0
namespace Bh
open PySem MP
/-! ### the world of the law -/
def srt (m : Bt → Int) (cf : List Bt) : List Bt := cf.mergeSort fun a b => decide (m a ≤ m b)
theorem srt_perm (m : Bt → Int) (cf : List Bt) : cf.Perm (srt m cf) := (List.mergeSort_perm _ _).symm
theorem srt_pw {m : Bt → Int} {cf : List Bt} (h : cf.Pairwise fun a b => m a ≠ m b) : (srt m cf).Pairwise fun a b => m a < m b := by
  have h1 : (srt m cf).Pairwise fun a b => m a ≤ m b := by
    have := List.pairwise_mergeSort (le := fun a b => decide (m a ≤ m b)) (fun a b c h1 h2 => by
      have g1 := of_decide_eq_true h1
      have g2 := of_decide_eq_true h2
      exact decide_eq_true (by omega)) (fun a b => by
      by_cases h : m a ≤ m b
      · rw [decide_eq_true h]; rfl
      · rw [decide_eq_true (show m b ≤ m a by omega), Bool.or_true]) cf
    exact this.imp fun h => of_decide_eq_true h
  have h2 : (srt m cf).Pairwise fun a b => m a ≠ m b := ((srt_perm m cf).pairwise_iff (fun h => Ne.symm h)).mp h
  exact (h1.and h2).imp fun ⟨a, b⟩ => by omega
theorem m1_inj {u t : Bt} (hu : RdB u) (ht : RdB t) (h : m1 u = m1 t) : u.key = t.key := by
  obtain ⟨z, p, rfl, a1, a2, a3⟩ := hu
  obtain ⟨y, q, rfl, b1, b2, b3⟩ := ht
  unfold m1 at h
  rw [plI_rq, plI_rq] at h
  have hd1 : (rq z p).d = p.1 := rfl
  have hd2 : (rq y q).d = q.1 := rfl
  rw [hd1, hd2] at h
  rw [rq_key, rq_key]
  cases z <;> cases y <;> simp only [Bool.false_eq_true, if_false, if_true] at h
  · rw [show p.1 = q.1 by omega]
  · omega
  · omega
  · rw [show p.1 = q.1 by omega]
theorem m2_inj {u t : Bt} (hu : RdB u) (ht : RdB t) (h : m2 u = m2 t) : u.key = t.key := by
  obtain ⟨z, p, rfl, a1, a2, a3⟩ := hu
  obtain ⟨y, q, rfl, b1, b2, b3⟩ := ht
  unfold m2 at h
  rw [plI_rq, plI_rq] at h
  have hd1 : (rq z p).d = p.1 := rfl
  have hd2 : (rq y q).d = q.1 := rfl
  rw [hd1, hd2] at h
  rw [rq_key, rq_key]
  cases z <;> cases y <;> simp only [Bool.false_eq_true, if_false, if_true] at h
  · rw [show p.1 = q.1 by omega]
  · omega
  · omega
  · rw [show p.1 = q.1 by omega]
theorem pw_ne {m : Bt → Int} {cf : List Bt} (hk : (cf.map Bt.key).Nodup) (h : ∀ u ∈ cf, ∀ t ∈ cf, m u = m t → u.key = t.key) : cf.Pairwise fun a b => m a ≠ m b := by
  rw [List.nodup_iff_pairwise_ne, List.pairwise_map] at hk
  exact hk.imp_of_mem fun ha hb hne e => hne (h _ ha _ hb e)
theorem key_inj {cf : List Bt} (hk : (cf.map Bt.key).Nodup) {u t : Bt} (hu : u ∈ cf) (ht : t ∈ cf) (e : u.key = t.key) : u = t := by
  induction cf with
  | nil => cases hu
  | cons x cf ih =>
    rw [List.map_cons, List.nodup_cons] at hk
    rcases List.mem_cons.mp hu with hu | hu
    · rcases List.mem_cons.mp ht with ht | ht
      · rw [hu, ht]
      · exact absurd (List.mem_map.mpr ⟨t, ht, by rw [← e, hu]⟩) hk.1
    · rcases List.mem_cons.mp ht with ht | ht
      · exact absurd (List.mem_map.mpr ⟨u, hu, by rw [e, ht]⟩) hk.1
      · exact ih hk.2 hu ht
/-- all that is known of the items -/
structure I29 (its : List Itm) : Prop where
  rd : ∀ i ∈ its, RdB i.2
  len : its.length ≤ 60
theorem I29.ok {its : List Itm} (h : I29 its) : ItOk its := fun i hi => by
  obtain ⟨z, p, e, _⟩ := h.rd i hi
  rw [e]; exact rq_ok z p
def cfO (its : List Itm) : List Bt := cntOf (heldOf its)
theorem held_mem {its : List Itm} {t : Bt} (h : t ∈ heldOf its) : ∃ i ∈ its, i.2 = t := by
  unfold heldOf at h
  obtain ⟨i, hi, e⟩ := List.mem_map.mp h
  exact ⟨i, dd_mem.mp (List.mem_filter.mp hi).1, e⟩
theorem I29.held {its : List Itm} (h : I29 its) : ∀ t ∈ heldOf its, RdB t := fun t ht => by
  obtain ⟨i, hi, e⟩ := held_mem ht
  rw [← e]; exact h.rd i hi
theorem I29.cf {its : List Itm} (h : I29 its) : ∀ t ∈ cfO its, RdB t := fun t ht => h.held t (cntOf_mem ht)
theorem held_len (its : List Itm) : (heldOf its).length ≤ its.length := by
  unfold heldOf
  rw [List.length_map]
  have := List.length_filter_le (keepI its) (dd its)
  have := dd_len its
  omega
theorem I29.cl {its : List Itm} (h : I29 its) : (cfO its).length ≤ 60 := by
  have := cntOf_len (heldOf its)
  have := held_len its
  have := h.len
  unfold cfO
  omega
theorem I29.alk {its : List Itm} (h : I29 its) : Alk (heldOf its) := fun u hu t ht _ => by
  obtain ⟨z, p, rfl, _⟩ := h.held u hu
  obtain ⟨y, q, rfl, _⟩ := h.held t ht
  exact rq_alike z y p q
theorem I29.sf {its : List Itm} (h : I29 its) : (srt m1 (cfO its)).Pairwise fun a b => m1 a < m1 b := srt_pw (pw_ne (cntOf_nodup _) fun u hu t ht e => m1_inj (h.cf u hu) (h.cf t ht) e)
theorem I29.sk {its : List Itm} (h : I29 its) : (srt m2 (cfO its)).Pairwise fun a b => m2 a < m2 b := srt_pw (pw_ne (cntOf_nodup _) fun u hu t ht e => m2_inj (h.cf u hu) (h.cf t ht) e)
theorem I29.sort1 {its : List Itm} (h : I29 its) : sortBy ((cfO its).map okey) ((cfO its).map Bt.v) = some ((srt m1 (cfO its)).map Bt.v) := by
  refine sortBy_int m1 (srt_perm _ _) h.sf (fun u hu t ht => ?_) (alikeAllB_map fun u hu t ht => ?_) (sortableB_tup fun a _ => ⟨_, _, rfl⟩) (dcap_map fun u hu => ?_)
  · have hinj := key_inj (cntOf_nodup (heldOf its)) hu ht
    obtain ⟨z, p, rfl, _⟩ := h.cf u hu
    obtain ⟨y, q, rfl, _⟩ := h.cf t ht
    exact okey_lt z y p q hinj
  · obtain ⟨z, p, rfl, _⟩ := h.cf u hu
    obtain ⟨y, q, rfl, _⟩ := h.cf t ht
    simp [okey, dat, dats, Bt.v, rq, rdT, W.alike, W.alikeAll]
  · obtain ⟨z, p, rfl, _⟩ := h.cf u hu
    simp [okey, dat, dats, Bt.v, rq, rdT, PyData.depth, PyData.depthAll]
theorem I29.sort2 {its : List Itm} (h : I29 its) : sortBy (((cfO its).map Bt.key).map dat) ((cfO its).map Bt.key) = some ((srt m2 (cfO its)).map Bt.key) := by
  rw [List.map_map]
  refine sortBy_int (f := dat ∘ Bt.key) (g := Bt.key) m2 (srt_perm _ _) h.sk (fun u hu t ht => ?_) (alikeAllB_map fun u hu t ht => ?_) (sortableB_tup fun u hu => ?_) (dcap_map fun u hu => ?_)
  · obtain ⟨z, p, rfl, a1, a2, _⟩ := h.cf u hu
    obtain ⟨y, q, rfl, b1, b2, _⟩ := h.cf t ht
    exact key_lt z y p q ⟨a1, a2⟩ ⟨b1, b2⟩
  · obtain ⟨z, p, rfl, _⟩ := h.cf u hu
    obtain ⟨y, q, rfl, _⟩ := h.cf t ht
    simp only [Function.comp_def, rq_key]
    simp [dat, dats, W.alike, W.alikeAll]
  · obtain ⟨z, p, rfl, _⟩ := h.cf u hu
    simp only [Function.comp_def, rq_key]
    exact ⟨_, _, rfl⟩
  · obtain ⟨z, p, rfl, _⟩ := h.cf u hu
    simp only [Function.comp_def, rq_key]
    simp [dat, dats, PyData.depth, PyData.depthAll]
def isA (t : Bt) : Bool := decide (t.thing = thA)
def rdOf (its : List Itm) : List (Int × Int) := ((srt m1 (cfO its)).filter isA).map fun t => (t.d, amt t)
theorem isA_rq {t : Bt} (h : RdB t) (ha : isA t = true) : t = rdT "a" (t.d, amt t) ∧ m1 t = 2 * t.d ∧ m2 t = t.d ∧ 0 ≤ t.d ∧ t.d ≤ 9000 ∧ 0 ≤ amt t := by
  obtain ⟨z, p, rfl, a1, a2, a3⟩ := h
  cases z with
  | true =>
    have := of_decide_eq_true ha
    rw [rq_thing] at this
    simp only [thA, Wv.tup.injEq, List.cons.injEq, Wv.str.injEq, and_true, true_and] at this
    exact absurd this.symm ab_ne
  | false =>
    refine ⟨rfl, ?_, ?_, a1, a2, a3⟩
    · unfold m1; rw [plI_rq]; simp
    · unfold m2; rw [plI_rq]; simp
theorem I29.fsf {its : List Itm} (h : I29 its) : ∀ t ∈ (srt m1 (cfO its)).filter isA, RdB t ∧ isA t = true := fun t ht => by
  obtain ⟨h1, h2⟩ := List.mem_filter.mp ht
  exact ⟨h.cf t ((srt_perm m1 _).symm.subset h1), h2⟩
theorem I29.asc {its : List Itm} (h : I29 its) : Asc (rdOf its) := by
  refine ⟨?_, ?_, fun p hp => ?_⟩
  · unfold rdOf
    rw [List.pairwise_map]
    refine (h.sf.filter isA).imp_of_mem fun {a b} ha hb hlt => ?_
    obtain ⟨r1, r2⟩ := h.fsf a ha
    obtain ⟨s1, s2⟩ := h.fsf b hb
    have e1 := (isA_rq r1 r2).2.1
    have e2 := (isA_rq s1 s2).2.1
    show a.d < b.d
    omega
  · unfold rdOf
    rw [List.length_map]
    have := List.length_filter_le isA (srt m1 (cfO its))
    have := (srt_perm m1 (cfO its)).length_eq
    have := h.cl
    omega
  · unfold rdOf at hp
    obtain ⟨t, ht, rfl⟩ := List.mem_map.mp hp
    obtain ⟨r1, r2⟩ := h.fsf t ht
    exact (isA_rq r1 r2).2.2.2.2.2
theorem I29.bd {its : List Itm} (h : I29 its) : ∀ p ∈ rdOf its, 0 ≤ p.1 ∧ p.1 ≤ 9999 := fun p hp => by
  unfold rdOf at hp
  obtain ⟨t, ht, rfl⟩ := List.mem_map.mp hp
  obtain ⟨r1, r2⟩ := h.fsf t ht
  have := isA_rq r1 r2
  exact ⟨this.2.2.2.1, by have := this.2.2.2.2.1; show t.d ≤ 9999; omega⟩
theorem I29.filt {its : List Itm} (h : I29 its) : (srt m1 (cfO its)).filter isA = (rdOf its).map (rdT "a") := by
  unfold rdOf
  rw [List.map_map]
  conv => lhs; rw [← List.map_id ((srt m1 (cfO its)).filter isA)]
  refine List.map_congr_left fun t ht => ?_
  obtain ⟨r1, r2⟩ := h.fsf t ht
  exact (isA_rq r1 r2).1
theorem I29.same {its : List Itm} (h : I29 its) : (srt m2 (cfO its)).filter isA = (srt m1 (cfO its)).filter isA := by
  have hp : ((srt m2 (cfO its)).filter isA).Perm ((srt m1 (cfO its)).filter isA) := ((srt_perm m2 _).symm.trans (srt_perm m1 _)).filter isA
  have mem2 : ∀ t ∈ (srt m2 (cfO its)).filter isA, RdB t ∧ isA t = true := fun t ht => h.fsf t (hp.subset ht)
  refine List.Perm.eq_of_pairwise (le := fun a b => a.d ≤ b.d) (fun a b ha hb h1 h2 => ?_) ?_ ?_ hp
  · obtain ⟨r1, r2⟩ := mem2 a ha
    obtain ⟨s1, s2⟩ := h.fsf b hb
    have e1 := (isA_rq r1 r2).2.1
    have e2 := (isA_rq s1 s2).2.1
    exact pw_inj h.sf (List.mem_filter.mp (hp.subset ha)).1 (List.mem_filter.mp hb).1 (by omega)
  · refine (h.sk.filter isA).imp_of_mem fun {a b} ha hb hlt => ?_
    obtain ⟨r1, r2⟩ := mem2 a ha
    obtain ⟨s1, s2⟩ := mem2 b hb
    have e1 := (isA_rq r1 r2).2.2.1
    have e2 := (isA_rq s1 s2).2.2.1
    omega
  · refine (h.sf.filter isA).imp_of_mem fun {a b} ha hb hlt => ?_
    obtain ⟨r1, r2⟩ := h.fsf a ha
    obtain ⟨s1, s2⟩ := h.fsf b hb
    have e1 := (isA_rq r1 r2).2.1
    have e2 := (isA_rq s1 s2).2.1
    omega
theorem k29_world (S : List Int) (k l : Nat) (its : List Itm) (M : Mem) (hM : M[l]? = some (.lst (its.map Itm.w))) (h : I29 its) :
    (newW (Gp S) (callN (Gp S) fuel (k + 3)) ci_World [.ref l] M).sat fun v M' => M <+: M' ∧ ∃ s, v = .ref s ∧ WRd M' s "a" (rdOf its) ∧ WRd M' s "zz" [] := by
  have hl := h.len
  have hk1 : ∀ i ∈ its, keyT i.w = true ∧ keyT (inner i.w) = true := fun i hi => by
    obtain ⟨b, t⟩ := i
    obtain ⟨z, p, e, _⟩ := h.rd _ hi
    simp only at e
    subst e
    cases b <;> exact ⟨rfl, rfl⟩
  refine sat_mono (world_new S k l (its.map Itm.w) ((dd its).map Itm.tr) (heldOf its) (srt m2 (cfO its)) M hM (fun t ht => ?_) (by simp; omega) ?_ ⟨fun t ht => ?_, ?_⟩ (held_force h.ok) (fun t ht => ?_) h.alk (by have := held_len its; omega) h.sort2 (fun t ht => (srt_perm m2 _).symm.subset ht) ?_) fun v M' ⟨p, s, hv, hW⟩ => ?_
  · obtain ⟨i, hi, rfl⟩ := List.mem_map.mp ht
    exact (hk1 i hi).1
  · rw [dd_keys h.ok, List.map_map]
    exact List.map_congr_left fun i _ => i.tr_w.symm
  · obtain ⟨i, hi, rfl⟩ := List.mem_map.mp ht
    have hi := dd_mem.mp hi
    refine ⟨?_, ?_, ?_⟩
    · have := h.ok i hi
      unfold Itm.tr
      split <;> exact ⟨this.nv, this.sh⟩
    · rw [itm_dep]; split <;> omega
    · rw [i.tr_w]; exact hk1 i hi
  · rw [List.length_map]
    have := dd_len its
    omega
  · obtain ⟨z, p, e, _⟩ := h.held t ht
    rw [e]; exact rq_ok z p
  · have := (srt_perm m2 (cfO its)).length_eq
    have := h.cl
    omega
  · subst hv
    have hsh : ∀ r ∈ rowsOf (srt m2 (cfO its)), ∃ z : Bool, r.1 = .tup [.str "read", .str (plS z)] := fun r hr => by
      obtain ⟨t, ht, e⟩ := (rowsOf_facts (srt m2 (cfO its))).2 r hr
      obtain ⟨z, p, e2, _⟩ := h.cf t ((srt_perm m2 _).symm.subset ht)
      exact ⟨z, by rw [e, e2, rq_thing]⟩
    have hsh2 : ∀ r ∈ rowsOf (srt m2 (cfO its)), ∃ a b rest, r.1 = .tup (.str a :: .str b :: rest) ∧ SeqAt.shaped (.str a) = true := fun r hr => by
      obtain ⟨z, e⟩ := hsh r hr
      exact ⟨_, _, _, e, read_shaped⟩
    refine ⟨p, s, rfl, ⟨_, hW, hsh2, ?_⟩, ⟨_, hW, hsh2, ?_⟩⟩
    · rw [ofRows_rowsOf (K := thA)]
      · show ((srt m2 (cfO its)).filter isA).map Bt.v = _
        rw [h.same, h.filt]
      · intro t ht
        obtain ⟨z, q, e2, _⟩ := h.cf t ((srt_perm m2 _).symm.subset ht)
        rw [e2, rq_thing]
        cases z
        · exact ⟨fun _ => rfl, fun _ => by decide +kernel⟩
        · constructor
          · intro hh; exact absurd hh (by decide +kernel)
          · intro hh
            simp only [thA, Wv.tup.injEq, List.cons.injEq, Wv.str.injEq, and_true, true_and] at hh
            exact absurd hh.symm ab_ne
    · refine ofRows_none fun r hr => ?_
      obtain ⟨z, e⟩ := hsh r hr
      rw [e]
      cases z <;> decide +kernel
end Bh
end
section
set_option Elab.async false
set_option linter.all false
set_option maxRecDepth 100000
set_option maxHeartbeats 0
namespace Bh
open PySem MP
/-! ### the law -/
def dropS : Nat → MP.Sl → MP.Sl
  | 0, s => s
  | n + 1, .cons _ r => dropS n r
  | _ + 1, .nil => .nil
def lawT (i : Nat) : MP.Sl := dropS i sl_law
@[irreducible] def RL (S : List Int) (i : Nat) (σ : Sw) (M : Mem) (Q : Fl × Sw → Mem → Prop) : Prop := (evSl (Gp S) (callN (Gp S) fuel 9) (callN (Gp S) fuel 8) fuel (lawT i) σ M).sat Q
theorem RL_iff {S : List Int} {i : Nat} {σ : Sw} {M : Mem} {Q : Fl × Sw → Mem → Prop} : RL S i σ M Q ↔ (evSl (Gp S) (callN (Gp S) fuel 9) (callN (Gp S) fuel 8) fuel (lawT i) σ M).sat Q := by unfold RL; exact Iff.rfl
theorem rng_ok {a b : Int} (h1 : -1000000 ≤ a) (h2 : a ≤ 1000000) (h3 : -1000000 ≤ b) (h4 : b ≤ 1000000) : (rngOk a && rngOk b) = true := by
  unfold rngOk
  rw [decide_eq_true (by omega), decide_eq_true (by omega), decide_eq_true (by omega), decide_eq_true (by omega)]
  rfl
theorem lk_nil (N : Mem) : lockM [] N = N := rfl
theorem ul_nil (N : Mem) : unlkM [] N = N := rfl
theorem ab_at {S : List Int} {M : Mem} {r : Int} (h0 : 0 ≤ r) (h1 : r < 2) : ∃ z, subW (Gp S) (.str "ab") (.int r) M = .ok (.str (plS z)) M := by
  have : r = 0 ∨ r = 1 := by omega
  rcases this with rfl | rfl
  · exact ⟨false, rfl⟩
  · exact ⟨true, rfl⟩
theorem at4 {a b c d r : Int} (h0 : 0 ≤ r) (h1 : r < 4) : ∃ x, atI [Wv.int a, .int b, .int c, .int d] r = some (.int x) ∧ (x = a ∨ x = b ∨ x = c ∨ x = d) := by
  have : r = 0 ∨ r = 1 ∨ r = 2 ∨ r = 3 := by omega
  rcases this with rfl | rfl | rfl | rfl
  · exact ⟨a, rfl, .inl rfl⟩
  · exact ⟨b, rfl, .inr (.inl rfl)⟩
  · exact ⟨c, rfl, .inr (.inr (.inl rfl))⟩
  · exact ⟨d, rfl, .inr (.inr (.inr rfl))⟩
theorem at3 {a b c r : Int} (h0 : 0 ≤ r) (h1 : r < 3) : ∃ x, atI [Wv.int a, .int b, .int c] r = some (.int x) ∧ (x = a ∨ x = b ∨ x = c) := by
  have : r = 0 ∨ r = 1 ∨ r = 2 := by omega
  rcases this with rfl | rfl | rfl
  · exact ⟨a, rfl, .inl rfl⟩
  · exact ⟨b, rfl, .inr (.inl rfl)⟩
  · exact ⟨c, rfl, .inr (.inr rfl)⟩
theorem stA {S : List Int} (hl : S.length ≤ 63) {Q : Fl × Sw → Mem → Prop} (h : ∀ its t x2 x3 x4 M', I29 its → M'[t]? = some (.lst (its.map Itm.w)) → RL S 2 [some .scr, some (.ref t), x2, x3, x4, none, none, none, none, none, none, none, none, none, none, none] M' Q) : RL S 0 [some .scr, none, none, none, none, none, none, none, none, none, none, none, none, none, none, none] [] Q := by
  have hz : 1001 ≤ sizeLine := by decide
  rw [RL_iff]
  show (evSl _ _ _ _ (.cons _ (.cons _ (lawT 2))) _ _).sat _
  rw [q_cons, q_asg, q_lst]
  simp only [q_anil, List.length_nil, tg_nm, sat_some, List.set_cons_zero, List.set_cons_succ, List.nil_append]
  refine ⟨len_ok (by decide), ?_⟩
  rw [k_nx, q_cons, q_for, q_rng]
  simp only [q_nil, q_cons, k_nx, k_ret, k_brk, k_ct, q_asg, q_asgA, q_asgS, q_aug, q_ex, q_ret, q_retN, q_pass, q_brk, q_cont, q_ifs, q_for, q_whl, b_t, b_f, be_t, be_f, ba_t, ba_f, bo_t, bo_f, t_bl, t_int, t_non,     q_var, q_con, q_glb, q_tup, q_lst, q_dict0, q_bin, q_neg, q_not, q_and, q_or, q_ife, q_cmp, q_cmp2, q_attr, q_sub, q_srev, q_call, q_callk, q_meth, q_bm, q_new, q_bi, q_isi, q_lc, q_dc, q_sortk, q_sortv, q_dict2, q_anil, q_acons, q_ival, q_items, q_vals, q_rng,     o_add, o_sub, o_mul, o_fdiv, o_mod, o_pow18, o_addT, ag_add, ag_sub, c_lt, c_gt, c_le, c_ge, c_eq, c_ne, c_is, c_isn, c_in, c_nin, u_tup, u_scr, n_scr, n_tup, n_str, n_abs, n_min2, n_max2, tg_nm, tg_2, tg_3, at_0, at_1, at_2, at_3, at_4, i_int, sat_some, getV_0, getV_s,     List.set_cons_zero, List.set_cons_succ, List.map_cons, List.map_nil, List.replicate_succ, List.replicate_zero, List.cons_append, List.nil_append, List.length_cons, List.length_nil]
  refine sat_mono (drawn_ok S hl 8 0 24 (by omega) (by omega) [Ob.lst []]) fun v M1 ⟨p1, r, hv, hr0, hr1⟩ => ?_
  subst hv
  have ht1 : M1[0]? = some (.lst ([].map Itm.w)) := pre_get p1 rfl
  simp only [q_nil, q_cons, k_nx, k_ret, k_brk, k_ct, q_asg, q_asgA, q_asgS, q_aug, q_ex, q_ret, q_retN, q_pass, q_brk, q_cont, q_ifs, q_for, q_whl, b_t, b_f, be_t, be_f, ba_t, ba_f, bo_t, bo_f, t_bl, t_int, t_non,     q_var, q_con, q_glb, q_tup, q_lst, q_dict0, q_bin, q_neg, q_not, q_and, q_or, q_ife, q_cmp, q_cmp2, q_attr, q_sub, q_srev, q_call, q_callk, q_meth, q_bm, q_new, q_bi, q_isi, q_lc, q_dc, q_sortk, q_sortv, q_dict2, q_anil, q_acons, q_ival, q_items, q_vals, q_rng,     o_add, o_sub, o_mul, o_fdiv, o_mod, o_pow18, o_addT, ag_add, ag_sub, c_lt, c_gt, c_le, c_ge, c_eq, c_ne, c_is, c_isn, c_in, c_nin, u_tup, u_scr, n_scr, n_tup, n_str, n_abs, n_min2, n_max2, tg_nm, tg_2, tg_3, at_0, at_1, at_2, at_3, at_4, i_int, sat_some, getV_0, getV_s,     List.set_cons_zero, List.set_cons_succ, List.map_cons, List.map_nil, List.replicate_succ, List.replicate_zero, List.cons_append, List.nil_append, List.length_cons, List.length_nil]
  refine ⟨rng_ok (by omega) (by omega) (by omega) (by omega), ?_⟩
  obtain ⟨n, hn⟩ := Int.eq_ofNat_of_zero_le hr0
  rw [rng_eq 0 _ n (by omega)]
  simp only [lk_nil, ul_nil]
  refine sat_mono (for_rule (Q := fun q M' => ∃ its x2 x3 x4, q = (.nx, [some .scr, some (.ref 0), x2, x3, x4, none, none, none, none, none, none, none, none, none, none, none]) ∧ I29 its ∧ M'[0]? = some (.lst (its.map Itm.w)))
    (fun pre post σ M' => ∃ (j : Nat) (its : List Itm) (x2 x3 x4 : Option Wv), j ≤ n ∧ post = ((List.range n).drop j).map (fun k : Nat => Wv.int (0 + (k : Int))) ∧ σ = [some .scr, some (.ref 0), x2, x3, x4, none, none, none, none, none, none, none, none, none, none, none] ∧ (∀ i ∈ its, RdB i.2) ∧ its.length ≤ 2 * j ∧ M'[0]? = some (.lst (its.map Itm.w))) ?_ ?_ _ [] _ _ ⟨0, [], none, none, none, by omega, rfl, rfl, (fun i hi => by cases hi), by simp, ht1⟩) fun q M2 ⟨its, x2, x3, x4, eq, hI, ht⟩ => ?_
  · rintro pre x post σ M' ⟨j, its, x2, x3, x4, hj, hpost, rfl, hrd, hlen, ht⟩
    have hj2 : j < n := by
      by_cases z : j < n
      · exact z
      · rw [List.drop_eq_nil_of_le (by simp; omega)] at hpost; cases hpost
    rw [List.drop_eq_getElem_cons (by simpa using hj2)] at hpost
    simp only [List.getElem_range, List.map_cons, List.cons.injEq] at hpost
    obtain ⟨rfl, rfl⟩ := hpost
    have e0 : (0 : Int) + (j : Int) = (j : Int) := by omega
    rw [e0]
    refine ⟨rfl, [some .scr, some (.ref 0), some (.int (j : Int)), x3, x4, none, none, none, none, none, none, none, none, none, none, none], rfl, ?_⟩
    try simp only [q_nil, q_cons, k_nx, k_ret, k_brk, k_ct, q_asg, q_asgA, q_asgS, q_aug, q_ex, q_ret, q_retN, q_pass, q_brk, q_cont, q_ifs, q_for, q_whl, b_t, b_f, be_t, be_f, ba_t, ba_f, bo_t, bo_f, t_bl, t_int, t_non,     q_var, q_con, q_glb, q_tup, q_lst, q_dict0, q_bin, q_neg, q_not, q_and, q_or, q_ife, q_cmp, q_cmp2, q_attr, q_sub, q_srev, q_call, q_callk, q_meth, q_bm, q_new, q_bi, q_isi, q_lc, q_dc, q_sortk, q_sortv, q_dict2, q_anil, q_acons, q_ival, q_items, q_vals, q_rng,     o_add, o_sub, o_mul, o_fdiv, o_mod, o_pow18, o_addT, ag_add, ag_sub, c_lt, c_gt, c_le, c_ge, c_eq, c_ne, c_is, c_isn, c_in, c_nin, u_tup, u_scr, n_scr, n_tup, n_str, n_abs, n_min2, n_max2, tg_nm, tg_2, tg_3, at_0, at_1, at_2, at_3, at_4, i_int, sat_some, getV_0, getV_s,     List.set_cons_zero, List.set_cons_succ, List.map_cons, List.map_nil, List.replicate_succ, List.replicate_zero, List.cons_append, List.nil_append, List.length_cons, List.length_nil]
    generalize hA : M' ++ [Ob.lst [Wv.int 0, .int 360, .int 365, .int 730]] = A
    have pA : M' <+: A := by rw [← hA]; exact List.prefix_append _ _
    have hA4 : A[M'.length]? = some (.lst [Wv.int 0, .int 360, .int 365, .int 730]) := by rw [← hA]; exact at_new ..
    refine ⟨len_ok (by decide), mul_l (by decide), ?_⟩
    refine sat_mono (drawn_ok S hl 8 (10 + 4 * (j : Int)) 4 (by omega) (by omega) A) fun v B ⟨pB, r1, hv, a0, a1⟩ => ?_
    subst hv
    obtain ⟨x, ex, hx⟩ := at4 (a := 0) (b := 360) (c := 365) (d := 730) a0 a1
    refine sat_of (sub_lst (pre_get pB hA4) ex) ?_
    try simp only [q_nil, q_cons, k_nx, k_ret, k_brk, k_ct, q_asg, q_asgA, q_asgS, q_aug, q_ex, q_ret, q_retN, q_pass, q_brk, q_cont, q_ifs, q_for, q_whl, b_t, b_f, be_t, be_f, ba_t, ba_f, bo_t, bo_f, t_bl, t_int, t_non,     q_var, q_con, q_glb, q_tup, q_lst, q_dict0, q_bin, q_neg, q_not, q_and, q_or, q_ife, q_cmp, q_cmp2, q_attr, q_sub, q_srev, q_call, q_callk, q_meth, q_bm, q_new, q_bi, q_isi, q_lc, q_dc, q_sortk, q_sortv, q_dict2, q_anil, q_acons, q_ival, q_items, q_vals, q_rng,     o_add, o_sub, o_mul, o_fdiv, o_mod, o_pow18, o_addT, ag_add, ag_sub, c_lt, c_gt, c_le, c_ge, c_eq, c_ne, c_is, c_isn, c_in, c_nin, u_tup, u_scr, n_scr, n_tup, n_str, n_abs, n_min2, n_max2, tg_nm, tg_2, tg_3, at_0, at_1, at_2, at_3, at_4, i_int, sat_some, getV_0, getV_s,     List.set_cons_zero, List.set_cons_succ, List.map_cons, List.map_nil, List.replicate_succ, List.replicate_zero, List.cons_append, List.nil_append, List.length_cons, List.length_nil]
    refine ⟨mul_l (by decide), ?_⟩
    refine sat_mono (drawn_ok S hl 8 (11 + 4 * (j : Int)) 14 (by omega) (by omega) B) fun v C ⟨pC, r2, hv, b0, b1⟩ => ?_
    subst hv
    try simp only [q_nil, q_cons, k_nx, k_ret, k_brk, k_ct, q_asg, q_asgA, q_asgS, q_aug, q_ex, q_ret, q_retN, q_pass, q_brk, q_cont, q_ifs, q_for, q_whl, b_t, b_f, be_t, be_f, ba_t, ba_f, bo_t, bo_f, t_bl, t_int, t_non,     q_var, q_con, q_glb, q_tup, q_lst, q_dict0, q_bin, q_neg, q_not, q_and, q_or, q_ife, q_cmp, q_cmp2, q_attr, q_sub, q_srev, q_call, q_callk, q_meth, q_bm, q_new, q_bi, q_isi, q_lc, q_dc, q_sortk, q_sortv, q_dict2, q_anil, q_acons, q_ival, q_items, q_vals, q_rng,     o_add, o_sub, o_mul, o_fdiv, o_mod, o_pow18, o_addT, ag_add, ag_sub, c_lt, c_gt, c_le, c_ge, c_eq, c_ne, c_is, c_isn, c_in, c_nin, u_tup, u_scr, n_scr, n_tup, n_str, n_abs, n_min2, n_max2, tg_nm, tg_2, tg_3, at_0, at_1, at_2, at_3, at_4, i_int, sat_some, getV_0, getV_s,     List.set_cons_zero, List.set_cons_succ, List.map_cons, List.map_nil, List.replicate_succ, List.replicate_zero, List.cons_append, List.nil_append, List.length_cons, List.length_nil]
    refine ⟨mul_l (by decide), ?_⟩
    refine sat_mono (drawn_ok S hl 8 (12 + 4 * (j : Int)) 2 (by omega) (by omega) C) fun v D ⟨pD, r3, hv, c0, c1⟩ => ?_
    subst hv
    obtain ⟨z, ez⟩ := ab_at (S := S) (M := D) c0 c1
    refine sat_of ez ?_
    try simp only [q_nil, q_cons, k_nx, k_ret, k_brk, k_ct, q_asg, q_asgA, q_asgS, q_aug, q_ex, q_ret, q_retN, q_pass, q_brk, q_cont, q_ifs, q_for, q_whl, b_t, b_f, be_t, be_f, ba_t, ba_f, bo_t, bo_f, t_bl, t_int, t_non,     q_var, q_con, q_glb, q_tup, q_lst, q_dict0, q_bin, q_neg, q_not, q_and, q_or, q_ife, q_cmp, q_cmp2, q_attr, q_sub, q_srev, q_call, q_callk, q_meth, q_bm, q_new, q_bi, q_isi, q_lc, q_dc, q_sortk, q_sortv, q_dict2, q_anil, q_acons, q_ival, q_items, q_vals, q_rng,     o_add, o_sub, o_mul, o_fdiv, o_mod, o_pow18, o_addT, ag_add, ag_sub, c_lt, c_gt, c_le, c_ge, c_eq, c_ne, c_is, c_isn, c_in, c_nin, u_tup, u_scr, n_scr, n_tup, n_str, n_abs, n_min2, n_max2, tg_nm, tg_2, tg_3, at_0, at_1, at_2, at_3, at_4, i_int, sat_some, getV_0, getV_s,     List.set_cons_zero, List.set_cons_succ, List.map_cons, List.map_nil, List.replicate_succ, List.replicate_zero, List.cons_append, List.nil_append, List.length_cons, List.length_nil]
    refine ⟨mul_l (by decide), ?_⟩
    refine sat_mono (drawn_ok S hl 8 (13 + 4 * (j : Int)) 40 (by omega) (by omega) D) fun v E ⟨pE, r4, hv, d0, d1⟩ => ?_
    subst hv
    have htE := pre_get (pA.trans (pB.trans (pC.trans (pD.trans pE)))) ht
    have hrb : RdB (rq z (x + r2, r4)) := ⟨z, (x + r2, r4), rfl, by show 0 ≤ x + r2; omega, by show x + r2 ≤ 9000; omega, d0⟩
    have hsh : Wv.tup [.str "read", .int (x + r2), .str (plS z), .int r4] = (rq z (x + r2, r4)).v := rfl
    try simp only [q_nil, q_cons, k_nx, k_ret, k_brk, k_ct, q_asg, q_asgA, q_asgS, q_aug, q_ex, q_ret, q_retN, q_pass, q_brk, q_cont, q_ifs, q_for, q_whl, b_t, b_f, be_t, be_f, ba_t, ba_f, bo_t, bo_f, t_bl, t_int, t_non,     q_var, q_con, q_glb, q_tup, q_lst, q_dict0, q_bin, q_neg, q_not, q_and, q_or, q_ife, q_cmp, q_cmp2, q_attr, q_sub, q_srev, q_call, q_callk, q_meth, q_bm, q_new, q_bi, q_isi, q_lc, q_dc, q_sortk, q_sortv, q_dict2, q_anil, q_acons, q_ival, q_items, q_vals, q_rng,     o_add, o_sub, o_mul, o_fdiv, o_mod, o_pow18, o_addT, ag_add, ag_sub, c_lt, c_gt, c_le, c_ge, c_eq, c_ne, c_is, c_isn, c_in, c_nin, u_tup, u_scr, n_scr, n_tup, n_str, n_abs, n_min2, n_max2, tg_nm, tg_2, tg_3, at_0, at_1, at_2, at_3, at_4, i_int, sat_some, getV_0, getV_s,     List.set_cons_zero, List.set_cons_succ, List.map_cons, List.map_nil, List.replicate_succ, List.replicate_zero, List.cons_append, List.nil_append, List.length_cons, List.length_nil, hsh]
    have htl : 0 < E.length := (List.getElem?_eq_some_iff.mp htE).1
    refine ⟨len_ok (by decide), bmT_append htE, ?_⟩
    refine sat_of (bm_append htE (by rw [List.length_map]; omega)) ?_
    generalize hF : E.set 0 (.lst (its.map Itm.w ++ [(rq z (x + r2, r4)).v])) = F
    have htF : F[0]? = some (.lst ((its ++ [(false, rq z (x + r2, r4))]).map Itm.w)) := by
      rw [← hF, List.getElem?_set_self htl, List.map_append]
      rfl
    try simp only [q_nil, q_cons, k_nx, k_ret, k_brk, k_ct, q_asg, q_asgA, q_asgS, q_aug, q_ex, q_ret, q_retN, q_pass, q_brk, q_cont, q_ifs, q_for, q_whl, b_t, b_f, be_t, be_f, ba_t, ba_f, bo_t, bo_f, t_bl, t_int, t_non,     q_var, q_con, q_glb, q_tup, q_lst, q_dict0, q_bin, q_neg, q_not, q_and, q_or, q_ife, q_cmp, q_cmp2, q_attr, q_sub, q_srev, q_call, q_callk, q_meth, q_bm, q_new, q_bi, q_isi, q_lc, q_dc, q_sortk, q_sortv, q_dict2, q_anil, q_acons, q_ival, q_items, q_vals, q_rng,     o_add, o_sub, o_mul, o_fdiv, o_mod, o_pow18, o_addT, ag_add, ag_sub, c_lt, c_gt, c_le, c_ge, c_eq, c_ne, c_is, c_isn, c_in, c_nin, u_tup, u_scr, n_scr, n_tup, n_str, n_abs, n_min2, n_max2, tg_nm, tg_2, tg_3, at_0, at_1, at_2, at_3, at_4, i_int, sat_some, getV_0, getV_s,     List.set_cons_zero, List.set_cons_succ, List.map_cons, List.map_nil, List.replicate_succ, List.replicate_zero, List.cons_append, List.nil_append, List.length_cons, List.length_nil]
    refine sat_mono (drawn_ok S hl 8 (120 + (j : Int)) 6 (by omega) (by omega) F) fun v G ⟨pG, r5, hv, _, _⟩ => ?_
    subst hv
    have htG := pre_get pG htF
    refine ⟨_, eqW_int _ _, ?_⟩
    have hrd2 : ∀ i ∈ its ++ [(false, rq z (x + r2, r4))], RdB i.2 := fun i hi => by
      rcases List.mem_append.mp hi with hi | hi
      · exact hrd i hi
      · rw [List.mem_singleton.mp hi]; exact hrb
    by_cases c : r5 = 0
    · rw [decide_eq_true c]
      simp only [q_nil, q_cons, k_nx, k_ret, k_brk, k_ct, q_asg, q_asgA, q_asgS, q_aug, q_ex, q_ret, q_retN, q_pass, q_brk, q_cont, q_ifs, q_for, q_whl, b_t, b_f, be_t, be_f, ba_t, ba_f, bo_t, bo_f, t_bl, t_int, t_non,     q_var, q_con, q_glb, q_tup, q_lst, q_dict0, q_bin, q_neg, q_not, q_and, q_or, q_ife, q_cmp, q_cmp2, q_attr, q_sub, q_srev, q_call, q_callk, q_meth, q_bm, q_new, q_bi, q_isi, q_lc, q_dc, q_sortk, q_sortv, q_dict2, q_anil, q_acons, q_ival, q_items, q_vals, q_rng,     o_add, o_sub, o_mul, o_fdiv, o_mod, o_pow18, o_addT, ag_add, ag_sub, c_lt, c_gt, c_le, c_ge, c_eq, c_ne, c_is, c_isn, c_in, c_nin, u_tup, u_scr, n_scr, n_tup, n_str, n_abs, n_min2, n_max2, tg_nm, tg_2, tg_3, at_0, at_1, at_2, at_3, at_4, i_int, sat_some, getV_0, getV_s,     List.set_cons_zero, List.set_cons_succ, List.map_cons, List.map_nil, List.replicate_succ, List.replicate_zero, List.cons_append, List.nil_append, List.length_cons, List.length_nil]
      refine ⟨bmT_append htG, len_ok (by decide), ?_⟩
      have htl2 : 0 < G.length := (List.getElem?_eq_some_iff.mp htG).1
      refine sat_of (bm_append htG (by simp; omega)) ?_
      refine ⟨j + 1, (its ++ [(false, rq z (x + r2, r4))]) ++ [(true, rq z (x + r2, r4))], _, _, _, hj2, rfl, rfl, fun i hi => ?_, by simp; omega, ?_⟩
      · rcases List.mem_append.mp hi with hi | hi
        · exact hrd2 i hi
        · rw [List.mem_singleton.mp hi]; exact hrb
      · rw [List.getElem?_set_self htl2, List.map_append (l₁ := its ++ [(false, rq z (x + r2, r4))])]
        rfl
    · rw [decide_eq_false c]
      simp only [q_nil, q_cons, k_nx, k_ret, k_brk, k_ct, q_asg, q_asgA, q_asgS, q_aug, q_ex, q_ret, q_retN, q_pass, q_brk, q_cont, q_ifs, q_for, q_whl, b_t, b_f, be_t, be_f, ba_t, ba_f, bo_t, bo_f, t_bl, t_int, t_non,     q_var, q_con, q_glb, q_tup, q_lst, q_dict0, q_bin, q_neg, q_not, q_and, q_or, q_ife, q_cmp, q_cmp2, q_attr, q_sub, q_srev, q_call, q_callk, q_meth, q_bm, q_new, q_bi, q_isi, q_lc, q_dc, q_sortk, q_sortv, q_dict2, q_anil, q_acons, q_ival, q_items, q_vals, q_rng,     o_add, o_sub, o_mul, o_fdiv, o_mod, o_pow18, o_addT, ag_add, ag_sub, c_lt, c_gt, c_le, c_ge, c_eq, c_ne, c_is, c_isn, c_in, c_nin, u_tup, u_scr, n_scr, n_tup, n_str, n_abs, n_min2, n_max2, tg_nm, tg_2, tg_3, at_0, at_1, at_2, at_3, at_4, i_int, sat_some, getV_0, getV_s,     List.set_cons_zero, List.set_cons_succ, List.map_cons, List.map_nil, List.replicate_succ, List.replicate_zero, List.cons_append, List.nil_append, List.length_cons, List.length_nil]
      exact ⟨j + 1, its ++ [(false, rq z (x + r2, r4))], _, _, _, hj2, rfl, rfl, hrd2, by simp; omega, htG⟩
  · rintro pre σ M' ⟨j, its, x2, x3, x4, hj, hpost, rfl, hrd, hlen, ht⟩
    have hn2 : j = n := by
      by_cases z : j < n
      · rw [List.drop_eq_getElem_cons (by simpa using z)] at hpost; cases hpost
      · omega
    subst hn2
    exact ⟨rfl, its, x2, x3, x4, rfl, ⟨hrd, by omega⟩, ht⟩
  · subst eq
    try simp only [q_nil, q_cons, k_nx, k_ret, k_brk, k_ct, q_asg, q_asgA, q_asgS, q_aug, q_ex, q_ret, q_retN, q_pass, q_brk, q_cont, q_ifs, q_for, q_whl, b_t, b_f, be_t, be_f, ba_t, ba_f, bo_t, bo_f, t_bl, t_int, t_non,     q_var, q_con, q_glb, q_tup, q_lst, q_dict0, q_bin, q_neg, q_not, q_and, q_or, q_ife, q_cmp, q_cmp2, q_attr, q_sub, q_srev, q_call, q_callk, q_meth, q_bm, q_new, q_bi, q_isi, q_lc, q_dc, q_sortk, q_sortv, q_dict2, q_anil, q_acons, q_ival, q_items, q_vals, q_rng,     o_add, o_sub, o_mul, o_fdiv, o_mod, o_pow18, o_addT, ag_add, ag_sub, c_lt, c_gt, c_le, c_ge, c_eq, c_ne, c_is, c_isn, c_in, c_nin, u_tup, u_scr, n_scr, n_tup, n_str, n_abs, n_min2, n_max2, tg_nm, tg_2, tg_3, at_0, at_1, at_2, at_3, at_4, i_int, sat_some, getV_0, getV_s,     List.set_cons_zero, List.set_cons_succ, List.map_cons, List.map_nil, List.replicate_succ, List.replicate_zero, List.cons_append, List.nil_append, List.length_cons, List.length_nil]
    exact RL_iff.mp (h its 0 x2 x3 x4 M2 hI ht)
/-- what is known behind the world -/
structure W29 (rd : List (Int × Int)) (w rw : Nat) (M : Mem) : Prop where
  ra : WRd M w "a" rd
  rz : WRd M w "zz" []
  rows : M[rw]? = some (.lst (rd.map rdP))
  asc : Asc rd
  bd : ∀ p ∈ rd, 0 ≤ p.1 ∧ p.1 ≤ 9999
  len : rd.length ≤ 60
theorem W29.mono {rd : List (Int × Int)} {w rw : Nat} {M M' : Mem} (h : W29 rd w rw M) (p : M <+: M') : W29 rd w rw M' := ⟨h.ra.mono p, h.rz.mono p, pre_get p h.rows, h.asc, h.bd, h.len⟩
theorem plS_shaped (z : Bool) : SeqAt.shaped (.str (plS z)) = true := by cases z <;> decide +kernel
theorem a_shaped : SeqAt.shaped (.str "a") = true := by decide +kernel
theorem stB {S : List Int} {its : List Itm} {t : Nat} {M : Mem} (hI : I29 its) (ht : M[t]? = some (.lst (its.map Itm.w))) {x2 x3 x4 : Option Wv} {Q : Fl × Sw → Mem → Prop} (h : ∀ rd w rw M', W29 rd w rw M' → RL S 4 [some .scr, some (.ref t), x2, x3, x4, some (.ref w), some (.ref rw), none, none, none, none, none, none, none, none, none] M' Q) :
    RL S 2 [some .scr, some (.ref t), x2, x3, x4, none, none, none, none, none, none, none, none, none, none, none] M Q := by
  have hz : 1001 ≤ sizeLine := by decide
  have hcl := hI.cl
  have hsl : (srt m1 (cfO its)).length = (cfO its).length := (srt_perm m1 (cfO its)).length_eq.symm
  rw [RL_iff]
  show (evSl _ _ _ _ (.cons _ (.cons _ (lawT 4))) _ _).sat _
  rw [q_cons, q_asg, q_tup, q_acons, q_new]
  simp only [q_nil, q_cons, k_nx, k_ret, k_brk, k_ct, q_asg, q_asgA, q_asgS, q_aug, q_ex, q_ret, q_retN, q_pass, q_brk, q_cont, q_ifs, q_for, q_whl, b_t, b_f, be_t, be_f, ba_t, ba_f, bo_t, bo_f, t_bl, t_int, t_non,     q_var, q_con, q_glb, q_tup, q_lst, q_dict0, q_bin, q_neg, q_not, q_and, q_or, q_ife, q_cmp, q_cmp2, q_attr, q_sub, q_srev, q_call, q_callk, q_meth, q_bm, q_new, q_bi, q_isi, q_lc, q_dc, q_sortk, q_sortv, q_dict2, q_anil, q_acons, q_ival, q_items, q_vals, q_rng,     o_add, o_sub, o_mul, o_fdiv, o_mod, o_pow18, o_addT, ag_add, ag_sub, c_lt, c_gt, c_le, c_ge, c_eq, c_ne, c_is, c_isn, c_in, c_nin, u_tup, u_scr, n_scr, n_tup, n_str, n_abs, n_min2, n_max2, tg_nm, tg_2, tg_3, at_0, at_1, at_2, at_3, at_4, i_int, sat_some, getV_0, getV_s,     List.set_cons_zero, List.set_cons_succ, List.map_cons, List.map_nil, List.replicate_succ, List.replicate_zero, List.cons_append, List.nil_append, List.length_cons, List.length_nil]
  refine sat_mono (k29_world S 5 t its M ht hI) fun v M1 ⟨p1, w, hv, hwa, hwz⟩ => ?_
  subst hv
  refine sat_mono (counting_ok S 5 t its (srt m1 (cfO its)) M1 (pre_get p1 ht) hI.ok (by have := hI.len; omega) hI.alk hI.sort1 (by omega)) fun v M2 ⟨p2, y, hv, hy0, hy⟩ => ?_
  subst hv
  simp only [walk_lst hy, sat_some, lock_lst, unlk_lst]
  have hsf : ∀ u ∈ srt m1 (cfO its), RdB u := fun u hu => hI.cf u ((srt_perm m1 _).symm.subset hu)
  refine sat_of (lc_pure (fun x => match x with | .tup [_, _, .str pl, _] => decide (pl = ("a" : Str)) | _ => false) (fun x => match x with | .tup [_, d, _, a] => .tup [d, a] | _ => .non) (stays_lst hy) (by simp; omega) (fun x hx => ?_)) ?_
  · obtain ⟨u, hu, rfl⟩ := List.mem_map.mp hx
    obtain ⟨z, p, rfl, _⟩ := hsf u hu
    have hv : (rq z p).v = .tup [.str "read", .int p.1, .str (plS z), .int p.2] := rfl
    rw [hv]
    refine ⟨[some .scr, some (.ref t), x2, x3, some (.tup [.str "read", .int p.1, .str (plS z), .int p.2]), none, none, none, none, none, none, none, none, none, none, none], rfl, ⟨.bl (decide (plS z = ("a" : Str))), sat_eq ?_, rfl⟩, fun _ => sat_eq ?_⟩
    · simp only [q_nil, q_cons, k_nx, k_ret, k_brk, k_ct, q_asg, q_asgA, q_asgS, q_aug, q_ex, q_ret, q_retN, q_pass, q_brk, q_cont, q_ifs, q_for, q_whl, b_t, b_f, be_t, be_f, ba_t, ba_f, bo_t, bo_f, t_bl, t_int, t_non,     q_var, q_con, q_glb, q_tup, q_lst, q_dict0, q_bin, q_neg, q_not, q_and, q_or, q_ife, q_cmp, q_cmp2, q_attr, q_sub, q_srev, q_call, q_callk, q_meth, q_bm, q_new, q_bi, q_isi, q_lc, q_dc, q_sortk, q_sortv, q_dict2, q_anil, q_acons, q_ival, q_items, q_vals, q_rng,     o_add, o_sub, o_mul, o_fdiv, o_mod, o_pow18, o_addT, ag_add, ag_sub, c_lt, c_gt, c_le, c_ge, c_eq, c_ne, c_is, c_isn, c_in, c_nin, u_tup, u_scr, n_scr, n_tup, n_str, n_abs, n_min2, n_max2, tg_nm, tg_2, tg_3, at_0, at_1, at_2, at_3, at_4, i_int, sat_some, getV_0, getV_s,     List.set_cons_zero, List.set_cons_succ, List.map_cons, List.map_nil, List.replicate_succ, List.replicate_zero, List.cons_append, List.nil_append, List.length_cons, List.length_nil]
      exact ⟨_, eqW_str (plS_shaped z) a_shaped, rfl, trivial⟩
    · simp only [q_nil, q_cons, k_nx, k_ret, k_brk, k_ct, q_asg, q_asgA, q_asgS, q_aug, q_ex, q_ret, q_retN, q_pass, q_brk, q_cont, q_ifs, q_for, q_whl, b_t, b_f, be_t, be_f, ba_t, ba_f, bo_t, bo_f, t_bl, t_int, t_non,     q_var, q_con, q_glb, q_tup, q_lst, q_dict0, q_bin, q_neg, q_not, q_and, q_or, q_ife, q_cmp, q_cmp2, q_attr, q_sub, q_srev, q_call, q_callk, q_meth, q_bm, q_new, q_bi, q_isi, q_lc, q_dc, q_sortk, q_sortv, q_dict2, q_anil, q_acons, q_ival, q_items, q_vals, q_rng,     o_add, o_sub, o_mul, o_fdiv, o_mod, o_pow18, o_addT, ag_add, ag_sub, c_lt, c_gt, c_le, c_ge, c_eq, c_ne, c_is, c_isn, c_in, c_nin, u_tup, u_scr, n_scr, n_tup, n_str, n_abs, n_min2, n_max2, tg_nm, tg_2, tg_3, at_0, at_1, at_2, at_3, at_4, i_int, sat_some, getV_0, getV_s,     List.set_cons_zero, List.set_cons_succ, List.map_cons, List.map_nil, List.replicate_succ, List.replicate_zero, List.cons_append, List.nil_append, List.length_cons, List.length_nil]
      exact ⟨len_ok (by decide), trivial, trivial⟩
  have er : ((((srt m1 (cfO its)).map Bt.v).filter fun x => match x with | .tup [_, _, .str pl, _] => decide (pl = ("a" : Str)) | _ => false).map fun x => match x with | .tup [_, d, _, a] => Wv.tup [d, a] | _ => .non) = (rdOf its).map rdP := by
    rw [List.filter_map, List.map_map]
    have e1 : (srt m1 (cfO its)).filter ((fun x => match x with | Wv.tup [_, _, .str pl, _] => decide (pl = ("a" : Str)) | _ => false) ∘ Bt.v) = (srt m1 (cfO its)).filter isA := by
      refine List.filter_congr fun u hu => ?_
      obtain ⟨z, p, rfl, _⟩ := hsf u hu
      show decide (plS z = ("a" : Str)) = decide ((rq z p).thing = thA)
      rw [rq_thing]
      cases z
      · rw [decide_eq_true (show plS false = ("a" : Str) from rfl), decide_eq_true (show Wv.tup [.str "read", .str (plS false)] = thA from rfl)]
      · rw [decide_eq_false (show ¬ plS true = ("a" : Str) from fun e => ab_ne e.symm), decide_eq_false]
        intro e
        simp only [thA, Wv.tup.injEq, List.cons.injEq, Wv.str.injEq, and_true, true_and] at e
        exact ab_ne e.symm
    rw [e1, hI.filt, List.map_map]
    rfl
  rw [er]
  refine ⟨len_ok (by decide), ?_⟩
  generalize hM3 : M2 ++ [Ob.lst ((rdOf its).map rdP)] = M3
  have p3 : M2 <+: M3 := by rw [← hM3]; exact List.prefix_append _ _
  have hr3 : M3[M2.length]? = some (.lst ((rdOf its).map rdP)) := by rw [← hM3]; exact at_new ..
  have hrl : (rdOf its).length ≤ 60 := by
    unfold rdOf
    rw [List.length_map]
    have := List.length_filter_le isA (srt m1 (cfO its))
    omega
  have W : W29 (rdOf its) w M2.length M3 := ⟨hwa.mono (p2.trans p3), hwz.mono (p2.trans p3), hr3, hI.asc, hI.bd, hrl⟩
  generalize M2.length = rw1 at *
  try simp only [q_nil, q_cons, k_nx, k_ret, k_brk, k_ct, q_asg, q_asgA, q_asgS, q_aug, q_ex, q_ret, q_retN, q_pass, q_brk, q_cont, q_ifs, q_for, q_whl, b_t, b_f, be_t, be_f, ba_t, ba_f, bo_t, bo_f, t_bl, t_int, t_non,     q_var, q_con, q_glb, q_tup, q_lst, q_dict0, q_bin, q_neg, q_not, q_and, q_or, q_ife, q_cmp, q_cmp2, q_attr, q_sub, q_srev, q_call, q_callk, q_meth, q_bm, q_new, q_bi, q_isi, q_lc, q_dc, q_sortk, q_sortv, q_dict2, q_anil, q_acons, q_ival, q_items, q_vals, q_rng,     o_add, o_sub, o_mul, o_fdiv, o_mod, o_pow18, o_addT, ag_add, ag_sub, c_lt, c_gt, c_le, c_ge, c_eq, c_ne, c_is, c_isn, c_in, c_nin, u_tup, u_scr, n_scr, n_tup, n_str, n_abs, n_min2, n_max2, tg_nm, tg_2, tg_3, at_0, at_1, at_2, at_3, at_4, i_int, sat_some, getV_0, getV_s,     List.set_cons_zero, List.set_cons_succ, List.map_cons, List.map_nil, List.replicate_succ, List.replicate_zero, List.cons_append, List.nil_append, List.length_cons, List.length_nil]
  refine sat_mono (readings_ok S 6 w pl_a (rdOf its) M3 W.ra W.asc) fun v M4 ⟨p4, y4, hv, _, hy4⟩ => ?_
  subst hv
  have W4 := W.mono p4
  try simp only [q_nil, q_cons, k_nx, k_ret, k_brk, k_ct, q_asg, q_asgA, q_asgS, q_aug, q_ex, q_ret, q_retN, q_pass, q_brk, q_cont, q_ifs, q_for, q_whl, b_t, b_f, be_t, be_f, ba_t, ba_f, bo_t, bo_f, t_bl, t_int, t_non,     q_var, q_con, q_glb, q_tup, q_lst, q_dict0, q_bin, q_neg, q_not, q_and, q_or, q_ife, q_cmp, q_cmp2, q_attr, q_sub, q_srev, q_call, q_callk, q_meth, q_bm, q_new, q_bi, q_isi, q_lc, q_dc, q_sortk, q_sortv, q_dict2, q_anil, q_acons, q_ival, q_items, q_vals, q_rng,     o_add, o_sub, o_mul, o_fdiv, o_mod, o_pow18, o_addT, ag_add, ag_sub, c_lt, c_gt, c_le, c_ge, c_eq, c_ne, c_is, c_isn, c_in, c_nin, u_tup, u_scr, n_scr, n_tup, n_str, n_abs, n_min2, n_max2, tg_nm, tg_2, tg_3, at_0, at_1, at_2, at_3, at_4, i_int, sat_some, getV_0, getV_s,     List.set_cons_zero, List.set_cons_succ, List.map_cons, List.map_nil, List.replicate_succ, List.replicate_zero, List.cons_append, List.nil_append, List.length_cons, List.length_nil]
  refine ⟨true, eqW_lists hy4 W4.rows fun x hx => ?_, ?_⟩
  · obtain ⟨p, _, rfl⟩ := List.mem_map.mp hx
    rfl
  simp only [q_nil, q_cons, k_nx, k_ret, k_brk, k_ct, q_asg, q_asgA, q_asgS, q_aug, q_ex, q_ret, q_retN, q_pass, q_brk, q_cont, q_ifs, q_for, q_whl, b_t, b_f, be_t, be_f, ba_t, ba_f, bo_t, bo_f, t_bl, t_int, t_non,     q_var, q_con, q_glb, q_tup, q_lst, q_dict0, q_bin, q_neg, q_not, q_and, q_or, q_ife, q_cmp, q_cmp2, q_attr, q_sub, q_srev, q_call, q_callk, q_meth, q_bm, q_new, q_bi, q_isi, q_lc, q_dc, q_sortk, q_sortv, q_dict2, q_anil, q_acons, q_ival, q_items, q_vals, q_rng,     o_add, o_sub, o_mul, o_fdiv, o_mod, o_pow18, o_addT, ag_add, ag_sub, c_lt, c_gt, c_le, c_ge, c_eq, c_ne, c_is, c_isn, c_in, c_nin, u_tup, u_scr, n_scr, n_tup, n_str, n_abs, n_min2, n_max2, tg_nm, tg_2, tg_3, at_0, at_1, at_2, at_3, at_4, i_int, sat_some, getV_0, getV_s,     List.set_cons_zero, List.set_cons_succ, List.map_cons, List.map_nil, List.replicate_succ, List.replicate_zero, List.cons_append, List.nil_append, List.length_cons, List.length_nil, Bool.not_true]
  exact RL_iff.mp (h (rdOf its) w rw1 M4 W4)
end Bh
end
section
set_option Elab.async false
set_option linter.all false
set_option maxRecDepth 100000
set_option maxHeartbeats 0
namespace Bh
open PySem MP
def knO (rd : List (Int × Int)) (day : Int) : List (Int × Int) := rd.filter fun p => decide (p.1 ≤ day)
theorem kn_mb (rd : List (Int × Int)) (day wide : Int) : (knO rd day).filter (fun p => decide (circ p.1 day ≤ wide)) = rd.filter (mbSel day wide) := by
  unfold knO
  rw [List.filter_filter]
  refine List.filter_congr fun p _ => ?_
  unfold mbSel
  rw [Bool.and_comm]
theorem kn_lf (rd : List (Int × Int)) (day wide : Int) (j : Nat) : (knO rd day).filter (fun p => decide (circ p.1 (day + (1 + (j : Int))) ≤ wide)) = rd.filter (lfSel day wide j) := by
  unfold knO
  rw [List.filter_filter]
  refine List.filter_congr fun p _ => ?_
  unfold lfSel
  rw [Bool.and_comm]
/-- amounts of days that are near -/
theorem some_lc {S : List Int} {M : Mem} {kl : Nat} {kn : List (Int × Int)} (hk : M[kl]? = some (.lst (kn.map rdP))) (hl : kn.length ≤ 300) (to wide : Int) (σ : Sw) (e : Ex) (τ : Int × Int → Sw)
    (ht : ∀ p, tgW (.tup [14, 15]) (rdP p) σ = some (τ p)) (h7 : ∀ p, getV 7 (τ p) = some (.int wide)) (h14 : ∀ p, getV 14 (τ p) = some (.int p.1)) (h15 : ∀ p, getV 15 (τ p) = some (.int p.2))
    (he : ∀ p (Q : Wv → Mem → Prop) N, Q (.int to) N → (evE (Gp S) (callN (Gp S) fuel 9) (callN (Gp S) fuel (9 - 1)) e (τ p) N).sat Q) :
    lcGo (Gp S) (.tup [14, 15]) (evE (Gp S) (callN (Gp S) fuel 9) (callN (Gp S) fuel (9 - 1)) (.cmp .le (.call ix__law_apart (.cons (.var 14) (.cons e .nil)) []) (.var 7))) (evE (Gp S) (callN (Gp S) fuel 9) (callN (Gp S) fuel (9 - 1)) (.var 15)) [(kl, .lst (kn.map rdP))] (kn.map rdP) σ [] M = .ok (((kn.filter fun p => decide (circ p.1 to ≤ wide)).map (·.2)).map .int) M := by
  have hz : 1001 ≤ sizeLine := by decide
  have := lc_pure (G := Gp S) (t := .tup [14, 15]) (c := evE (Gp S) (callN (Gp S) fuel 9) (callN (Gp S) fuel (9 - 1)) (.cmp .le (.call ix__law_apart (.cons (.var 14) (.cons e .nil)) []) (.var 7))) (e := evE (Gp S) (callN (Gp S) fuel 9) (callN (Gp S) fuel (9 - 1)) (.var 15)) (ps := [(kl, .lst (kn.map rdP))]) (σ := σ) (M := M) (xs := kn.map rdP)
    (fun x => match x with | .tup [.int d, _] => decide (circ d to ≤ wide) | _ => false) (fun x => match x with | .tup [_, a] => a | _ => .non) (stays_lst hk) (by simp; omega) (fun x hx => by
      obtain ⟨p, hp, rfl⟩ := List.mem_map.mp hx
      refine ⟨τ p, ht p, ⟨.bl (decide (circ p.1 to ≤ wide)), sat_eq ?_, rfl⟩, fun _ => sat_eq ?_⟩
      · simp only [q_cmp, q_call, q_acons, q_anil, q_var, h14 p, h7 p, sat_some, List.cons_append, List.nil_append]
        refine he p _ _ ?_
        have ea := law_apart_ok S 8 p.1 to M
        refine sat_of ea ?_
        simp only [c_le]
        exact ⟨trivial, trivial⟩
      · simp only [q_var, h15 p, sat_some]
        exact ⟨rfl, trivial⟩)
  rw [this]
  congr 1
  rw [List.filter_map, List.map_map, List.map_map]
  rfl
theorem stC {S : List Int} (hl : S.length ≤ 63) {rd : List (Int × Int)} {w rw : Nat} {M : Mem} (W : W29 rd w rw M) {x1 x2 x3 x4 : Option Wv} {Q : Fl × Sw → Mem → Prop} (h : ∀ (day broad : Int) (many kl : Nat) (x10 : Option Wv) M', W29 rd w rw M' → 0 ≤ day ∧ day ≤ 9000 → 0 ≤ broad ∧ broad ≤ 100 → 1 ≤ many ∧ many ≤ 4 → M'[kl]? = some (.lst ((knO rd day).map rdP)) → RL S 9 [some .scr, x1, x2, some (.int day), x4, some (.ref w), some (.ref rw), some (.int broad), some (.int (many : Int)), some (.ref kl), x10, none, none, none, none, none] M' Q) :
    RL S 4 [some .scr, x1, x2, x3, x4, some (.ref w), some (.ref rw), none, none, none, none, none, none, none, none, none] M Q := by
  have hz : 1001 ≤ sizeLine := by decide
  have hrl := W.len
  rw [RL_iff]
  show (evSl _ _ _ _ (.cons _ (.cons _ (.cons _ (.cons _ (.cons _ (lawT 9)))))) _ _).sat _
  rw [q_cons, q_asg, q_bin, q_sub]
  simp only [q_nil, q_cons, k_nx, k_ret, k_brk, k_ct, q_asg, q_asgA, q_asgS, q_aug, q_ex, q_ret, q_retN, q_pass, q_brk, q_cont, q_ifs, q_for, q_whl, b_t, b_f, be_t, be_f, ba_t, ba_f, bo_t, bo_f, t_bl, t_int, t_non,     q_var, q_con, q_glb, q_tup, q_lst, q_dict0, q_bin, q_neg, q_not, q_and, q_or, q_ife, q_cmp, q_cmp2, q_attr, q_sub, q_srev, q_call, q_callk, q_meth, q_bm, q_new, q_bi, q_isi, q_lc, q_dc, q_sortk, q_sortv, q_dict2, q_anil, q_acons, q_ival, q_items, q_vals, q_rng,     o_add, o_sub, o_mul, o_fdiv, o_mod, o_pow18, o_addT, ag_add, ag_sub, c_lt, c_gt, c_le, c_ge, c_eq, c_ne, c_is, c_isn, c_in, c_nin, u_tup, u_scr, n_scr, n_tup, n_str, n_abs, n_min2, n_max2, tg_nm, tg_2, tg_3, at_0, at_1, at_2, at_3, at_4, i_int, sat_some, getV_0, getV_s,     List.set_cons_zero, List.set_cons_succ, List.map_cons, List.map_nil, List.replicate_succ, List.replicate_zero, List.cons_append, List.nil_append, List.length_cons, List.length_nil]
  generalize hA : M ++ [Ob.lst [Wv.int 5, .int 366, .int 800]] = A
  have pA : M <+: A := by rw [← hA]; exact List.prefix_append _ _
  have hA3 : A[M.length]? = some (.lst [Wv.int 5, .int 366, .int 800]) := by rw [← hA]; exact at_new ..
  refine ⟨len_ok (by decide), ?_⟩
  refine sat_mono (drawn_ok S hl 8 1 3 (by omega) (by omega) A) fun v B ⟨pB, r1, hv, a0, a1⟩ => ?_
  subst hv
  obtain ⟨x, ex, hx⟩ := at3 (a := 5) (b := 366) (c := 800) a0 a1
  refine sat_of (sub_lst (pre_get pB hA3) ex) ?_
  refine sat_mono (drawn_ok S hl 8 2 12 (by omega) (by omega) B) fun v C ⟨pC, r2, hv, b0, b1⟩ => ?_
  subst hv
  try simp only [q_nil, q_cons, k_nx, k_ret, k_brk, k_ct, q_asg, q_asgA, q_asgS, q_aug, q_ex, q_ret, q_retN, q_pass, q_brk, q_cont, q_ifs, q_for, q_whl, b_t, b_f, be_t, be_f, ba_t, ba_f, bo_t, bo_f, t_bl, t_int, t_non,     q_var, q_con, q_glb, q_tup, q_lst, q_dict0, q_bin, q_neg, q_not, q_and, q_or, q_ife, q_cmp, q_cmp2, q_attr, q_sub, q_srev, q_call, q_callk, q_meth, q_bm, q_new, q_bi, q_isi, q_lc, q_dc, q_sortk, q_sortv, q_dict2, q_anil, q_acons, q_ival, q_items, q_vals, q_rng,     o_add, o_sub, o_mul, o_fdiv, o_mod, o_pow18, o_addT, ag_add, ag_sub, c_lt, c_gt, c_le, c_ge, c_eq, c_ne, c_is, c_isn, c_in, c_nin, u_tup, u_scr, n_scr, n_tup, n_str, n_abs, n_min2, n_max2, tg_nm, tg_2, tg_3, at_0, at_1, at_2, at_3, at_4, i_int, sat_some, getV_0, getV_s,     List.set_cons_zero, List.set_cons_succ, List.map_cons, List.map_nil, List.replicate_succ, List.replicate_zero, List.cons_append, List.nil_append, List.length_cons, List.length_nil]
  generalize hday : x + r2 = day
  have hd : 0 ≤ day ∧ day ≤ 9000 := by omega
  refine sat_mono (drawn_ok S hl 8 3 12 (by omega) (by omega) C) fun v D ⟨pD, broad, hv, c0, c1⟩ => ?_
  subst hv
  try simp only [q_nil, q_cons, k_nx, k_ret, k_brk, k_ct, q_asg, q_asgA, q_asgS, q_aug, q_ex, q_ret, q_retN, q_pass, q_brk, q_cont, q_ifs, q_for, q_whl, b_t, b_f, be_t, be_f, ba_t, ba_f, bo_t, bo_f, t_bl, t_int, t_non,     q_var, q_con, q_glb, q_tup, q_lst, q_dict0, q_bin, q_neg, q_not, q_and, q_or, q_ife, q_cmp, q_cmp2, q_attr, q_sub, q_srev, q_call, q_callk, q_meth, q_bm, q_new, q_bi, q_isi, q_lc, q_dc, q_sortk, q_sortv, q_dict2, q_anil, q_acons, q_ival, q_items, q_vals, q_rng,     o_add, o_sub, o_mul, o_fdiv, o_mod, o_pow18, o_addT, ag_add, ag_sub, c_lt, c_gt, c_le, c_ge, c_eq, c_ne, c_is, c_isn, c_in, c_nin, u_tup, u_scr, n_scr, n_tup, n_str, n_abs, n_min2, n_max2, tg_nm, tg_2, tg_3, at_0, at_1, at_2, at_3, at_4, i_int, sat_some, getV_0, getV_s,     List.set_cons_zero, List.set_cons_succ, List.map_cons, List.map_nil, List.replicate_succ, List.replicate_zero, List.cons_append, List.nil_append, List.length_cons, List.length_nil]
  refine sat_mono (drawn_ok S hl 8 4 4 (by omega) (by omega) D) fun v E ⟨pE, r4, hv, d0, d1⟩ => ?_
  subst hv
  obtain ⟨many, hm⟩ := Int.eq_ofNat_of_zero_le (show 0 ≤ 1 + r4 by omega)
  have hm1 : (1 + r4 : Int) = (many : Int) := hm
  have pE0 : M <+: E := pA.trans (pB.trans (pC.trans (pD.trans pE)))
  have WE := W.mono pE0
  try simp only [q_nil, q_cons, k_nx, k_ret, k_brk, k_ct, q_asg, q_asgA, q_asgS, q_aug, q_ex, q_ret, q_retN, q_pass, q_brk, q_cont, q_ifs, q_for, q_whl, b_t, b_f, be_t, be_f, ba_t, ba_f, bo_t, bo_f, t_bl, t_int, t_non,     q_var, q_con, q_glb, q_tup, q_lst, q_dict0, q_bin, q_neg, q_not, q_and, q_or, q_ife, q_cmp, q_cmp2, q_attr, q_sub, q_srev, q_call, q_callk, q_meth, q_bm, q_new, q_bi, q_isi, q_lc, q_dc, q_sortk, q_sortv, q_dict2, q_anil, q_acons, q_ival, q_items, q_vals, q_rng,     o_add, o_sub, o_mul, o_fdiv, o_mod, o_pow18, o_addT, ag_add, ag_sub, c_lt, c_gt, c_le, c_ge, c_eq, c_ne, c_is, c_isn, c_in, c_nin, u_tup, u_scr, n_scr, n_tup, n_str, n_abs, n_min2, n_max2, tg_nm, tg_2, tg_3, at_0, at_1, at_2, at_3, at_4, i_int, sat_some, getV_0, getV_s,     List.set_cons_zero, List.set_cons_succ, List.map_cons, List.map_nil, List.replicate_succ, List.replicate_zero, List.cons_append, List.nil_append, List.length_cons, List.length_nil]
  rw [hm1]
  refine ⟨len_ok (by decide), ?_⟩
  try simp only [q_nil, q_cons, k_nx, k_ret, k_brk, k_ct, q_asg, q_asgA, q_asgS, q_aug, q_ex, q_ret, q_retN, q_pass, q_brk, q_cont, q_ifs, q_for, q_whl, b_t, b_f, be_t, be_f, ba_t, ba_f, bo_t, bo_f, t_bl, t_int, t_non,     q_var, q_con, q_glb, q_tup, q_lst, q_dict0, q_bin, q_neg, q_not, q_and, q_or, q_ife, q_cmp, q_cmp2, q_attr, q_sub, q_srev, q_call, q_callk, q_meth, q_bm, q_new, q_bi, q_isi, q_lc, q_dc, q_sortk, q_sortv, q_dict2, q_anil, q_acons, q_ival, q_items, q_vals, q_rng,     o_add, o_sub, o_mul, o_fdiv, o_mod, o_pow18, o_addT, ag_add, ag_sub, c_lt, c_gt, c_le, c_ge, c_eq, c_ne, c_is, c_isn, c_in, c_nin, u_tup, u_scr, n_scr, n_tup, n_str, n_abs, n_min2, n_max2, tg_nm, tg_2, tg_3, at_0, at_1, at_2, at_3, at_4, i_int, sat_some, getV_0, getV_s,     List.set_cons_zero, List.set_cons_succ, List.map_cons, List.map_nil, List.replicate_succ, List.replicate_zero, List.cons_append, List.nil_append, List.length_cons, List.length_nil, walk_lst WE.rows, lock_lst, unlk_lst]
  refine sat_of (lc_pure (fun x => match x with | .tup [.int d, _] => decide (d ≤ day) | _ => false) id (stays_lst WE.rows) (by simp; omega) (fun x hx => ?_)) ?_
  · obtain ⟨p, hp, rfl⟩ := List.mem_map.mp hx
    refine ⟨[some .scr, x1, x2, some (.int day), x4, some (.ref w), some (.ref rw), some (.int broad), some (.int (many : Int)), none, none, none, none, none, some (.int p.1), some (.int p.2)], rfl, ⟨.bl (decide (p.1 ≤ day)), sat_eq ?_, rfl⟩, fun _ => sat_eq ?_⟩
    · simp only [q_nil, q_cons, k_nx, k_ret, k_brk, k_ct, q_asg, q_asgA, q_asgS, q_aug, q_ex, q_ret, q_retN, q_pass, q_brk, q_cont, q_ifs, q_for, q_whl, b_t, b_f, be_t, be_f, ba_t, ba_f, bo_t, bo_f, t_bl, t_int, t_non,     q_var, q_con, q_glb, q_tup, q_lst, q_dict0, q_bin, q_neg, q_not, q_and, q_or, q_ife, q_cmp, q_cmp2, q_attr, q_sub, q_srev, q_call, q_callk, q_meth, q_bm, q_new, q_bi, q_isi, q_lc, q_dc, q_sortk, q_sortv, q_dict2, q_anil, q_acons, q_ival, q_items, q_vals, q_rng,     o_add, o_sub, o_mul, o_fdiv, o_mod, o_pow18, o_addT, ag_add, ag_sub, c_lt, c_gt, c_le, c_ge, c_eq, c_ne, c_is, c_isn, c_in, c_nin, u_tup, u_scr, n_scr, n_tup, n_str, n_abs, n_min2, n_max2, tg_nm, tg_2, tg_3, at_0, at_1, at_2, at_3, at_4, i_int, sat_some, getV_0, getV_s,     List.set_cons_zero, List.set_cons_succ, List.map_cons, List.map_nil, List.replicate_succ, List.replicate_zero, List.cons_append, List.nil_append, List.length_cons, List.length_nil]
      exact ⟨trivial, trivial⟩
    · simp only [q_nil, q_cons, k_nx, k_ret, k_brk, k_ct, q_asg, q_asgA, q_asgS, q_aug, q_ex, q_ret, q_retN, q_pass, q_brk, q_cont, q_ifs, q_for, q_whl, b_t, b_f, be_t, be_f, ba_t, ba_f, bo_t, bo_f, t_bl, t_int, t_non,     q_var, q_con, q_glb, q_tup, q_lst, q_dict0, q_bin, q_neg, q_not, q_and, q_or, q_ife, q_cmp, q_cmp2, q_attr, q_sub, q_srev, q_call, q_callk, q_meth, q_bm, q_new, q_bi, q_isi, q_lc, q_dc, q_sortk, q_sortv, q_dict2, q_anil, q_acons, q_ival, q_items, q_vals, q_rng,     o_add, o_sub, o_mul, o_fdiv, o_mod, o_pow18, o_addT, ag_add, ag_sub, c_lt, c_gt, c_le, c_ge, c_eq, c_ne, c_is, c_isn, c_in, c_nin, u_tup, u_scr, n_scr, n_tup, n_str, n_abs, n_min2, n_max2, tg_nm, tg_2, tg_3, at_0, at_1, at_2, at_3, at_4, i_int, sat_some, getV_0, getV_s,     List.set_cons_zero, List.set_cons_succ, List.map_cons, List.map_nil, List.replicate_succ, List.replicate_zero, List.cons_append, List.nil_append, List.length_cons, List.length_nil]
      exact ⟨len_ok (by decide), rfl, trivial⟩
  have ef : (((rd.map rdP).filter fun x => match x with | .tup [.int d, _] => decide (d ≤ day) | _ => false).map id) = (knO rd day).map rdP := by
    unfold knO
    rw [List.map_id, List.filter_map]
    rfl
  rw [ef]
  generalize hF : E ++ [Ob.lst ((knO rd day).map rdP)] = F
  have pF : E <+: F := by rw [← hF]; exact List.prefix_append _ _
  have hkF : F[E.length]? = some (.lst ((knO rd day).map rdP)) := by rw [← hF]; exact at_new ..
  have WF := WE.mono pF
  generalize E.length = kl at *
  have hkl : (knO rd day).length ≤ 300 := Nat.le_trans (List.length_filter_le ..) W.asc.len
  try simp only [q_nil, q_cons, k_nx, k_ret, k_brk, k_ct, q_asg, q_asgA, q_asgS, q_aug, q_ex, q_ret, q_retN, q_pass, q_brk, q_cont, q_ifs, q_for, q_whl, b_t, b_f, be_t, be_f, ba_t, ba_f, bo_t, bo_f, t_bl, t_int, t_non,     q_var, q_con, q_glb, q_tup, q_lst, q_dict0, q_bin, q_neg, q_not, q_and, q_or, q_ife, q_cmp, q_cmp2, q_attr, q_sub, q_srev, q_call, q_callk, q_meth, q_bm, q_new, q_bi, q_isi, q_lc, q_dc, q_sortk, q_sortv, q_dict2, q_anil, q_acons, q_ival, q_items, q_vals, q_rng,     o_add, o_sub, o_mul, o_fdiv, o_mod, o_pow18, o_addT, ag_add, ag_sub, c_lt, c_gt, c_le, c_ge, c_eq, c_ne, c_is, c_isn, c_in, c_nin, u_tup, u_scr, n_scr, n_tup, n_str, n_abs, n_min2, n_max2, tg_nm, tg_2, tg_3, at_0, at_1, at_2, at_3, at_4, i_int, sat_some, getV_0, getV_s,     List.set_cons_zero, List.set_cons_succ, List.map_cons, List.map_nil, List.replicate_succ, List.replicate_zero, List.cons_append, List.nil_append, List.length_cons, List.length_nil, walk_lst hkF, lock_lst, unlk_lst]
  refine sat_of (some_lc hkF hkl day broad _ (.var 3) (fun p => [some .scr, x1, x2, some (.int day), x4, some (.ref w), some (.ref rw), some (.int broad), some (.int (many : Int)), some (.ref kl), none, none, none, none, some (.int p.1), some (.int p.2)]) (fun p => rfl) (fun p => rfl) (fun p => rfl) (fun p => rfl) (fun p Q N hQ => by simp only [q_nil, q_cons, k_nx, k_ret, k_brk, k_ct, q_asg, q_asgA, q_asgS, q_aug, q_ex, q_ret, q_retN, q_pass, q_brk, q_cont, q_ifs, q_for, q_whl, b_t, b_f, be_t, be_f, ba_t, ba_f, bo_t, bo_f, t_bl, t_int, t_non,     q_var, q_con, q_glb, q_tup, q_lst, q_dict0, q_bin, q_neg, q_not, q_and, q_or, q_ife, q_cmp, q_cmp2, q_attr, q_sub, q_srev, q_call, q_callk, q_meth, q_bm, q_new, q_bi, q_isi, q_lc, q_dc, q_sortk, q_sortv, q_dict2, q_anil, q_acons, q_ival, q_items, q_vals, q_rng,     o_add, o_sub, o_mul, o_fdiv, o_mod, o_pow18, o_addT, ag_add, ag_sub, c_lt, c_gt, c_le, c_ge, c_eq, c_ne, c_is, c_isn, c_in, c_nin, u_tup, u_scr, n_scr, n_tup, n_str, n_abs, n_min2, n_max2, tg_nm, tg_2, tg_3, at_0, at_1, at_2, at_3, at_4, i_int, sat_some, getV_0, getV_s,     List.set_cons_zero, List.set_cons_succ, List.map_cons, List.map_nil, List.replicate_succ, List.replicate_zero, List.cons_append, List.nil_append, List.length_cons, List.length_nil]; exact hQ)) ?_
  rw [kn_mb]
  generalize hG : F ++ [Ob.lst (((rd.filter (mbSel day broad)).map (·.2)).map .int)] = G
  have pG : F <+: G := by rw [← hG]; exact List.prefix_append _ _
  have hsG : G[F.length]? = some (.lst (((rd.filter (mbSel day broad)).map (·.2)).map .int)) := by rw [← hG]; exact at_new ..
  have WG := WF.mono pG
  generalize F.length = sm at *
  try simp only [q_nil, q_cons, k_nx, k_ret, k_brk, k_ct, q_asg, q_asgA, q_asgS, q_aug, q_ex, q_ret, q_retN, q_pass, q_brk, q_cont, q_ifs, q_for, q_whl, b_t, b_f, be_t, be_f, ba_t, ba_f, bo_t, bo_f, t_bl, t_int, t_non,     q_var, q_con, q_glb, q_tup, q_lst, q_dict0, q_bin, q_neg, q_not, q_and, q_or, q_ife, q_cmp, q_cmp2, q_attr, q_sub, q_srev, q_call, q_callk, q_meth, q_bm, q_new, q_bi, q_isi, q_lc, q_dc, q_sortk, q_sortv, q_dict2, q_anil, q_acons, q_ival, q_items, q_vals, q_rng,     o_add, o_sub, o_mul, o_fdiv, o_mod, o_pow18, o_addT, ag_add, ag_sub, c_lt, c_gt, c_le, c_ge, c_eq, c_ne, c_is, c_isn, c_in, c_nin, u_tup, u_scr, n_scr, n_tup, n_str, n_abs, n_min2, n_max2, tg_nm, tg_2, tg_3, at_0, at_1, at_2, at_3, at_4, i_int, sat_some, getV_0, getV_s,     List.set_cons_zero, List.set_cons_succ, List.map_cons, List.map_nil, List.replicate_succ, List.replicate_zero, List.cons_append, List.nil_append, List.length_cons, List.length_nil]
  refine sat_mono (mean_by_ok S 5 w pl_a rd day broad G WG.ra W.asc ⟨by omega, by omega⟩ ⟨by omega, by omega⟩) fun v H ⟨pH, hv⟩ => ?_
  subst hv
  have hsl : ((rd.filter (mbSel day broad)).map (·.2)).length ≤ 300 := by
    rw [List.length_map]
    exact Nat.le_trans (List.length_filter_le ..) W.asc.len
  refine sat_mono (law_mean_ok S 8 sm _ H (pre_get pH hsG) (fun a ha => ?_) hsl) fun v J ⟨pJ, hv⟩ => ?_
  · obtain ⟨p, hp, rfl⟩ := List.mem_map.mp ha
    exact W.asc.pos p (List.mem_filter.mp hp).1
  subst hv
  refine ⟨true, ?_, ?_⟩
  · rw [eqW_pur (mean_pur _) (mean_pur _) (by omega) (by omega), decide_eq_true rfl]
  simp only [q_nil, q_cons, k_nx, k_ret, k_brk, k_ct, q_asg, q_asgA, q_asgS, q_aug, q_ex, q_ret, q_retN, q_pass, q_brk, q_cont, q_ifs, q_for, q_whl, b_t, b_f, be_t, be_f, ba_t, ba_f, bo_t, bo_f, t_bl, t_int, t_non,     q_var, q_con, q_glb, q_tup, q_lst, q_dict0, q_bin, q_neg, q_not, q_and, q_or, q_ife, q_cmp, q_cmp2, q_attr, q_sub, q_srev, q_call, q_callk, q_meth, q_bm, q_new, q_bi, q_isi, q_lc, q_dc, q_sortk, q_sortv, q_dict2, q_anil, q_acons, q_ival, q_items, q_vals, q_rng,     o_add, o_sub, o_mul, o_fdiv, o_mod, o_pow18, o_addT, ag_add, ag_sub, c_lt, c_gt, c_le, c_ge, c_eq, c_ne, c_is, c_isn, c_in, c_nin, u_tup, u_scr, n_scr, n_tup, n_str, n_abs, n_min2, n_max2, tg_nm, tg_2, tg_3, at_0, at_1, at_2, at_3, at_4, i_int, sat_some, getV_0, getV_s,     List.set_cons_zero, List.set_cons_succ, List.map_cons, List.map_nil, List.replicate_succ, List.replicate_zero, List.cons_append, List.nil_append, List.length_cons, List.length_nil, Bool.not_true]
  have hb1 : 0 ≤ broad ∧ broad ≤ 100 := ⟨by omega, by omega⟩
  have hm2 : 1 ≤ many ∧ many ≤ 4 := ⟨by omega, by omega⟩
  have WJ := WG.mono (pH.trans pJ)
  have hkJ := pre_get (pG.trans (pH.trans pJ)) hkF
  rw [← RL_iff]
  exact h day broad many kl (some (.ref sm)) J WJ hd hb1 hm2 hkJ
theorem lf_pur (rd : List (Int × Int)) (day wide : Int) (j : Nat) : pur 6 (lf rd day wide j) = true := by
  unfold lf meanOf
  split <;> rfl
theorem stD {S : List Int} (hl : S.length ≤ 63) {rd : List (Int × Int)} {w rw : Nat} {M : Mem} (W : W29 rd w rw M) {day broad : Int} {many kl : Nat} (hd : 0 ≤ day ∧ day ≤ 9000) (hb : 0 ≤ broad ∧ broad ≤ 100) (hm : 1 ≤ many ∧ many ≤ 4) (hk : M[kl]? = some (.lst ((knO rd day).map rdP))) {x1 x2 x4 x10 : Option Wv} {Q : Fl × Sw → Mem → Prop} (h : ∀ (x2 : Option Wv) (du : Nat) M', M <+: M' → RL S 13 [some .scr, x1, x2, some (.int day), x4, some (.ref w), some (.ref rw), some (.int broad), some (.int (many : Int)), some (.ref kl), x10, some (.ref du), none, none, none, none] M' Q) :
    RL S 9 [some .scr, x1, x2, some (.int day), x4, some (.ref w), some (.ref rw), some (.int broad), some (.int (many : Int)), some (.ref kl), x10, none, none, none, none, none] M Q := by
  have hz : 1001 ≤ sizeLine := by decide
  have hkl : (knO rd day).length ≤ 300 := Nat.le_trans (List.length_filter_le ..) W.asc.len
  rw [RL_iff]
  show (evSl _ _ _ _ (.cons _ (.cons _ (.cons _ (.cons _ (lawT 13))))) _ _).sat _
  rw [q_cons, q_asg, q_lst]
  simp only [q_anil, List.length_nil, tg_nm, sat_some, List.set_cons_zero, List.set_cons_succ]
  refine ⟨len_ok (by decide), ?_⟩
  rw [k_nx, q_cons, q_for, q_rng]
  simp only [q_nil, q_cons, k_nx, k_ret, k_brk, k_ct, q_asg, q_asgA, q_asgS, q_aug, q_ex, q_ret, q_retN, q_pass, q_brk, q_cont, q_ifs, q_for, q_whl, b_t, b_f, be_t, be_f, ba_t, ba_f, bo_t, bo_f, t_bl, t_int, t_non,     q_var, q_con, q_glb, q_tup, q_lst, q_dict0, q_bin, q_neg, q_not, q_and, q_or, q_ife, q_cmp, q_cmp2, q_attr, q_sub, q_srev, q_call, q_callk, q_meth, q_bm, q_new, q_bi, q_isi, q_lc, q_dc, q_sortk, q_sortv, q_dict2, q_anil, q_acons, q_ival, q_items, q_vals, q_rng,     o_add, o_sub, o_mul, o_fdiv, o_mod, o_pow18, o_addT, ag_add, ag_sub, c_lt, c_gt, c_le, c_ge, c_eq, c_ne, c_is, c_isn, c_in, c_nin, u_tup, u_scr, n_scr, n_tup, n_str, n_abs, n_min2, n_max2, tg_nm, tg_2, tg_3, at_0, at_1, at_2, at_3, at_4, i_int, sat_some, getV_0, getV_s,     List.set_cons_zero, List.set_cons_succ, List.map_cons, List.map_nil, List.replicate_succ, List.replicate_zero, List.cons_append, List.nil_append, List.length_cons, List.length_nil]
  refine ⟨rng_ok (by omega) (by omega) (by omega) (by omega), ?_⟩
  rw [rng_eq 1 _ many (by omega)]
  simp only [lk_nil, ul_nil]
  generalize hM1 : M ++ [Ob.lst []] = M1
  have p1 : M <+: M1 := by rw [← hM1]; exact List.prefix_append _ _
  have hf1 : M1[M.length]? = some (.lst []) := by rw [← hM1]; exact at_new ..
  generalize hfn : M.length = f at *
  refine sat_mono (for_rule (Q := fun q M' => ∃ x2, q = (.nx, [some .scr, x1, x2, some (.int day), x4, some (.ref w), some (.ref rw), some (.int broad), some (.int (many : Int)), some (.ref kl), x10, some (.ref f), none, none, none, none]) ∧ M <+: M' ∧ M'[f]? = some (.lst ((List.range many).map (lf rd day broad))))
    (fun pre post σ M' => ∃ (n : Nat) (x2 : Option Wv), n ≤ many ∧ post = ((List.range many).drop n).map (fun k : Nat => Wv.int (1 + (k : Int))) ∧ σ = [some .scr, x1, x2, some (.int day), x4, some (.ref w), some (.ref rw), some (.int broad), some (.int (many : Int)), some (.ref kl), x10, some (.ref f), none, none, none, none] ∧ M <+: M' ∧ M'[f]? = some (.lst ((List.range n).map (lf rd day broad)))) ?_ ?_ _ [] _ _ ⟨0, _, by omega, rfl, rfl, p1, hf1⟩) fun q M2 ⟨x2, eq, p2, hf2⟩ => ?_
  · rintro pre x post σ M' ⟨n, x2, hn, hpost, rfl, pm, hf⟩
    have hn2 : n < many := by
      by_cases z : n < many
      · exact z
      · rw [List.drop_eq_nil_of_le (by simp; omega)] at hpost; cases hpost
    rw [List.drop_eq_getElem_cons (by simpa using hn2)] at hpost
    simp only [List.getElem_range, List.map_cons, List.cons.injEq] at hpost
    obtain ⟨rfl, rfl⟩ := hpost
    refine ⟨rfl, [some .scr, x1, some (.int (1 + (n : Int))), some (.int day), x4, some (.ref w), some (.ref rw), some (.int broad), some (.int (many : Int)), some (.ref kl), x10, some (.ref f), none, none, none, none], rfl, ?_⟩
    have hkM := pre_get pm hk
    rw [q_cons, q_ex, q_bm]
    simp only [q_var, getV_0, getV_s, sat_some, q_acons, q_call, q_lc, q_ival, walk_lst hkM, lock_lst, unlk_lst]
    refine ⟨bmT_append hf, ?_⟩
    refine sat_of (some_lc hkM hkl (day + (1 + (n : Int))) broad _ (.bin .add (.var 3) (.var 2)) (fun p => [some .scr, x1, some (.int (1 + (n : Int))), some (.int day), x4, some (.ref w), some (.ref rw), some (.int broad), some (.int (many : Int)), some (.ref kl), x10, some (.ref f), none, none, some (.int p.1), some (.int p.2)]) (fun p => rfl) (fun p => rfl) (fun p => rfl) (fun p => rfl) (fun p Q N hQ => by simp only [q_nil, q_cons, k_nx, k_ret, k_brk, k_ct, q_asg, q_asgA, q_asgS, q_aug, q_ex, q_ret, q_retN, q_pass, q_brk, q_cont, q_ifs, q_for, q_whl, b_t, b_f, be_t, be_f, ba_t, ba_f, bo_t, bo_f, t_bl, t_int, t_non,     q_var, q_con, q_glb, q_tup, q_lst, q_dict0, q_bin, q_neg, q_not, q_and, q_or, q_ife, q_cmp, q_cmp2, q_attr, q_sub, q_srev, q_call, q_callk, q_meth, q_bm, q_new, q_bi, q_isi, q_lc, q_dc, q_sortk, q_sortv, q_dict2, q_anil, q_acons, q_ival, q_items, q_vals, q_rng,     o_add, o_sub, o_mul, o_fdiv, o_mod, o_pow18, o_addT, ag_add, ag_sub, c_lt, c_gt, c_le, c_ge, c_eq, c_ne, c_is, c_isn, c_in, c_nin, u_tup, u_scr, n_scr, n_tup, n_str, n_abs, n_min2, n_max2, tg_nm, tg_2, tg_3, at_0, at_1, at_2, at_3, at_4, i_int, sat_some, getV_0, getV_s,     List.set_cons_zero, List.set_cons_succ, List.map_cons, List.map_nil, List.replicate_succ, List.replicate_zero, List.cons_append, List.nil_append, List.length_cons, List.length_nil]; exact hQ)) ?_
    rw [kn_lf]
    simp only [q_nil, q_cons, k_nx, k_ret, k_brk, k_ct, q_asg, q_asgA, q_asgS, q_aug, q_ex, q_ret, q_retN, q_pass, q_brk, q_cont, q_ifs, q_for, q_whl, b_t, b_f, be_t, be_f, ba_t, ba_f, bo_t, bo_f, t_bl, t_int, t_non,     q_var, q_con, q_glb, q_tup, q_lst, q_dict0, q_bin, q_neg, q_not, q_and, q_or, q_ife, q_cmp, q_cmp2, q_attr, q_sub, q_srev, q_call, q_callk, q_meth, q_bm, q_new, q_bi, q_isi, q_lc, q_dc, q_sortk, q_sortv, q_dict2, q_anil, q_acons, q_ival, q_items, q_vals, q_rng,     o_add, o_sub, o_mul, o_fdiv, o_mod, o_pow18, o_addT, ag_add, ag_sub, c_lt, c_gt, c_le, c_ge, c_eq, c_ne, c_is, c_isn, c_in, c_nin, u_tup, u_scr, n_scr, n_tup, n_str, n_abs, n_min2, n_max2, tg_nm, tg_2, tg_3, at_0, at_1, at_2, at_3, at_4, i_int, sat_some, getV_0, getV_s,     List.set_cons_zero, List.set_cons_succ, List.map_cons, List.map_nil, List.replicate_succ, List.replicate_zero, List.cons_append, List.nil_append, List.length_cons, List.length_nil]
    generalize hG : M' ++ [Ob.lst (((rd.filter (lfSel day broad n)).map (·.2)).map .int)] = G
    have pG : M' <+: G := by rw [← hG]; exact List.prefix_append _ _
    have hsG : G[M'.length]? = some (.lst (((rd.filter (lfSel day broad n)).map (·.2)).map .int)) := by rw [← hG]; exact at_new ..
    have hsl : ((rd.filter (lfSel day broad n)).map (·.2)).length ≤ 300 := by
      rw [List.length_map]
      exact Nat.le_trans (List.length_filter_le ..) W.asc.len
    refine sat_mono (law_mean_ok S 8 M'.length _ G hsG (fun a ha => ?_) hsl) fun v J ⟨pJ, hv⟩ => ?_
    · obtain ⟨p, hp, rfl⟩ := List.mem_map.mp ha
      exact W.asc.pos p (List.mem_filter.mp hp).1
    subst hv
    have hfJ := pre_get (pG.trans pJ) hf
    have hflt : f < J.length := (List.getElem?_eq_some_iff.mp hfJ).1
    refine sat_of (bm_append hfJ (by simp; omega)) ?_
    refine ⟨n + 1, _, hn2, rfl, rfl, pre_set (pm.trans (pG.trans pJ)) (by omega), ?_⟩
    rw [List.getElem?_set_self hflt, List.range_succ, List.map_append]
    rfl
  · rintro pre σ M' ⟨n, x2, hn, hpost, rfl, pm, hf⟩
    have hn2 : n = many := by
      by_cases z : n < many
      · rw [List.drop_eq_getElem_cons (by simpa using z)] at hpost; cases hpost
      · omega
    subst hn2
    exact ⟨rfl, x2, rfl, pm, hf⟩
  · subst eq
    have W2 := W.mono p2
    try simp only [q_nil, q_cons, k_nx, k_ret, k_brk, k_ct, q_asg, q_asgA, q_asgS, q_aug, q_ex, q_ret, q_retN, q_pass, q_brk, q_cont, q_ifs, q_for, q_whl, b_t, b_f, be_t, be_f, ba_t, ba_f, bo_t, bo_f, t_bl, t_int, t_non,     q_var, q_con, q_glb, q_tup, q_lst, q_dict0, q_bin, q_neg, q_not, q_and, q_or, q_ife, q_cmp, q_cmp2, q_attr, q_sub, q_srev, q_call, q_callk, q_meth, q_bm, q_new, q_bi, q_isi, q_lc, q_dc, q_sortk, q_sortv, q_dict2, q_anil, q_acons, q_ival, q_items, q_vals, q_rng,     o_add, o_sub, o_mul, o_fdiv, o_mod, o_pow18, o_addT, ag_add, ag_sub, c_lt, c_gt, c_le, c_ge, c_eq, c_ne, c_is, c_isn, c_in, c_nin, u_tup, u_scr, n_scr, n_tup, n_str, n_abs, n_min2, n_max2, tg_nm, tg_2, tg_3, at_0, at_1, at_2, at_3, at_4, i_int, sat_some, getV_0, getV_s,     List.set_cons_zero, List.set_cons_succ, List.map_cons, List.map_nil, List.replicate_succ, List.replicate_zero, List.cons_append, List.nil_append, List.length_cons, List.length_nil]
    refine sat_mono (looked_for_ok S 5 w pl_a rd day broad many M2 W2.ra W.asc ⟨by omega, by omega⟩ ⟨by omega, by omega⟩ ⟨by omega, by omega⟩) fun v M3 ⟨p3, y3, hv, _, hy3⟩ => ?_
    subst hv
    try simp only [q_nil, q_cons, k_nx, k_ret, k_brk, k_ct, q_asg, q_asgA, q_asgS, q_aug, q_ex, q_ret, q_retN, q_pass, q_brk, q_cont, q_ifs, q_for, q_whl, b_t, b_f, be_t, be_f, ba_t, ba_f, bo_t, bo_f, t_bl, t_int, t_non,     q_var, q_con, q_glb, q_tup, q_lst, q_dict0, q_bin, q_neg, q_not, q_and, q_or, q_ife, q_cmp, q_cmp2, q_attr, q_sub, q_srev, q_call, q_callk, q_meth, q_bm, q_new, q_bi, q_isi, q_lc, q_dc, q_sortk, q_sortv, q_dict2, q_anil, q_acons, q_ival, q_items, q_vals, q_rng,     o_add, o_sub, o_mul, o_fdiv, o_mod, o_pow18, o_addT, ag_add, ag_sub, c_lt, c_gt, c_le, c_ge, c_eq, c_ne, c_is, c_isn, c_in, c_nin, u_tup, u_scr, n_scr, n_tup, n_str, n_abs, n_min2, n_max2, tg_nm, tg_2, tg_3, at_0, at_1, at_2, at_3, at_4, i_int, sat_some, getV_0, getV_s,     List.set_cons_zero, List.set_cons_succ, List.map_cons, List.map_nil, List.replicate_succ, List.replicate_zero, List.cons_append, List.nil_append, List.length_cons, List.length_nil]
    refine ⟨true, eqW_lists hy3 (pre_get p3 hf2) fun x hx => ?_, ?_⟩
    · obtain ⟨j, _, rfl⟩ := List.mem_map.mp hx
      exact lf_pur ..
    simp only [q_nil, q_cons, k_nx, k_ret, k_brk, k_ct, q_asg, q_asgA, q_asgS, q_aug, q_ex, q_ret, q_retN, q_pass, q_brk, q_cont, q_ifs, q_for, q_whl, b_t, b_f, be_t, be_f, ba_t, ba_f, bo_t, bo_f, t_bl, t_int, t_non,     q_var, q_con, q_glb, q_tup, q_lst, q_dict0, q_bin, q_neg, q_not, q_and, q_or, q_ife, q_cmp, q_cmp2, q_attr, q_sub, q_srev, q_call, q_callk, q_meth, q_bm, q_new, q_bi, q_isi, q_lc, q_dc, q_sortk, q_sortv, q_dict2, q_anil, q_acons, q_ival, q_items, q_vals, q_rng,     o_add, o_sub, o_mul, o_fdiv, o_mod, o_pow18, o_addT, ag_add, ag_sub, c_lt, c_gt, c_le, c_ge, c_eq, c_ne, c_is, c_isn, c_in, c_nin, u_tup, u_scr, n_scr, n_tup, n_str, n_abs, n_min2, n_max2, tg_nm, tg_2, tg_3, at_0, at_1, at_2, at_3, at_4, i_int, sat_some, getV_0, getV_s,     List.set_cons_zero, List.set_cons_succ, List.map_cons, List.map_nil, List.replicate_succ, List.replicate_zero, List.cons_append, List.nil_append, List.length_cons, List.length_nil, Bool.not_true]
    have W3 := W2.mono p3
    refine sat_mono (looked_for_ok S 5 w pl_a rd day 7 many M3 W3.ra W.asc ⟨by omega, by omega⟩ ⟨by omega, by omega⟩ ⟨by omega, by omega⟩) fun v M4 ⟨p4, y4, hv, _, hy4⟩ => ?_
    subst hv
    try simp only [q_nil, q_cons, k_nx, k_ret, k_brk, k_ct, q_asg, q_asgA, q_asgS, q_aug, q_ex, q_ret, q_retN, q_pass, q_brk, q_cont, q_ifs, q_for, q_whl, b_t, b_f, be_t, be_f, ba_t, ba_f, bo_t, bo_f, t_bl, t_int, t_non,     q_var, q_con, q_glb, q_tup, q_lst, q_dict0, q_bin, q_neg, q_not, q_and, q_or, q_ife, q_cmp, q_cmp2, q_attr, q_sub, q_srev, q_call, q_callk, q_meth, q_bm, q_new, q_bi, q_isi, q_lc, q_dc, q_sortk, q_sortv, q_dict2, q_anil, q_acons, q_ival, q_items, q_vals, q_rng,     o_add, o_sub, o_mul, o_fdiv, o_mod, o_pow18, o_addT, ag_add, ag_sub, c_lt, c_gt, c_le, c_ge, c_eq, c_ne, c_is, c_isn, c_in, c_nin, u_tup, u_scr, n_scr, n_tup, n_str, n_abs, n_min2, n_max2, tg_nm, tg_2, tg_3, at_0, at_1, at_2, at_3, at_4, i_int, sat_some, getV_0, getV_s,     List.set_cons_zero, List.set_cons_succ, List.map_cons, List.map_nil, List.replicate_succ, List.replicate_zero, List.cons_append, List.nil_append, List.length_cons, List.length_nil]
    have W4 := W3.mono p4
    refine sat_mono (looked_for_ok S 5 w pl_a rd day 7 many M4 W4.ra W.asc ⟨by omega, by omega⟩ ⟨by omega, by omega⟩ ⟨by omega, by omega⟩) fun v M5 ⟨p5, y5, hv, _, hy5⟩ => ?_
    subst hv
    try simp only [q_nil, q_cons, k_nx, k_ret, k_brk, k_ct, q_asg, q_asgA, q_asgS, q_aug, q_ex, q_ret, q_retN, q_pass, q_brk, q_cont, q_ifs, q_for, q_whl, b_t, b_f, be_t, be_f, ba_t, ba_f, bo_t, bo_f, t_bl, t_int, t_non,     q_var, q_con, q_glb, q_tup, q_lst, q_dict0, q_bin, q_neg, q_not, q_and, q_or, q_ife, q_cmp, q_cmp2, q_attr, q_sub, q_srev, q_call, q_callk, q_meth, q_bm, q_new, q_bi, q_isi, q_lc, q_dc, q_sortk, q_sortv, q_dict2, q_anil, q_acons, q_ival, q_items, q_vals, q_rng,     o_add, o_sub, o_mul, o_fdiv, o_mod, o_pow18, o_addT, ag_add, ag_sub, c_lt, c_gt, c_le, c_ge, c_eq, c_ne, c_is, c_isn, c_in, c_nin, u_tup, u_scr, n_scr, n_tup, n_str, n_abs, n_min2, n_max2, tg_nm, tg_2, tg_3, at_0, at_1, at_2, at_3, at_4, i_int, sat_some, getV_0, getV_s,     List.set_cons_zero, List.set_cons_succ, List.map_cons, List.map_nil, List.replicate_succ, List.replicate_zero, List.cons_append, List.nil_append, List.length_cons, List.length_nil]
    refine ⟨true, eqW_lists (pre_get p5 hy4) hy5 fun x hx => ?_, ?_⟩
    · obtain ⟨j, _, rfl⟩ := List.mem_map.mp hx
      exact lf_pur ..
    simp only [q_nil, q_cons, k_nx, k_ret, k_brk, k_ct, q_asg, q_asgA, q_asgS, q_aug, q_ex, q_ret, q_retN, q_pass, q_brk, q_cont, q_ifs, q_for, q_whl, b_t, b_f, be_t, be_f, ba_t, ba_f, bo_t, bo_f, t_bl, t_int, t_non,     q_var, q_con, q_glb, q_tup, q_lst, q_dict0, q_bin, q_neg, q_not, q_and, q_or, q_ife, q_cmp, q_cmp2, q_attr, q_sub, q_srev, q_call, q_callk, q_meth, q_bm, q_new, q_bi, q_isi, q_lc, q_dc, q_sortk, q_sortv, q_dict2, q_anil, q_acons, q_ival, q_items, q_vals, q_rng,     o_add, o_sub, o_mul, o_fdiv, o_mod, o_pow18, o_addT, ag_add, ag_sub, c_lt, c_gt, c_le, c_ge, c_eq, c_ne, c_is, c_isn, c_in, c_nin, u_tup, u_scr, n_scr, n_tup, n_str, n_abs, n_min2, n_max2, tg_nm, tg_2, tg_3, at_0, at_1, at_2, at_3, at_4, i_int, sat_some, getV_0, getV_s,     List.set_cons_zero, List.set_cons_succ, List.map_cons, List.map_nil, List.replicate_succ, List.replicate_zero, List.cons_append, List.nil_append, List.length_cons, List.length_nil, Bool.not_true]
    rw [← RL_iff]
    exact h x2 f M5 (p2.trans (p3.trans (p4.trans p5)))
end Bh
end
section
set_option Elab.async false
set_option linter.all false
set_option maxRecDepth 100000
set_option maxHeartbeats 0
namespace Bh
open PySem MP
theorem dryF_nil (m : Nat) : dryF ([] : List (Int × Int)) m = .non := rfl
theorem stE {S : List Int} {rd : List (Int × Int)} {w rw : Nat} {M : Mem} (W : W29 rd w rw M) {day broad : Int} {many kl : Nat} (hd : 0 ≤ day ∧ day ≤ 9000) (hm : 1 ≤ many ∧ many ≤ 4) (hk : M[kl]? = some (.lst ((knO rd day).map rdP))) {x1 x2 x4 x10 x11 : Option Wv} {Q : Fl × Sw → Mem → Prop} (h : ∀ σ M', Q (.ret (.bl true), σ) M') :
    RL S 13 [some .scr, x1, x2, some (.int day), x4, some (.ref w), some (.ref rw), some (.int broad), some (.int (many : Int)), some (.ref kl), x10, x11, none, none, none, none] M Q := by
  have hz : 1001 ≤ sizeLine := by decide
  have hasc : Asc (knO rd day) := asc_filter W.asc _
  have hkbd : ∀ p ∈ knO rd day, 0 ≤ p.1 ∧ p.1 ≤ 9999 := fun p hp => W.bd p (List.mem_filter.mp hp).1
  rw [RL_iff]
  show (evSl _ _ _ _ (.cons _ (.cons _ (.cons _ (.cons _ .nil)))) _ _).sat _
  rw [q_cons, q_asg, q_tup]
  simp only [q_nil, q_cons, k_nx, k_ret, k_brk, k_ct, q_asg, q_asgA, q_asgS, q_aug, q_ex, q_ret, q_retN, q_pass, q_brk, q_cont, q_ifs, q_for, q_whl, b_t, b_f, be_t, be_f, ba_t, ba_f, bo_t, bo_f, t_bl, t_int, t_non,     q_var, q_con, q_glb, q_tup, q_lst, q_dict0, q_bin, q_neg, q_not, q_and, q_or, q_ife, q_cmp, q_cmp2, q_attr, q_sub, q_srev, q_call, q_callk, q_meth, q_bm, q_new, q_bi, q_isi, q_lc, q_dc, q_sortk, q_sortv, q_dict2, q_anil, q_acons, q_ival, q_items, q_vals, q_rng,     o_add, o_sub, o_mul, o_fdiv, o_mod, o_pow18, o_addT, ag_add, ag_sub, c_lt, c_gt, c_le, c_ge, c_eq, c_ne, c_is, c_isn, c_in, c_nin, u_tup, u_scr, n_scr, n_tup, n_str, n_abs, n_min2, n_max2, tg_nm, tg_2, tg_3, at_0, at_1, at_2, at_3, at_4, i_int, sat_some, getV_0, getV_s,     List.set_cons_zero, List.set_cons_succ, List.map_cons, List.map_nil, List.replicate_succ, List.replicate_zero, List.cons_append, List.nil_append, List.length_cons, List.length_nil]
  refine sat_of (rd_dict hasc hk) ?_
  refine ⟨len_ok (by decide), ?_⟩
  generalize hM1 : M ++ [Ob.dct false (rdD (knO rd day))] = M1
  have p1 : M <+: M1 := by rw [← hM1]; exact List.prefix_append _ _
  have hd1 : M1[M.length]? = some (.dct false (rdD (knO rd day))) := by rw [← hM1]; exact at_new ..
  generalize M.length = am at *
  refine sat_of (rd_sorted hasc hd1) ?_
  generalize hM2 : M1 ++ [Ob.lst ((knO rd day).map fun p => .int p.1)] = M2
  have p2 : M1 <+: M2 := by rw [← hM2]; exact List.prefix_append _ _
  have hy2 : M2[M1.length]? = some (.lst ((knO rd day).map fun p => .int p.1)) := by rw [← hM2]; exact at_new ..
  have hd2 := pre_get p2 hd1
  generalize M1.length = yl at *
  try simp only [q_nil, q_cons, k_nx, k_ret, k_brk, k_ct, q_asg, q_asgA, q_asgS, q_aug, q_ex, q_ret, q_retN, q_pass, q_brk, q_cont, q_ifs, q_for, q_whl, b_t, b_f, be_t, be_f, ba_t, ba_f, bo_t, bo_f, t_bl, t_int, t_non,     q_var, q_con, q_glb, q_tup, q_lst, q_dict0, q_bin, q_neg, q_not, q_and, q_or, q_ife, q_cmp, q_cmp2, q_attr, q_sub, q_srev, q_call, q_callk, q_meth, q_bm, q_new, q_bi, q_isi, q_lc, q_dc, q_sortk, q_sortv, q_dict2, q_anil, q_acons, q_ival, q_items, q_vals, q_rng,     o_add, o_sub, o_mul, o_fdiv, o_mod, o_pow18, o_addT, ag_add, ag_sub, c_lt, c_gt, c_le, c_ge, c_eq, c_ne, c_is, c_isn, c_in, c_nin, u_tup, u_scr, n_scr, n_tup, n_str, n_abs, n_min2, n_max2, tg_nm, tg_2, tg_3, at_0, at_1, at_2, at_3, at_4, i_int, sat_some, getV_0, getV_s,     List.set_cons_zero, List.set_cons_succ, List.map_cons, List.map_nil, List.replicate_succ, List.replicate_zero, List.cons_append, List.nil_append, List.length_cons, List.length_nil, walk_lst hy2, lock_lst, unlk_lst]
  have W2 := W.mono (p1.trans p2)
  generalize hrf : knO rd day = rf at *
  refine sat_mono (for_rule (Q := fun q M' => ∃ x10 x14, q = (.nx, [some .scr, x1, x2, some (.int day), x4, some (.ref w), some (.ref rw), some (.int broad), some (.int (many : Int)), some (.ref kl), x10, x11, some (dryF rf many), some (.ref am), x14, none]) ∧ M2 <+: M')
    (fun pre post σ M' => ∃ pd qd : List (Int × Int), rf = pd ++ qd ∧ post = qd.map (fun p => Wv.int p.1) ∧ (∃ x10 x14, σ = [some .scr, x1, x2, some (.int day), x4, some (.ref w), some (.ref rw), some (.int broad), some (.int (many : Int)), some (.ref kl), x10, x11, some ((pd.map (·.1)).foldl (dryS rf many) .non), some (.ref am), x14, none]) ∧ M2 <+: M') ?_ ?_ _ [] _ _ ⟨[], rf, rfl, rfl, ⟨_, _, rfl⟩, List.prefix_refl _⟩) fun q M6 ⟨x10, x14, eq, p6⟩ => ?_
  · rintro pre x post σ M' ⟨pd, qd, hpq, hpost, ⟨x10, x14, rfl⟩, pm⟩
    match qd, hpost with
    | p :: qd, hpost =>
    simp only [List.map_cons, List.cons.injEq] at hpost
    obtain ⟨rfl, rfl⟩ := hpost
    have hpm : p ∈ rf := by rw [hpq]; simp
    have hdM := pre_get pm hd2
    generalize hb : ((pd.map (·.1)).foldl (dryS rf many) Wv.non) = best
    have hbo : BestOk best := by rw [← hb]; exact fold_ok rf many _ (.inl rfl)
    refine ⟨stays_lst (pre_get pm hy2), [some .scr, x1, x2, some (.int day), x4, some (.ref w), some (.ref rw), some (.int broad), some (.int (many : Int)), some (.ref kl), x10, x11, some best, some (.ref am), some (.int p.1), none], rfl, ?_⟩
    rw [q_cons, q_asg, q_lc, q_rng]
    simp only [q_var, q_con, q_bin, getV_0, getV_s, sat_some, o_add, i_int]
    refine ⟨rng_ok (by omega) (by omega) (by omega) (by omega), ?_⟩
    rw [rng_eq 0 _ many (by omega)]
    simp only [lk_nil, ul_nil]
    refine sat_of (lc_pure (fun x => match x with | .int i => (look rf (p.1 + i)).isSome | _ => false) (fun x => match x with | .int i => .int ((look rf (p.1 + i)).getD 0) | _ => .non) rfl (by simp; omega) (fun x hx => ?_)) ?_
    · obtain ⟨i, hi, rfl⟩ := List.mem_map.mp hx
      have e0 : (0 : Int) + (i : Int) = (i : Int) := by omega
      rw [e0]
      refine ⟨[some .scr, x1, some (.int (i : Int)), some (.int day), x4, some (.ref w), some (.ref rw), some (.int broad), some (.int (many : Int)), some (.ref kl), x10, x11, some best, some (.ref am), some (.int p.1), none], rfl, ⟨.bl (look rf (p.1 + (i : Int))).isSome, sat_eq ?_, rfl⟩, fun hc => sat_eq ?_⟩
      · simp only [q_nil, q_cons, k_nx, k_ret, k_brk, k_ct, q_asg, q_asgA, q_asgS, q_aug, q_ex, q_ret, q_retN, q_pass, q_brk, q_cont, q_ifs, q_for, q_whl, b_t, b_f, be_t, be_f, ba_t, ba_f, bo_t, bo_f, t_bl, t_int, t_non,     q_var, q_con, q_glb, q_tup, q_lst, q_dict0, q_bin, q_neg, q_not, q_and, q_or, q_ife, q_cmp, q_cmp2, q_attr, q_sub, q_srev, q_call, q_callk, q_meth, q_bm, q_new, q_bi, q_isi, q_lc, q_dc, q_sortk, q_sortv, q_dict2, q_anil, q_acons, q_ival, q_items, q_vals, q_rng,     o_add, o_sub, o_mul, o_fdiv, o_mod, o_pow18, o_addT, ag_add, ag_sub, c_lt, c_gt, c_le, c_ge, c_eq, c_ne, c_is, c_isn, c_in, c_nin, u_tup, u_scr, n_scr, n_tup, n_str, n_abs, n_min2, n_max2, tg_nm, tg_2, tg_3, at_0, at_1, at_2, at_3, at_4, i_int, sat_some, getV_0, getV_s,     List.set_cons_zero, List.set_cons_succ, List.map_cons, List.map_nil, List.replicate_succ, List.replicate_zero, List.cons_append, List.nil_append, List.length_cons, List.length_nil]
        refine ⟨_, in_dct hdM (rdD_key _ _), ?_, trivial⟩
        rw [rdD_get]
        cases look rf (p.1 + (i : Int)) <;> rfl
      · have hc' : (look rf (p.1 + (i : Int))).isSome = true := hc
        obtain ⟨z, hz'⟩ := Option.isSome_iff_exists.mp hc'
        simp only [q_nil, q_cons, k_nx, k_ret, k_brk, k_ct, q_asg, q_asgA, q_asgS, q_aug, q_ex, q_ret, q_retN, q_pass, q_brk, q_cont, q_ifs, q_for, q_whl, b_t, b_f, be_t, be_f, ba_t, ba_f, bo_t, bo_f, t_bl, t_int, t_non,     q_var, q_con, q_glb, q_tup, q_lst, q_dict0, q_bin, q_neg, q_not, q_and, q_or, q_ife, q_cmp, q_cmp2, q_attr, q_sub, q_srev, q_call, q_callk, q_meth, q_bm, q_new, q_bi, q_isi, q_lc, q_dc, q_sortk, q_sortv, q_dict2, q_anil, q_acons, q_ival, q_items, q_vals, q_rng,     o_add, o_sub, o_mul, o_fdiv, o_mod, o_pow18, o_addT, ag_add, ag_sub, c_lt, c_gt, c_le, c_ge, c_eq, c_ne, c_is, c_isn, c_in, c_nin, u_tup, u_scr, n_scr, n_tup, n_str, n_abs, n_min2, n_max2, tg_nm, tg_2, tg_3, at_0, at_1, at_2, at_3, at_4, i_int, sat_some, getV_0, getV_s,     List.set_cons_zero, List.set_cons_succ, List.map_cons, List.map_nil, List.replicate_succ, List.replicate_zero, List.cons_append, List.nil_append, List.length_cons, List.length_nil]
        refine sat_of (sub_dct hdM (rdD_key _ _) (by rw [rdD_get, hz']; rfl)) ⟨?_, rfl⟩
        show Wv.int z = Wv.int ((look rf (p.1 + (i : Int))).getD 0)
        rw [hz']; rfl
    rw [win_eq rf many p.1 _ _ _ (fun k => by show (look rf (p.1 + (0 + (k : Int)))).isSome = _; rw [show (0 : Int) + (k : Int) = (k : Int) by omega]) (fun k a ha => by show Wv.int ((look rf (p.1 + (0 + (k : Int)))).getD 0) = _; rw [show (0 : Int) + (k : Int) = (k : Int) by omega, ha]; rfl)]
    simp only [tg_nm, sat_some, List.set_cons_zero, List.set_cons_succ]
    generalize hM7 : M' ++ [Ob.lst ((winL rf many p.1).map .int)] = M7
    have hr7 : M7[M'.length]? = some (.lst ((winL rf many p.1).map .int)) := by rw [← hM7]; exact at_new ..
    have p7 : M' <+: M7 := by rw [← hM7]; exact List.prefix_append _ _
    have hsum : biW (Gp S) .sum [.ref M'.length] M7 = .ok (.int (winL rf many p.1).sum) M7 := n_sum (Gp S) _ _ hr7
    have hlen : biW (Gp S) .len [.ref M'.length] M7 = .ok (.int (winL rf many p.1).length) M7 := by
      have := n_lenL (Gp S) M'.length _ hr7
      rw [List.length_map] at this
      exact this
    simp only [q_nil, q_cons, k_nx, k_ret, k_brk, k_ct, q_asg, q_asgA, q_asgS, q_aug, q_ex, q_ret, q_retN, q_pass, q_brk, q_cont, q_ifs, q_for, q_whl, b_t, b_f, be_t, be_f, ba_t, ba_f, bo_t, bo_f, t_bl, t_int, t_non,     q_var, q_con, q_glb, q_tup, q_lst, q_dict0, q_bin, q_neg, q_not, q_and, q_or, q_ife, q_cmp, q_cmp2, q_attr, q_sub, q_srev, q_call, q_callk, q_meth, q_bm, q_new, q_bi, q_isi, q_lc, q_dc, q_sortk, q_sortv, q_dict2, q_anil, q_acons, q_ival, q_items, q_vals, q_rng,     o_add, o_sub, o_mul, o_fdiv, o_mod, o_pow18, o_addT, ag_add, ag_sub, c_lt, c_gt, c_le, c_ge, c_eq, c_ne, c_is, c_isn, c_in, c_nin, u_tup, u_scr, n_scr, n_tup, n_str, n_abs, n_min2, n_max2, tg_nm, tg_2, tg_3, at_0, at_1, at_2, at_3, at_4, i_int, sat_some, getV_0, getV_s,     List.set_cons_zero, List.set_cons_succ, List.map_cons, List.map_nil, List.replicate_succ, List.replicate_zero, List.cons_append, List.nil_append, List.length_cons, List.length_nil, hsum, hlen, sat_ok]
    refine ⟨_, eqW_int _ _, ?_⟩
    have hrf2 : rf = (pd ++ [p]) ++ qd := by rw [hpq]; simp
    have fin : ∀ (b : Wv), b = dryS rf many best p.1 → ∃ pd_1 qd_1 : List (Int × Int), rf = pd_1 ++ qd_1 ∧ qd.map (fun p => Wv.int p.1) = qd_1.map (fun p => Wv.int p.1) ∧ (∃ y10 y14, [some Wv.scr, x1, x2, some (.int day), x4, some (.ref w), some (.ref rw), some (.int broad), some (.int (many : Int)), some (.ref kl), some (.ref M'.length), x11, some b, some (.ref am), some (.int p.1), none] = [some Wv.scr, x1, x2, some (.int day), x4, some (.ref w), some (.ref rw), some (.int broad), some (.int (many : Int)), some (.ref kl), y10, x11, some ((pd_1.map (·.1)).foldl (dryS rf many) .non), some (.ref am), y14, none]) ∧ M2 <+: M7 := fun b hb' => by
      refine ⟨pd ++ [p], qd, hrf2, rfl, ⟨some (.ref M'.length), some (.int p.1), ?_⟩, pm.trans p7⟩
      rw [List.map_append, List.foldl_append, hb, hb']
      rfl
    by_cases c1 : (winL rf many p.1).length = many
    · rw [decide_eq_true (show (((winL rf many p.1).length : Nat) : Int) = (many : Int) by rw [c1])]
      simp only [q_nil, q_cons, k_nx, k_ret, k_brk, k_ct, q_asg, q_asgA, q_asgS, q_aug, q_ex, q_ret, q_retN, q_pass, q_brk, q_cont, q_ifs, q_for, q_whl, b_t, b_f, be_t, be_f, ba_t, ba_f, bo_t, bo_f, t_bl, t_int, t_non,     q_var, q_con, q_glb, q_tup, q_lst, q_dict0, q_bin, q_neg, q_not, q_and, q_or, q_ife, q_cmp, q_cmp2, q_attr, q_sub, q_srev, q_call, q_callk, q_meth, q_bm, q_new, q_bi, q_isi, q_lc, q_dc, q_sortk, q_sortv, q_dict2, q_anil, q_acons, q_ival, q_items, q_vals, q_rng,     o_add, o_sub, o_mul, o_fdiv, o_mod, o_pow18, o_addT, ag_add, ag_sub, c_lt, c_gt, c_le, c_ge, c_eq, c_ne, c_is, c_isn, c_in, c_nin, u_tup, u_scr, n_scr, n_tup, n_str, n_abs, n_min2, n_max2, tg_nm, tg_2, tg_3, at_0, at_1, at_2, at_3, at_4, i_int, sat_some, getV_0, getV_s,     List.set_cons_zero, List.set_cons_succ, List.map_cons, List.map_nil, List.replicate_succ, List.replicate_zero, List.cons_append, List.nil_append, List.length_cons, List.length_nil]
      rcases hbo with rfl | ⟨x, y, rfl⟩
      · refine ⟨true, rfl, ?_⟩
        simp only [q_nil, q_cons, k_nx, k_ret, k_brk, k_ct, q_asg, q_asgA, q_asgS, q_aug, q_ex, q_ret, q_retN, q_pass, q_brk, q_cont, q_ifs, q_for, q_whl, b_t, b_f, be_t, be_f, ba_t, ba_f, bo_t, bo_f, t_bl, t_int, t_non,     q_var, q_con, q_glb, q_tup, q_lst, q_dict0, q_bin, q_neg, q_not, q_and, q_or, q_ife, q_cmp, q_cmp2, q_attr, q_sub, q_srev, q_call, q_callk, q_meth, q_bm, q_new, q_bi, q_isi, q_lc, q_dc, q_sortk, q_sortv, q_dict2, q_anil, q_acons, q_ival, q_items, q_vals, q_rng,     o_add, o_sub, o_mul, o_fdiv, o_mod, o_pow18, o_addT, ag_add, ag_sub, c_lt, c_gt, c_le, c_ge, c_eq, c_ne, c_is, c_isn, c_in, c_nin, u_tup, u_scr, n_scr, n_tup, n_str, n_abs, n_min2, n_max2, tg_nm, tg_2, tg_3, at_0, at_1, at_2, at_3, at_4, i_int, sat_some, getV_0, getV_s,     List.set_cons_zero, List.set_cons_succ, List.map_cons, List.map_nil, List.replicate_succ, List.replicate_zero, List.cons_append, List.nil_append, List.length_cons, List.length_nil, hsum, sat_ok]
        refine ⟨len_ok (by decide), fin _ ?_⟩
        unfold dryS
        rw [if_pos ⟨c1, rfl⟩]
      · refine ⟨false, rfl, ?_⟩
        simp only [q_nil, q_cons, k_nx, k_ret, k_brk, k_ct, q_asg, q_asgA, q_asgS, q_aug, q_ex, q_ret, q_retN, q_pass, q_brk, q_cont, q_ifs, q_for, q_whl, b_t, b_f, be_t, be_f, ba_t, ba_f, bo_t, bo_f, t_bl, t_int, t_non,     q_var, q_con, q_glb, q_tup, q_lst, q_dict0, q_bin, q_neg, q_not, q_and, q_or, q_ife, q_cmp, q_cmp2, q_attr, q_sub, q_srev, q_call, q_callk, q_meth, q_bm, q_new, q_bi, q_isi, q_lc, q_dc, q_sortk, q_sortv, q_dict2, q_anil, q_acons, q_ival, q_items, q_vals, q_rng,     o_add, o_sub, o_mul, o_fdiv, o_mod, o_pow18, o_addT, ag_add, ag_sub, c_lt, c_gt, c_le, c_ge, c_eq, c_ne, c_is, c_isn, c_in, c_nin, u_tup, u_scr, n_scr, n_tup, n_str, n_abs, n_min2, n_max2, tg_nm, tg_2, tg_3, at_0, at_1, at_2, at_3, at_4, i_int, sat_some, getV_0, getV_s,     List.set_cons_zero, List.set_cons_succ, List.map_cons, List.map_nil, List.replicate_succ, List.replicate_zero, List.cons_append, List.nil_append, List.length_cons, List.length_nil, hsum, sat_ok]
        by_cases c2 : (winL rf many p.1).sum < x
        · rw [decide_eq_true c2]
          simp only [q_nil, q_cons, k_nx, k_ret, k_brk, k_ct, q_asg, q_asgA, q_asgS, q_aug, q_ex, q_ret, q_retN, q_pass, q_brk, q_cont, q_ifs, q_for, q_whl, b_t, b_f, be_t, be_f, ba_t, ba_f, bo_t, bo_f, t_bl, t_int, t_non,     q_var, q_con, q_glb, q_tup, q_lst, q_dict0, q_bin, q_neg, q_not, q_and, q_or, q_ife, q_cmp, q_cmp2, q_attr, q_sub, q_srev, q_call, q_callk, q_meth, q_bm, q_new, q_bi, q_isi, q_lc, q_dc, q_sortk, q_sortv, q_dict2, q_anil, q_acons, q_ival, q_items, q_vals, q_rng,     o_add, o_sub, o_mul, o_fdiv, o_mod, o_pow18, o_addT, ag_add, ag_sub, c_lt, c_gt, c_le, c_ge, c_eq, c_ne, c_is, c_isn, c_in, c_nin, u_tup, u_scr, n_scr, n_tup, n_str, n_abs, n_min2, n_max2, tg_nm, tg_2, tg_3, at_0, at_1, at_2, at_3, at_4, i_int, sat_some, getV_0, getV_s,     List.set_cons_zero, List.set_cons_succ, List.map_cons, List.map_nil, List.replicate_succ, List.replicate_zero, List.cons_append, List.nil_append, List.length_cons, List.length_nil, hsum, sat_ok]
          refine ⟨len_ok (by decide), fin _ ?_⟩
          unfold dryS
          rw [if_pos ⟨c1, decide_eq_true c2⟩]
        · rw [decide_eq_false c2]
          simp only [q_nil, q_cons, k_nx, k_ret, k_brk, k_ct, q_asg, q_asgA, q_asgS, q_aug, q_ex, q_ret, q_retN, q_pass, q_brk, q_cont, q_ifs, q_for, q_whl, b_t, b_f, be_t, be_f, ba_t, ba_f, bo_t, bo_f, t_bl, t_int, t_non,     q_var, q_con, q_glb, q_tup, q_lst, q_dict0, q_bin, q_neg, q_not, q_and, q_or, q_ife, q_cmp, q_cmp2, q_attr, q_sub, q_srev, q_call, q_callk, q_meth, q_bm, q_new, q_bi, q_isi, q_lc, q_dc, q_sortk, q_sortv, q_dict2, q_anil, q_acons, q_ival, q_items, q_vals, q_rng,     o_add, o_sub, o_mul, o_fdiv, o_mod, o_pow18, o_addT, ag_add, ag_sub, c_lt, c_gt, c_le, c_ge, c_eq, c_ne, c_is, c_isn, c_in, c_nin, u_tup, u_scr, n_scr, n_tup, n_str, n_abs, n_min2, n_max2, tg_nm, tg_2, tg_3, at_0, at_1, at_2, at_3, at_4, i_int, sat_some, getV_0, getV_s,     List.set_cons_zero, List.set_cons_succ, List.map_cons, List.map_nil, List.replicate_succ, List.replicate_zero, List.cons_append, List.nil_append, List.length_cons, List.length_nil]
          refine fin _ ?_
          unfold dryS
          rw [if_neg fun z => c2 (of_decide_eq_true z.2)]
    · rw [decide_eq_false (show ¬ (((winL rf many p.1).length : Nat) : Int) = (many : Int) by omega)]
      simp only [q_nil, q_cons, k_nx, k_ret, k_brk, k_ct, q_asg, q_asgA, q_asgS, q_aug, q_ex, q_ret, q_retN, q_pass, q_brk, q_cont, q_ifs, q_for, q_whl, b_t, b_f, be_t, be_f, ba_t, ba_f, bo_t, bo_f, t_bl, t_int, t_non,     q_var, q_con, q_glb, q_tup, q_lst, q_dict0, q_bin, q_neg, q_not, q_and, q_or, q_ife, q_cmp, q_cmp2, q_attr, q_sub, q_srev, q_call, q_callk, q_meth, q_bm, q_new, q_bi, q_isi, q_lc, q_dc, q_sortk, q_sortv, q_dict2, q_anil, q_acons, q_ival, q_items, q_vals, q_rng,     o_add, o_sub, o_mul, o_fdiv, o_mod, o_pow18, o_addT, ag_add, ag_sub, c_lt, c_gt, c_le, c_ge, c_eq, c_ne, c_is, c_isn, c_in, c_nin, u_tup, u_scr, n_scr, n_tup, n_str, n_abs, n_min2, n_max2, tg_nm, tg_2, tg_3, at_0, at_1, at_2, at_3, at_4, i_int, sat_some, getV_0, getV_s,     List.set_cons_zero, List.set_cons_succ, List.map_cons, List.map_nil, List.replicate_succ, List.replicate_zero, List.cons_append, List.nil_append, List.length_cons, List.length_nil]
      refine fin _ ?_
      unfold dryS
      rw [if_neg fun z => c1 z.1]
  · rintro pre σ M' ⟨pd, qd, hpq, hpost, ⟨x10, x14, rfl⟩, pm⟩
    have : qd = [] := by
      cases qd with
      | nil => rfl
      | cons _ _ => cases hpost
    subst this
    rw [List.append_nil] at hpq
    subst hpq
    exact ⟨stays_lst (pre_get pm hy2), x10, x14, rfl, pm⟩
  · subst eq
    have W6 := W2.mono p6
    try simp only [q_nil, q_cons, k_nx, k_ret, k_brk, k_ct, q_asg, q_asgA, q_asgS, q_aug, q_ex, q_ret, q_retN, q_pass, q_brk, q_cont, q_ifs, q_for, q_whl, b_t, b_f, be_t, be_f, ba_t, ba_f, bo_t, bo_f, t_bl, t_int, t_non,     q_var, q_con, q_glb, q_tup, q_lst, q_dict0, q_bin, q_neg, q_not, q_and, q_or, q_ife, q_cmp, q_cmp2, q_attr, q_sub, q_srev, q_call, q_callk, q_meth, q_bm, q_new, q_bi, q_isi, q_lc, q_dc, q_sortk, q_sortv, q_dict2, q_anil, q_acons, q_ival, q_items, q_vals, q_rng,     o_add, o_sub, o_mul, o_fdiv, o_mod, o_pow18, o_addT, ag_add, ag_sub, c_lt, c_gt, c_le, c_ge, c_eq, c_ne, c_is, c_isn, c_in, c_nin, u_tup, u_scr, n_scr, n_tup, n_str, n_abs, n_min2, n_max2, tg_nm, tg_2, tg_3, at_0, at_1, at_2, at_3, at_4, i_int, sat_some, getV_0, getV_s,     List.set_cons_zero, List.set_cons_succ, List.map_cons, List.map_nil, List.replicate_succ, List.replicate_zero, List.cons_append, List.nil_append, List.length_cons, List.length_nil]
    refine sat_mono (driest_ok S 5 w many pl_a rd day M6 W6.ra W.asc ⟨by omega, by omega⟩ ⟨by omega, by omega⟩ W.bd) fun v M7 ⟨p7, hv⟩ => ?_
    have hv2 : v = dryF rf many := by rw [hv, ← hrf]; rfl
    subst hv2
    clear hv
    refine ⟨true, ?_, ?_⟩
    · rw [eqW_pur (best_pur (dryF_ok rf many)) (best_pur (dryF_ok rf many)) (by omega) (by omega), decide_eq_true rfl]
    simp only [q_nil, q_cons, k_nx, k_ret, k_brk, k_ct, q_asg, q_asgA, q_asgS, q_aug, q_ex, q_ret, q_retN, q_pass, q_brk, q_cont, q_ifs, q_for, q_whl, b_t, b_f, be_t, be_f, ba_t, ba_f, bo_t, bo_f, t_bl, t_int, t_non,     q_var, q_con, q_glb, q_tup, q_lst, q_dict0, q_bin, q_neg, q_not, q_and, q_or, q_ife, q_cmp, q_cmp2, q_attr, q_sub, q_srev, q_call, q_callk, q_meth, q_bm, q_new, q_bi, q_isi, q_lc, q_dc, q_sortk, q_sortv, q_dict2, q_anil, q_acons, q_ival, q_items, q_vals, q_rng,     o_add, o_sub, o_mul, o_fdiv, o_mod, o_pow18, o_addT, ag_add, ag_sub, c_lt, c_gt, c_le, c_ge, c_eq, c_ne, c_is, c_isn, c_in, c_nin, u_tup, u_scr, n_scr, n_tup, n_str, n_abs, n_min2, n_max2, tg_nm, tg_2, tg_3, at_0, at_1, at_2, at_3, at_4, i_int, sat_some, getV_0, getV_s,     List.set_cons_zero, List.set_cons_succ, List.map_cons, List.map_nil, List.replicate_succ, List.replicate_zero, List.cons_append, List.nil_append, List.length_cons, List.length_nil]
    have W7 := W6.mono p7
    have hz0 : Asc ([] : List (Int × Int)) := ⟨List.Pairwise.nil, by simp, fun p hp => by cases hp⟩
    refine sat_mono (readings_ok S 6 w pl_zz [] M7 W7.rz hz0) fun v M8 ⟨p8, y8, hv, _, hy8⟩ => ?_
    subst hv
    try simp only [q_nil, q_cons, k_nx, k_ret, k_brk, k_ct, q_asg, q_asgA, q_asgS, q_aug, q_ex, q_ret, q_retN, q_pass, q_brk, q_cont, q_ifs, q_for, q_whl, b_t, b_f, be_t, be_f, ba_t, ba_f, bo_t, bo_f, t_bl, t_int, t_non,     q_var, q_con, q_glb, q_tup, q_lst, q_dict0, q_bin, q_neg, q_not, q_and, q_or, q_ife, q_cmp, q_cmp2, q_attr, q_sub, q_srev, q_call, q_callk, q_meth, q_bm, q_new, q_bi, q_isi, q_lc, q_dc, q_sortk, q_sortv, q_dict2, q_anil, q_acons, q_ival, q_items, q_vals, q_rng,     o_add, o_sub, o_mul, o_fdiv, o_mod, o_pow18, o_addT, ag_add, ag_sub, c_lt, c_gt, c_le, c_ge, c_eq, c_ne, c_is, c_isn, c_in, c_nin, u_tup, u_scr, n_scr, n_tup, n_str, n_abs, n_min2, n_max2, tg_nm, tg_2, tg_3, at_0, at_1, at_2, at_3, at_4, i_int, sat_some, getV_0, getV_s,     List.set_cons_zero, List.set_cons_succ, List.map_cons, List.map_nil, List.replicate_succ, List.replicate_zero, List.cons_append, List.nil_append, List.length_cons, List.length_nil]
    refine ⟨len_ok (by decide), true, eqW_empty (M := M8 ++ [Ob.lst []]) (pre_get (List.prefix_append _ _) hy8) (at_new ..), ?_⟩
    simp only [q_nil, q_cons, k_nx, k_ret, k_brk, k_ct, q_asg, q_asgA, q_asgS, q_aug, q_ex, q_ret, q_retN, q_pass, q_brk, q_cont, q_ifs, q_for, q_whl, b_t, b_f, be_t, be_f, ba_t, ba_f, bo_t, bo_f, t_bl, t_int, t_non,     q_var, q_con, q_glb, q_tup, q_lst, q_dict0, q_bin, q_neg, q_not, q_and, q_or, q_ife, q_cmp, q_cmp2, q_attr, q_sub, q_srev, q_call, q_callk, q_meth, q_bm, q_new, q_bi, q_isi, q_lc, q_dc, q_sortk, q_sortv, q_dict2, q_anil, q_acons, q_ival, q_items, q_vals, q_rng,     o_add, o_sub, o_mul, o_fdiv, o_mod, o_pow18, o_addT, ag_add, ag_sub, c_lt, c_gt, c_le, c_ge, c_eq, c_ne, c_is, c_isn, c_in, c_nin, u_tup, u_scr, n_scr, n_tup, n_str, n_abs, n_min2, n_max2, tg_nm, tg_2, tg_3, at_0, at_1, at_2, at_3, at_4, i_int, sat_some, getV_0, getV_s,     List.set_cons_zero, List.set_cons_succ, List.map_cons, List.map_nil, List.replicate_succ, List.replicate_zero, List.cons_append, List.nil_append, List.length_cons, List.length_nil, Bool.not_true]
    have W8 := W7.mono (p8.trans (List.prefix_append _ [Ob.lst []]))
    refine sat_mono (driest_ok S 5 w many pl_zz [] day (M8 ++ [Ob.lst []]) W8.rz hz0 ⟨by omega, by omega⟩ ⟨by omega, by omega⟩ (fun p hp => by cases hp)) fun v M9 ⟨p9, hv⟩ => ?_
    have hv2 : v = .non := hv
    subst hv2
    refine ⟨true, rfl, ?_⟩
    try simp only [q_nil, q_cons, k_nx, k_ret, k_brk, k_ct, q_asg, q_asgA, q_asgS, q_aug, q_ex, q_ret, q_retN, q_pass, q_brk, q_cont, q_ifs, q_for, q_whl, b_t, b_f, be_t, be_f, ba_t, ba_f, bo_t, bo_f, t_bl, t_int, t_non,     q_var, q_con, q_glb, q_tup, q_lst, q_dict0, q_bin, q_neg, q_not, q_and, q_or, q_ife, q_cmp, q_cmp2, q_attr, q_sub, q_srev, q_call, q_callk, q_meth, q_bm, q_new, q_bi, q_isi, q_lc, q_dc, q_sortk, q_sortv, q_dict2, q_anil, q_acons, q_ival, q_items, q_vals, q_rng,     o_add, o_sub, o_mul, o_fdiv, o_mod, o_pow18, o_addT, ag_add, ag_sub, c_lt, c_gt, c_le, c_ge, c_eq, c_ne, c_is, c_isn, c_in, c_nin, u_tup, u_scr, n_scr, n_tup, n_str, n_abs, n_min2, n_max2, tg_nm, tg_2, tg_3, at_0, at_1, at_2, at_3, at_4, i_int, sat_some, getV_0, getV_s,     List.set_cons_zero, List.set_cons_succ, List.map_cons, List.map_nil, List.replicate_succ, List.replicate_zero, List.cons_append, List.nil_append, List.length_cons, List.length_nil]
    exact h _ _
theorem law_ok (S : List Int) (hl : S.length ≤ 63) : ∃ M, callN (Gp S) fuel 10 ix_law [.scr] [] = .ok (.bl true) M := by
  have key : (callN (Gp S) fuel 10 ix_law [.scr] []).sat fun v _ => v = .bl true := by
    have e := at_law S 9 [.scr] []
    rw [show (10 : Nat) = 9 + 1 from rfl, e]
    refine run_sat rfl ?_
    show (evSl (Gp S) (callN (Gp S) fuel 9) (callN (Gp S) fuel 8) fuel (lawT 0) [some .scr, none, none, none, none, none, none, none, none, none, none, none, none, none, none, none] []).sat _
    rw [← RL_iff]
    refine stA hl fun its t x2 x3 x4 M hI ht => ?_
    refine stB hI ht fun rd w rw1 M W => ?_
    refine stC hl W fun day broad many kl x10 M W hd hb hm hk => ?_
    refine stD hl W hd hb hm hk fun x2 du M p => ?_
    exact stE (W.mono p) hd hm (pre_get p hk) fun σ M' => rfl
  obtain ⟨v, M, e, rfl⟩ := sat_ex key
  exact ⟨M, e⟩
end Bh
end
set_option Elab.async false
set_option maxRecDepth 100000 in
set_option maxHeartbeats 0 in
theorem PySem.Challenge.cw_basinhouse_k29_forecasts_holds : PySem.Challenge.rw_basinhouse_k29_forecasts.Holds := by
  exact Bh.holds_of fun S h1 _ => Bh.law_ok S h1
