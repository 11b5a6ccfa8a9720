import PyProof.Rows.All
import Wide.All
import OpenK.AllK
import Wide.FinOn
import KE.SortData
import KE.DataMinMax
import KE.KeyNested
import HandS.ForMost
import HandS.Defaults
import HandS.Lambda
import HandS.WordsExc
import KE.KDictKeyed
import HandS.TupAny
import HandS.Wide
import HandS.Deep
import HandS.Style
import HandS.IsInst
import KE.KDictCopyH
import KE.KDictSum
import PyProof.Claim2Refuses
import HandS.More
import HandS.Text
import KE.DataFind
import PyProof.ReprRoads
import HandS.Flow
import HandS.Exc
import HandS.ExcOwn
import HandS.CallSlots
import KE.KDictWalk
import HandS.Iter
import HandS.DictComp
import KE.SortKeyHeap
import HandS.HeadHook4
import HandS.HeadWalk
import KE.KNestM
import KE.KDictDisplayH
import KE.DataMinKey
import KE.DataEq
import HandS.Set
import HandS.Strs
import PyProof.CollectStr
import HandS.ExcIs
import HandS.Zip
import KE.KStateDown
import HandS.Head0
import HandS.Head1
import HandS.Head2
import HandS.HeadEnd
import PySem.Challenge.RW_basinhouse_k01_truths
section
set_option Elab.async false
set_option linter.all false
set_option maxRecDepth 100000
/-! MP1: a small Python: values as trees (tuples) and places (lists, dicts, instances), its syntax, what it reckons. -/
namespace MP
open PySem

/-! ### values, memory, outcomes -/
inductive Wv where
  | non | bl (b : Bool) | int (i : Int) | str (s : Str) | tup (ws : List Wv) | ref (l : Nat) | scr
namespace Wv
mutual
def beq : Wv → Wv → Bool
  | .non, .non => true
  | .bl a, .bl b => decide (a = b)
  | .int a, .int b => decide (a = b)
  | .str a, .str b => decide (a = b)
  | .tup a, .tup b => beqs a b
  | .ref a, .ref b => decide (a = b)
  | .scr, .scr => true
  | _, _ => false
def beqs : List Wv → List Wv → Bool
  | [], [] => true
  | a :: as, b :: bs => beq a b && beqs as bs
  | _, _ => false
end
mutual
theorem beq_self : ∀ a : Wv, beq a a = true
  | .non => rfl
  | .bl a => by simp [beq]
  | .int a => by simp [beq]
  | .str a => by simp [beq]
  | .tup a => by rw [beq]; exact beqs_self a
  | .ref a => by simp [beq]
  | .scr => rfl
theorem beqs_self : ∀ a : List Wv, beqs a a = true
  | [] => rfl
  | a :: as => by rw [beqs, beq_self a, beqs_self as]; rfl
end
mutual
theorem eq_of_beq : ∀ a b : Wv, beq a b = true → a = b
  | .non, b, h => by cases b <;> simp [beq] at h ⊢
  | .bl a, b, h => by cases b <;> simp [beq] at h ⊢; exact h
  | .int a, b, h => by cases b <;> simp [beq] at h ⊢; exact h
  | .str a, b, h => by cases b <;> simp [beq] at h ⊢; exact h
  | .tup a, b, h => by
    cases b with
    | tup b => simp only [beq] at h; rw [eqs_of_beqs a b h]
    | _ => simp [beq] at h
  | .ref a, b, h => by cases b <;> simp [beq] at h ⊢; exact h
  | .scr, b, h => by cases b <;> simp [beq] at h ⊢
theorem eqs_of_beqs : ∀ a b : List Wv, beqs a b = true → a = b
  | [], b, h => by cases b with
    | nil => rfl
    | cons _ _ => simp [beqs] at h
  | a :: as, b, h => by
    cases b with
    | nil => simp [beqs] at h
    | cons b bs =>
      rw [beqs, Bool.and_eq_true] at h
      rw [eq_of_beq a b h.1, eqs_of_beqs as bs h.2]
end
instance : DecidableEq Wv := fun a b => if h : beq a b = true then .isTrue (eq_of_beq a b h) else .isFalse fun e => h (e ▸ beq_self a)
end Wv

inductive Ob where
  | lst (ws : List Wv) | dct (z : Bool) (kvs : List (Wv × Wv)) | ins (c : Nat) (fs : List (Str × Wv))
  deriving DecidableEq
abbrev Mem := List Ob

/-- an end: a value and the memory, a refusal by its class, or nothing is said -/
inductive Out (α : Type) where
  | ok (a : α) (M : Mem) | exc (c : Nat) (M : Mem) | bad
def Out.bind {α β : Type} (x : Out α) (f : α → Mem → Out β) : Out β := match x with
  | .ok a M => f a M
  | .exc c M => .exc c M
  | .bad => .bad
@[simp] theorem Out.bind_ok {α β : Type} (a : α) (M : Mem) (f : α → Mem → Out β) : (Out.ok a M).bind f = f a M := rfl
@[simp] theorem Out.bind_exc {α β : Type} (c : Nat) (M : Mem) (f : α → Mem → Out β) : (Out.exc c M).bind f = .exc c M := rfl
@[simp] theorem Out.bind_bad {α β : Type} (f : α → Mem → Out β) : (Out.bad).bind f = (.bad : Out β) := rfl
def Out.ofO {α : Type} (x : Option α) (M : Mem) : Out α := match x with
  | some a => .ok a M
  | none => .bad
def Out.chk {α : Type} (b : Bool) (x : Out α) : Out α := match b with
  | true => x
  | false => .bad

/-! ### syntax -/
inductive Op where | add | sub | mul | fdiv | mod | pow
  deriving DecidableEq
inductive Cm where | eq | ne | lt | le | gt | ge | is_ | isn | in_ | nin
  deriving DecidableEq
/-- built-ins called by name -/
inductive Bi where | len | all | any | sum | min | max | sorted | abs | list | dict | tuple | str | int | sset | sorT
  deriving DecidableEq
/-- methods of lists, dicts, texts -/
inductive Bm where | append | get | scount | lcount | extend | insert
  deriving DecidableEq
/-- the kinds of isinstance -/
inductive Kd where | int | bool | str | tuple | list
  deriving DecidableEq
/-- targets -/
inductive Tg where | nm (i : Nat) | tup (is : List Nat)
  deriving DecidableEq
/-- the body of a key's lambda: of its one parameter -/
inductive Ke where
  | v | sub (k : Ke) (i : Nat) | tup (a b : Ke) | no
mutual
inductive Ex where
  | var (i : Nat)
  | con (w : Wv)
  | glb (x : Str)
  | tup (es : El) | lst (es : El) | dict0
  | bin (o : Op) (a b : Ex)
  | neg (a : Ex) | not (a : Ex)
  | and (a b : Ex) | or (a b : Ex)
  | ife (t a b : Ex)
  | cmp (c : Cm) (a b : Ex)
  | cmp2 (c d : Cm) (a b e : Ex)
  | attr (a : Ex) (f : Str)
  | sub (a i : Ex)
  | slc (a lo hi : Ex) | no
  | srev (z : Bool) (a : Ex)
  | call (f : Nat) (es : El) (ds : List Wv)
  | callk (f : Nat) (es : El) (k : Ex)
  | meth (m : Str) (a : Ex) (es : El) (ds : List Wv)
  | bm (m : Bm) (a : Ex) (es : El)
  | new (c : Nat) (es : El)
  | bi (b : Bi) (es : El)
  | isi (k : Kd) (a : Ex)
  | lc (e : Ex) (t : Tg) (it : It) (c : Ex)
  | lc2 (e : Ex) (t : Tg) (it : It) (t2 : Tg) (it2 : It)
  | dc (k v : Ex) (t : Tg) (it : It) (c : Ex)
  | sortk (a : Ex) (k : Ke)
  | sortv (a : Ex) (k : Ke)
  | maxk (a : Ex)
  | sortvM (a : Ex)
  | cntT (a b : Ex)
  | tab (kvs : List (Str × Wv)) (a : Ex) | tnin (kvs : List (Str × Wv)) (a : Ex)
  | dict2 (k1 : Str) (v1 : Int) (k2 : Str) (v2 : Int)
inductive El where
  | nil | cons (e : Ex) (es : El)
inductive It where
  | val (e : Ex) | rng (a b : Ex) | rng3 (a b c : Ex) | items (e : Ex) | vals (e : Ex) | enum (e : Ex) | zip (a b : Ex) | zipT (a b : Ex)
end
mutual
inductive St where
  | asg (t : Tg) (e : Ex)
  | asgA (o : Ex) (f : Str) (e : Ex)
  | asgS (o i e : Ex)
  | aug (i : Nat) (p : Op) (e : Ex)
  | augA (o : Ex) (f : Str) (p : Op) (e : Ex)
  | ex (e : Ex)
  | ret (e : Ex)
  | retN | pass | brk | cont
  | ifs (t : Ex) (a b : Sl)
  | for_ (t : Tg) (it : It) (b : Sl)
  | whl (t : Ex) (b : Sl)
  | raise (c : Nat)
  | tryI (b : Sl) (cs : List Nat)
inductive Sl where
  | nil | cons (s : St) (r : Sl)
end
inductive Fl where | nx | brk | ct | ret (w : Wv)

/-! ### data -/
mutual
/-- what a value reads as, to a depth -/
def toD (S : List Int) (M : Mem) : Nat → Wv → Option PyData
  | _, .non => some .none
  | _, .bl b => some (.bool b)
  | _, .int i => some (.int i)
  | _, .str s => some (.str s)
  | n + 1, .tup ws => (toDs S M n ws).map .tuple
  | 0, .tup _ => none
  | n + 1, .ref l => match M[l]? with
    | some (.lst ws) => (toDs S M n ws).map .list
    | _ => none
  | 0, .ref _ => none
  | _, .scr => some (.list (S.map .int))
def toDs (S : List Int) (M : Mem) : Nat → List Wv → Option (List PyData)
  | _, [] => some []
  | n, w :: ws => match toD S M n w, toDs S M n ws with
    | some d, some ds => some (d :: ds)
    | _, _ => none
end
/-- as deep as data is looked at -/
abbrev deepD : Nat := 12

/-! ### dicts -/
mutual
/-- a key: a number, a text, a tuple of such and None -/
def keyTup : Nat → List Wv → Bool
  | _, [] => true
  | n, w :: ws => keyIn n w && keyTup n ws
def keyIn : Nat → Wv → Bool
  | _, .int _ => true
  | _, .str _ => true
  | _, .non => true
  | n + 1, .tup ws => keyTup n ws
  | _, _ => false
end
def keyA : Wv → Bool
  | .int _ => true
  | .str _ => true
  | _ => false
def keyT : Wv → Bool
  | .tup ws => keyTup 7 ws
  | _ => false
/-- the key k may be asked of a dict with these keys -/
def keyOk (kvs : List (Wv × Wv)) (k : Wv) : Bool := (keyA k && kvs.all fun p => keyA p.1) || (keyT k && kvs.all fun p => keyT p.1)
def dget (kvs : List (Wv × Wv)) (k : Wv) : Option Wv := match kvs with
  | [] => none
  | p :: r => if p.1 = k then some p.2 else dget r k
def dput (kvs : List (Wv × Wv)) (k v : Wv) : List (Wv × Wv) := match kvs with
  | [] => [(k, v)]
  | p :: r => if p.1 = k then (p.1, v) :: r else p :: dput r k v
def putF (f : Str) (v : Wv) : List (Str × Wv) → List (Str × Wv)
  | [] => [(f, v)]
  | p :: r => if p.1 = f then (f, v) :: r else p :: putF f v r

/-! ### the program's own things -/
structure Cl where
  meths : List (Str × Nat)
  init : Nat
structure Df where
  slots : Nat
  npar : Nat
  dfl : List Wv
  body : Sl
/-- the program: its constants, classes, defs; the script -/
structure Pg where
  S : List Int
  con : Str → Option Wv
  cls : Nat → Option Cl
  df : Nat → Option Df

section
variable (G : Pg)
/-! ### operators -/
def lenOk (n : Nat) : Bool := decide (n ≤ sizeLine)
def mulOk (i j : Int) : Bool := decide (i.natAbs < 2 ^ 62) || decide (j.natAbs < 2 ^ 62)
def binW (o : Op) (x y : Wv) (M : Mem) : Out Wv := match o, x, y with
  | .add, .int i, .int j => .ok (.int (i + j)) M
  | .add, .str i, .str j => .chk (lenOk (i.length + j.length)) (.ok (.str (i ++ j)) M)
  | .add, .tup a, .tup b => .chk (lenOk (a.length + b.length)) (.ok (.tup (a ++ b)) M)
  | .add, .ref a, .ref b => match M[a]?, M[b]? with
    | some (.lst xs), some (.lst ys) => .chk (lenOk (xs.length + ys.length)) (.ok (.ref M.length) (M ++ [.lst (xs ++ ys)]))
    | _, _ => .bad
  | .sub, .int i, .int j => .ok (.int (i - j)) M
  | .mul, .int i, .int j => .chk (mulOk i j) (.ok (.int (i * j)) M)
  | .mul, .ref l, .int n => match M[l]? with
    | some (.lst xs) => .chk (decide (0 ≤ n) && decide (n ≤ 1000) && lenOk (xs.length * n.toNat)) (.ok (.ref M.length) (M ++ [.lst (List.replicate n.toNat xs).flatten]))
    | _ => .bad
  | .fdiv, .int i, .int j => .chk (decide (0 < j) && decide (j < 2 ^ 200)) (.ok (.int (i / j)) M)
  | .mod, .int i, .int j => .chk (decide (0 < j)) (.ok (.int (i % j)) M)
  | .pow, .int i, .int j => .chk (decide (0 ≤ j) && decide (j ≤ 1000) && decide (i.natAbs < 2 ^ 62)) (.ok (.int (i ^ j.toNat)) M)
  | _, _, _ => .bad
def truW (x : Wv) (M : Mem) : Option Bool := match x with
  | .non => some false
  | .bl b => some b
  | .int i => some (i != 0)
  | .str s => if s.length ≤ sizeLine then some (s.length != 0) else none
  | .tup ws => some (!ws.isEmpty)
  | .ref l => match M[l]? with
    | some (.lst ws) => some (!ws.isEmpty)
    | _ => none
  | .scr => some (!G.S.isEmpty)
def eqW (x y : Wv) (M : Mem) : Option Bool := match toD G.S M deepD x, toD G.S M deepD y with
  | some d, some e => if SeqAt.shaped d && SeqAt.shaped e then some (PyData.eqv d e) else none
  | _, _ => none
def ltW (x y : Wv) : Option Bool := match x, y with
  | .int i, .int j => some (decide (i < j))
  | _, _ => none
def leW (x y : Wv) : Option Bool := match x, y with
  | .int i, .int j => some (decide (i ≤ j))
  | _, _ => none
/-- flat things -/
def flatW : Wv → Bool
  | .non => true
  | .bl _ => true
  | .int _ => true
  | .str _ => true
  | _ => false
def mapO {α β : Type} (f : α → Option β) : List α → Option (List β)
  | [] => some []
  | a :: r => match f a, mapO f r with
    | some b, some bs => some (b :: bs)
    | _, _ => none
/-- flat data -/
def flatD : Wv → PyData
  | .bl b => .bool b
  | .int i => .int i
  | .str s => .str s
  | _ => .none
/-- x in a list of data -/
def inLst (x : Wv) (ws : List Wv) (M : Mem) : Option Bool := match toD G.S M deepD x, toDs G.S M deepD ws with
  | some d, some ds => if SeqAt.shaped d && SeqAt.shaped (.list ds) then some (ds.any fun e => PyData.eqv e d) else none
  | _, _ => none
def inW (x y : Wv) (M : Mem) : Option Bool := match y with
  | .tup ws => if flatW x && ws.all flatW then some (ws.any fun e => PyData.eqv (flatD e) (flatD x)) else none
  | .str s => match x with
    | .str t => some (!(Builtin.Str.occurrences s t 0 s.length 1).isEmpty)
    | _ => none
  | .ref l => match M[l]? with
    | some (.lst ws) => inLst G x ws M
    | some (.dct _ kvs) => if keyOk kvs x then some (dget kvs x).isSome else none
    | _ => none
  | _ => none
/-- is, with None, True, False at its right -/
def isW (x y : Wv) : Option Bool := match y with
  | .non => some (decide (x = .non))
  | .bl b => match x with
    | .bl c => some (decide (c = b))
    | _ => none
  | _ => none
def notO (x : Option Bool) : Option Bool := x.map (!·)
def cmpW (c : Cm) (x y : Wv) (M : Mem) : Out Wv := (Out.ofO (match c with
  | .eq => eqW G x y M
  | .ne => notO (eqW G x y M)
  | .lt => ltW x y
  | .gt => ltW y x
  | .le => leW x y
  | .ge => leW y x
  | .is_ => isW x y
  | .isn => notO (isW x y)
  | .in_ => inW G x y M
  | .nin => notO (inW G x y M)) M).bind fun b M => .ok (.bl b) M

/-! ### subscripts -/
def atI {α : Type} (xs : List α) (i : Int) : Option α := if 0 ≤ i then xs[i.toNat]? else if -(xs.length : Int) ≤ i then xs[(i + xs.length).toNat]? else none
def subW (x i : Wv) (M : Mem) : Out Wv := match x with
  | .tup ws => match i with
    | .int j => .ofO (atI ws j) M
    | _ => .bad
  | .str s => match i with
    | .int j => if s.length ≤ sizeLine then .ofO ((atI s.cps.toList j).map fun c => .str ⟨#[c]⟩) M else .bad
    | _ => .bad
  | .scr => match i with
    | .int j => .ofO ((atI G.S j).map .int) M
    | _ => .bad
  | .ref l => match M[l]? with
    | some (.lst ws) => (match i with
      | .int j => .ofO (atI ws j) M
      | _ => .bad)
    | some (.dct _ kvs) => .chk (keyOk kvs i) (.ofO (dget kvs i) M)
    | _ => .bad
  | _ => .bad
/-- a slice's bound, clipped -/
def sIx (n d : Nat) : Option Int → Nat
  | none => d
  | some i => if i < 0 then (i + n).toNat else min i.toNat n
def cut {α : Type} (xs : List α) (lo hi : Option Int) : List α := (xs.drop (sIx xs.length 0 lo)).take (sIx xs.length xs.length hi - sIx xs.length 0 lo)
/-- a module's table with text keys, asked at a key -/
def tabW (kvs : List (Str × Wv)) (x : Wv) (M : Mem) : Out Wv := match x with
  | .str z => .ofO (kvs.lookup z) M
  | _ => .bad
/-- whether a key is none of a table's -/
def tninW (kvs : List (Str × Wv)) (x : Wv) (M : Mem) : Out Wv := match x with
  | .str z => .ok (.bl (!(kvs.lookup z).isSome)) M
  | _ => .bad
/-- two tuples, side by side -/
def zipTW (x y : Wv) : Option (List Wv) := match x, y with
  | .tup ws, .tup us => some ((ws.zip us).map fun p => .tup [p.1, p.2])
  | _, _ => none
def slcW (x : Wv) (lo hi : Option Int) (M : Mem) : Out Wv := match x with
  | .tup ws => .ok (.tup (cut ws lo hi)) M
  | .str s => .chk (lenOk s.length) (.ok (.str ⟨(cut s.cps.toList lo hi).toArray⟩) M)
  | .ref l => match M[l]? with
    | some (.lst ws) => .ok (.ref M.length) (M ++ [.lst (cut ws lo hi)])
    | _ => .bad
  | _ => .bad
def revW (z : Bool) (x : Wv) (M : Mem) : Out Wv := match x with
  | .ref l => match M[l]? with
    | some (.lst ws) => .ok (.ref M.length) (M ++ [.lst (if z then ws.tail.reverse else ws.reverse)])
    | _ => .bad
  | _ => .bad
def toI : Wv → Option Int
  | .int i => some i
  | _ => none

/-! ### built-ins -/
def bls : List Wv → Option (List Bool) := mapO fun | .bl b => some b | _ => none
def intsW : List Wv → Option (List Int) := mapO toI
def strsW : List Wv → Option (List Str) := mapO fun | .str s => some s | _ => none
def alikeAllB (ds : List PyData) : Bool := ds.all fun d => ds.all fun e => PySem.W.alike d e
def sortableB (ds : List PyData) : Bool := (ds.all fun d => match d with | .tuple (_ :: _) => true | _ => false) || (ds.all fun d => match d with | .none => false | .tuple _ => false | _ => true)
def dcap : PyData → Bool := fun d => decide (d.depth ≤ 32)
/-- items with their keys, sorted by these -/
def sortBy (ks : List PyData) (ws : List Wv) : Option (List Wv) := if alikeAllB ks && sortableB ks && ks.all dcap then some (((ks.zip ws).mergeSort fun a b => PySem.W.dataLe false (fun p : PyData × Wv => p.1) a b).map (·.2)) else none
/-- a key (day, truth) -/
def kday : Ke := .tup (.sub .v 1) .v
def dayK : PyData → Bool
  | .tuple [.int _, _] => true
  | _ => false
/-- the first item whose key is the greatest -/
def maxBy (ds : List PyData) (ws : List Wv) : Option Wv := match ds.zip ws with
  | [] => none
  | p :: r => if alikeAllB ds && ds.all dcap && ds.all dayK then some (r.foldl (fun a y => if PySem.W.dataLt a.1 y.1 then y else a) p).2 else none
mutual
/-- data that are no lists, as values -/
def ofD : PyData → Option Wv
  | .none => some .non
  | .bool b => some (.bl b)
  | .int i => some (.int i)
  | .str s => some (.str s)
  | .tuple xs => (ofDs xs).map .tup
  | .list _ => none
  | .dict _ => none
def ofDs : List PyData → Option (List Wv)
  | [] => some []
  | x :: xs => match ofD x, ofDs xs with
    | some w, some ws => some (w :: ws)
    | _, _ => none
end
def noneB : PyData → Bool
  | .none => true
  | _ => false
/-- the greatest (the least) of alike data -/
def bestOf (mx : Bool) (ds : List PyData) : Option Wv := match ds with
  | [] => none
  | d :: r => if alikeAllB ds && ds.all (fun d => !noneB d) && ds.all dcap then ofD (if mx then PySem.W.maxD d r else PySem.W.minD d r) else none
/-- the items of what is walked by list, sorted .. -/
def itemsOf (x : Wv) (M : Mem) : Option (List Wv) := match x with
  | .tup ws => some ws
  | .scr => some (G.S.map .int)
  | .ref l => match M[l]? with
    | some (.lst ws) => some ws
    | some (.dct _ kvs) => some (kvs.map (·.1))
    | _ => none
  | _ => none
/-- .. what sorted takes -/
def itemsS (x : Wv) (M : Mem) : Option (List Wv) := match x with
  | .tup _ => none
  | x => itemsOf G x M
def lstOf (x : Wv) (M : Mem) : Option (List Wv) := match x with
  | .ref l => match M[l]? with
    | some (.lst ws) => some ws
    | _ => none
  | _ => none
/-- a dict's values -/
def valsOf (x : Wv) (M : Mem) : Option (List Wv) := match x with
  | .ref l => match M[l]? with
    | some (.dct _ kvs) => some (kvs.map (·.2))
    | _ => none
  | _ => none
def pairs : List Wv → Option (List (Wv × Wv)) := mapO fun | .tup [a, b] => some (a, b) | _ => none
def dputs (kvs : List (Wv × Wv)) : List (Wv × Wv) → List (Wv × Wv)
  | [] => kvs
  | p :: r => dputs (dput kvs p.1 p.2) r
def newL (o : Option (List Wv)) (M : Mem) : Out Wv := match o with
  | some ws => .chk (lenOk ws.length) (.ok (.ref M.length) (M ++ [.lst ws]))
  | none => .bad
/-- each once, as it came first -/
def oncW (ws : List Wv) : List Wv := ws.foldl (fun acc x => if x ∈ acc then acc else acc ++ [x]) []
def sgnW (s : Str) : List Wv := s.cps.toList.map fun c => .str ⟨#[c]⟩
def biW (b : Bi) (xs : List Wv) (M : Mem) : Out Wv := match b, xs with
  | .len, [.str s] => .chk (lenOk s.length) (.ok (.int s.length) M)
  | .len, [.tup ws] => .ok (.int ws.length) M
  | .len, [.scr] => .ok (.int G.S.length) M
  | .len, [.ref l] => match M[l]? with
    | some (.lst ws) => .ok (.int ws.length) M
    | _ => .bad
  | .all, [x] => (Out.ofO ((lstOf x M).bind bls) M).bind fun bs M => .ok (.bl (bs.all id)) M
  | .any, [x] => (Out.ofO ((lstOf x M).bind bls) M).bind fun bs M => .ok (.bl (bs.any id)) M
  | .sum, [x] => (Out.ofO ((lstOf x M).bind intsW) M).bind fun ns M => .ok (.int ns.sum) M
  | .abs, [.int i] => .ok (.int (if i < 0 then -i else i)) M
  | .min, [.int i, .int j] => .ok (.int (if j < i then j else i)) M
  | .max, [.int i, .int j] => .ok (.int (if j > i then j else i)) M
  | .max, [.tup a, .tup b] => .ofO ((mapO (toD G.S M deepD) [.tup a, .tup b]).bind (bestOf true)) M
  | .min, [x] => .ofO ((lstOf x M).bind fun ws => (mapO (toD G.S M deepD) ws).bind (bestOf false)) M
  | .max, [x] => .ofO ((lstOf x M).bind fun ws => (mapO (toD G.S M deepD) ws).bind (bestOf true)) M
  | .sorted, [x] => newL ((itemsS G x M).bind fun ws => (mapO (toD G.S M deepD) ws).bind fun ds => sortBy ds ws) M
  | .list, [x] => newL (itemsOf G x M) M
  | .dict, [x] => match (lstOf x M).bind pairs with
    | some ps => .chk ((ps.all fun p => keyA p.1) && lenOk ps.length) (.ok (.ref M.length) (M ++ [.dct false (dputs [] ps)]))
    | none => .bad
  | .sset, [x] => newL ((lstOf x M).bind fun ws => if ws.length + 1 < scanBound then (strsW ws).bind fun _ => (mapO (toD G.S M deepD) (oncW ws)).bind fun ds => sortBy ds (oncW ws) else none) M
  | .sorT, [.str s] => newL (if s.length ≤ 1000 then (mapO (toD G.S M deepD) (sgnW s)).bind fun ds => sortBy ds (sgnW s) else none) M
  | .str, [.tup ws] => match toD G.S M deepD (.tup ws) with
    | some d => .chk (d.showable && !d.hasDict && dcap d && lenOk d.shown.length) (.ok (.str d.shown) M)
    | none => .bad
  | _, _ => .bad
/-- isinstance -/
def isiW (k : Kd) (x : Wv) (M : Mem) : Option Bool := match k, x with
  | .int, .int _ => some true
  | .int, .bl _ => some true
  | .int, .ref l => match M[l]? with
    | some (.lst _) => some false
    | some (.dct _ _) => some false
    | _ => none
  | .int, _ => some false
  | .bool, .bl _ => some true
  | .bool, .ref l => match M[l]? with
    | some (.lst _) => some false
    | some (.dct _ _) => some false
    | _ => none
  | .bool, _ => some false
  | .str, .str _ => some true
  | .str, .ref l => match M[l]? with
    | some (.lst _) => some false
    | some (.dct _ _) => some false
    | _ => none
  | .str, _ => some false
  | .tuple, .tup _ => some true
  | .tuple, .ref l => match M[l]? with
    | some (.lst _) => some false
    | some (.dct _ _) => some false
    | _ => none
  | .tuple, _ => some false
  | .list, .scr => some true
  | .list, .ref l => match M[l]? with
    | some (.lst _) => some true
    | some (.dct _ _) => some false
    | _ => none
  | .list, _ => some false
/-- what a method's receiver has to be -/
def bmT (m : Bm) (x : Wv) (M : Mem) : Bool := match m, x with
  | .append, .ref l => (match M[l]? with
    | some (.lst _) => true
    | _ => false)
  | .get, .ref l => (match M[l]? with
    | some (.dct _ _) => true
    | _ => false)
  | .scount, .str _ => true
  | .lcount, .ref l => (match M[l]? with
    | some (.lst _) => true
    | _ => false)
  | .extend, .ref l => (match M[l]? with
    | some (.lst _) => true
    | _ => false)
  | .insert, .ref l => (match M[l]? with
    | some (.lst _) => true
    | _ => false)
  | _, _ => false
def bmW (m : Bm) (x : Wv) (xs : List Wv) (M : Mem) : Out Wv := match m, x with
  | .append, .ref l => (match M[l]? with
    | some (.lst ws) => (match xs with
      | [y] => .chk (lenOk (ws.length + 1)) (.ok .non (M.set l (.lst (ws ++ [y]))))
      | _ => .bad)
    | _ => .bad)
  | .get, .ref l => (match M[l]? with
    | some (.dct _ kvs) => (match xs with
      | [k] => .chk (keyOk kvs k) (.ok ((dget kvs k).getD .non) M)
      | [k, d] => .chk (keyOk kvs k) (.ok ((dget kvs k).getD d) M)
      | _ => .bad)
    | _ => .bad)
  | .scount, .str s => (match xs with
    | [.str t] => .ok (.int (Txt.count s t)) M
    | _ => .bad)
  | .lcount, .ref l => (match M[l]? with
    | some (.lst ws) => (match xs with
      | [.str z] => .ofO ((strsW ws).map fun ss => .int ((ss.countP fun y => decide (y = z) : Nat) : Int)) M
      | _ => .bad)
    | _ => .bad)
  | .extend, .ref l => (match M[l]? with
    | some (.lst ws) => (match xs with
      | [.ref m] => (match M[m]? with
        | some (.lst zs) => .chk (lenOk (ws.length + zs.length)) (.ok .non (M.set l (.lst (ws ++ zs))))
        | _ => .bad)
      | _ => .bad)
    | _ => .bad)
  | .insert, .ref l => (match M[l]? with
    | some (.lst ws) => (match xs with
      | [.int i, y] => .chk (lenOk (ws.length + 1) && decide (0 ≤ i) && decide (i ≤ 1000000)) (.ok .non (M.set l (.lst (ws.take i.toNat ++ [y] ++ ws.drop i.toNat))))
      | _ => .bad)
    | _ => .bad)
  | _, _ => .bad

/-! ### slots, targets -/
abbrev Sw := List (Option Wv)
def getV (i : Nat) (σ : Sw) : Option Wv := match σ[i]? with
  | some (some w) => some w
  | _ => none
def setAll : List Nat → List Wv → Sw → Option Sw
  | [], [], σ => some σ
  | i :: is, w :: ws, σ => setAll is ws (σ.set i (some w))
  | _, _, _ => none
def tgW (t : Tg) (w : Wv) (σ : Sw) : Option Sw := match t with
  | .nm i => some (σ.set i (some w))
  | .tup is => match w with
    | .tup ws => setAll is ws σ
    | _ => none
def Tg.slots : Tg → List Nat
  | .nm i => [i]
  | .tup is => is
def wipeW (σ : Sw) : List Nat → Sw
  | [] => σ
  | v :: vs => (wipeW σ vs).set v none
/-- the places that a walk leans on: they stay as they are -/
def stays (ps : List (Nat × Ob)) (M : Mem) : Bool := ps.all fun p => match p.2 with
  | .lst ws => decide (M[p.1]? = some (.lst ws))
  | _ => true
/-- what zip, enumerate walk -/
def seqV (x : Wv) (M : Mem) : Option (List Wv × List (Nat × Ob)) := match x with
  | .tup ws => some (ws, [])
  | .ref l => match M[l]? with
    | some (.lst ws) => some (ws, [(l, .lst ws)])
    | _ => none
  | _ => none
def seqL (x : Wv) (M : Mem) : Option (List Wv × List (Nat × Ob)) := match x with
  | .ref l => match M[l]? with
    | some (.lst ws) => some (ws, [(l, .lst ws)])
    | _ => none
  | _ => none
/-- what is walked: its items, what stays -/
def walkV (x : Wv) (M : Mem) : Option (List Wv × List (Nat × Ob)) := match x with
  | .tup ws => some (ws, [])
  | .scr => some (G.S.map .int, [])
  | .str s => some (s.cps.toList.map fun c => .str ⟨#[c]⟩, [])
  | .ref l => match M[l]? with
    | some (.lst ws) => some (ws, [(l, .lst ws)])
    | some (.dct z kvs) => some (kvs.map (·.1), [(l, .dct z kvs)])
    | _ => none
  | _ => none
/-- dicts are locked while they are walked -/
def lockM : List (Nat × Ob) → Mem → Mem
  | [], M => M
  | (l, .dct false kvs) :: r, M => (lockM r M).set l (.dct true kvs)
  | _ :: r, M => lockM r M
def unlkM : List (Nat × Ob) → Mem → Mem
  | [], M => M
  | (l, .dct false kvs) :: r, M => (unlkM r M).set l (.dct false kvs)
  | _ :: r, M => unlkM r M
def Out.unlk {α : Type} (ps : List (Nat × Ob)) : Out α → Out α
  | .ok a M => .ok a (unlkM ps M)
  | .exc c M => .exc c (unlkM ps M)
  | .bad => .bad
def rngOk (i : Int) : Bool := decide (-(2 ^ 60) ≤ i) && decide (i ≤ 2 ^ 60)
def rngW (a b : Int) : List Wv := (List.range (b - a).toNat).map fun (k : Nat) => .int (a + (k : Int))
/-- from a up to b by steps of d -/
def rngS (a b d : Int) : List Wv := (List.range ((b - a + d - 1) / d).toNat).map fun (k : Nat) => .int (a + (k : Int) * d)

/-! ### loops -/
def Out.noExc {α : Type} : Out α → Out α
  | .ok a M => .ok a M
  | _ => .bad
def lcGo (t : Tg) (c e : Sw → Mem → Out Wv) (ps : List (Nat × Ob)) : List Wv → Sw → List Wv → Mem → Out (List Wv)
  | [], _, acc, M => .chk (stays ps M) (.ok acc M)
  | x :: xs, σ, acc, M => .chk (stays ps M) (match tgW t x σ with
    | some τ => (c τ M).bind fun b M => (Out.ofO (truW G b M) M).bind fun k M => if k then (e τ M).bind fun y M => .chk (lenOk (acc.length + 1)) (lcGo t c e ps xs σ (acc ++ [y]) M) else lcGo t c e ps xs σ acc M
    | none => .bad)
def lc2In (t : Tg) (e : Sw → Mem → Out Wv) (ps : List (Nat × Ob)) : List Wv → Sw → List Wv → Mem → Out (List Wv)
  | [], _, acc, M => .chk (stays ps M) (.ok acc M)
  | x :: xs, σ, acc, M => .chk (stays ps M) (match tgW t x σ with
    | some τ => (e τ M).bind fun y M => .chk (lenOk (acc.length + 1)) (lc2In t e ps xs σ (acc ++ [y]) M)
    | none => .bad)
def lc2Go (t : Tg) (j : Sw → Mem → Out (List Wv × List (Nat × Ob))) (t2 : Tg) (e : Sw → Mem → Out Wv) (ps : List (Nat × Ob)) : List Wv → Sw → List Wv → Mem → Out (List Wv)
  | [], _, acc, M => .chk (stays ps M) (.ok acc M)
  | x :: xs, σ, acc, M => .chk (stays ps M) (match tgW t x σ with
    | some τ => (j τ M).bind fun r M => ((lc2In t2 e r.2 r.1 τ acc (lockM r.2 M)).unlk r.2).bind fun acc M => lc2Go t j t2 e ps xs σ acc M
    | none => .bad)
def dcGo (t : Tg) (c k v : Sw → Mem → Out Wv) (ps : List (Nat × Ob)) : List Wv → Sw → List (Wv × Wv) → Mem → Out (List (Wv × Wv))
  | [], _, acc, M => .chk (stays ps M) (.ok acc M)
  | x :: xs, σ, acc, M => .chk (stays ps M) (match tgW t x σ with
    | some τ => (c τ M).bind fun b M => (Out.ofO (truW G b M) M).bind fun q M => if q then (k τ M).bind fun y M => (v τ M).bind fun z M => .chk (keyOk acc y && lenOk (acc.length + 1)) (dcGo t c k v ps xs σ (dput acc y z) M) else dcGo t c k v ps xs σ acc M
    | none => .bad)
def forGo (t : Tg) (b : Sw → Mem → Out (Fl × Sw)) (ps : List (Nat × Ob)) : List Wv → Sw → Mem → Out (Fl × Sw)
  | [], σ, M => .chk (stays ps M) (.ok (.nx, σ) M)
  | x :: xs, σ, M => .chk (stays ps M) (match tgW t x σ with
    | some τ => (b τ M).bind fun r M => match r.1 with
      | .nx => forGo t b ps xs r.2 M
      | .ct => forGo t b ps xs r.2 M
      | .brk => .ok (.nx, r.2) M
      | .ret w => .ok (.ret w, r.2) M
    | none => .bad)
def whlGo (t : Sw → Mem → Out Wv) (b : Sw → Mem → Out (Fl × Sw)) : Nat → Sw → Mem → Out (Fl × Sw)
  | 0, _, _ => .bad
  | n + 1, σ, M => (t σ M).bind fun x M => (Out.ofO (truW G x M) M).bind fun k M => if k then (b σ M).bind fun r M => (match r.1 with
      | .nx => whlGo t b n r.2 M
      | .ct => whlGo t b n r.2 M
      | .brk => .ok (.nx, r.2) M
      | .ret w => .ok (.ret w, r.2) M) else .ok (.nx, σ) M

/-! ### expressions -/
variable (C C1 : Nat → List Wv → Mem → Out Wv)
/-- o.m: the def -/
def metW (m : Str) (x : Wv) (M : Mem) : Option Nat := match x with
  | .ref l => match M[l]? with
    | some (.ins c fs) => match (G.cls c).bind fun k => k.meths.lookup m with
      | some f => if fs.lookup m = none then some f else none
      | none => none
    | _ => none
  | _ => none
def attrW (x : Wv) (f : Str) (M : Mem) : Out Wv := match x with
  | .ref l => match M[l]? with
    | some (.ins c fs) => .chk (G.cls c).isSome (.ofO (fs.lookup f) M)
    | _ => .bad
  | _ => .bad
def newW (c : Nat) (ws : List Wv) (M : Mem) : Out Wv := match G.cls c with
  | some k => (C1 k.init (.ref M.length :: ws) (M ++ [.ins c []])).bind fun w M' => .chk (decide (w = .non)) (.ok (.ref M.length) M')
  | none => .bad
/-- a key, by data -/
def keyD : Ke → PyData → Option PyData
  | .v, d => some d
  | .sub k i, d => match keyD k d with
    | some (.tuple xs) => xs[i]?
    | _ => none
  | .tup a b, d => match keyD a d, keyD b d with
    | some x, some y => some (.tuple [x, y])
    | _, _ => none
  | .no, _ => none
mutual
/-- no list in it -/
def noL : PyData → Bool
  | .list _ => false
  | .dict _ => false
  | .tuple xs => noLs xs
  | _ => true
def noLs : List PyData → Bool
  | [] => true
  | x :: xs => noL x && noLs xs
end
/-- keys (day, truth), of unlike words or alike -/
def mixK : PyData → PyData → Bool
  | .tuple [.int _, .tuple (.str w :: r)], .tuple [.int _, .tuple (.str w' :: r')] => decide (w ≠ w') || PySem.W.alikeAll r r'
  | _, _ => false
def mixAllB (ks : List PyData) : Bool := (ks.all fun d => ks.all fun e => mixK d e) && ks.all noL
def sortMix (ks : List PyData) (ws : List Wv) : Option (List Wv) := if mixAllB ks && ks.all dcap then some (((ks.zip ws).mergeSort fun a b => PySem.W.dataLe false (fun p : PyData × Wv => p.1) a b).map (·.2)) else none
def keyOf (k : Ke) (M : Mem) (w : Wv) : Option PyData := match toD G.S M deepD w with
  | some d => if noL d then keyD k d else none
  | none => none
/-- how often a tuple stands in a list -/
def cntW (x y : Wv) (M : Mem) : Out Wv := match lstOf x M, y with
  | some ws, .tup vs => match mapO (toD G.S M deepD) ws, toD G.S M deepD (.tup vs) with
    | some ds, some d => .chk (ds.all noL && noL d && ds.all dcap && dcap d) (.ok (.int ((ds.countP fun e => PyData.eqv e d : Nat) : Int)) M)
    | _, _ => .bad
  | _, _ => .bad
def Ex.isNo : Ex → Bool
  | .no => true
  | _ => false
def itmW (x : Wv) (M : Mem) : Option (List (Wv × Wv) × List (Nat × Ob)) := match x with
  | .ref l => match M[l]? with
    | some (.dct z kvs) => some (kvs, [(l, .dct z kvs)])
    | _ => none
  | _ => none
mutual
def evE : Ex → Sw → Mem → Out Wv
  | .var i, σ, M => .ofO (getV i σ) M
  | .con w, _, M => .ok w M
  | .glb x, _, M => .ofO (G.con x) M
  | .tup es, σ, M => (evL es σ M).bind fun ws M => .chk (lenOk ws.length) (.ok (.tup ws) M)
  | .lst es, σ, M => (evL es σ M).bind fun ws M => .chk (lenOk ws.length) (.ok (.ref M.length) (M ++ [.lst ws]))
  | .dict0, _, M => .ok (.ref M.length) (M ++ [.dct false []])
  | .bin o a b, σ, M => (evE a σ M).bind fun x M => (evE b σ M).bind fun y M => binW o x y M
  | .neg a, σ, M => (evE a σ M).bind fun x M => .ofO ((toI x).map fun i => .int (-i)) M
  | .not a, σ, M => (evE a σ M).bind fun x M => .ofO ((truW G x M).map fun b => .bl (!b)) M
  | .and a b, σ, M => (evE a σ M).bind fun x M => (Out.ofO (truW G x M) M).bind fun c M => if c then evE b σ M else .ok x M
  | .or a b, σ, M => (evE a σ M).bind fun x M => (Out.ofO (truW G x M) M).bind fun c M => if c then .ok x M else evE b σ M
  | .ife t a b, σ, M => (evE t σ M).bind fun x M => (Out.ofO (truW G x M) M).bind fun c M => if c then evE a σ M else evE b σ M
  | .cmp c a b, σ, M => (evE a σ M).bind fun x M => (evE b σ M).bind fun y M => cmpW G c x y M
  | .cmp2 c d a b e, σ, M => (evE a σ M).bind fun x M => (evE b σ M).bind fun y M => (cmpW G c x y M).bind fun r M =>
      (Out.ofO (truW G r M) M).bind fun k M => if k then (evE e σ M).bind fun z M => cmpW G d y z M else .ok r M
  | .attr a f, σ, M => (evE a σ M).bind fun x M => attrW G x f M
  | .sub a i, σ, M => (evE a σ M).bind fun x M => (evE i σ M).bind fun y M => subW G x y M
  | .tab kvs a, σ, M => (evE a σ M).bind fun x M => tabW kvs x M
  | .tnin kvs a, σ, M => (evE a σ M).bind fun x M => tninW kvs x M
  | .slc a lo hi, σ, M => (evE a σ M).bind fun x M =>
      (if lo.isNo then .ok none M else (evE lo σ M).bind fun y M => .ofO ((toI y).map some) M).bind fun l M =>
      (if hi.isNo then .ok none M else (evE hi σ M).bind fun y M => .ofO ((toI y).map some) M).bind fun h M => slcW x l h M
  | .no, _, _ => .bad
  | .srev z a, σ, M => (evE a σ M).bind fun x M => revW z x M
  | .call f es ds, σ, M => (evL es σ M).bind fun ws M => C f (ws ++ ds) M
  | .callk f es k, σ, M => (evL es σ M).bind fun ws M => (evE k σ M).bind fun w M => C f (ws ++ [w]) M
  | .meth m a es ds, σ, M => (evE a σ M).bind fun x M => (Out.ofO (metW G m x M) M).bind fun f M => (evL es σ M).bind fun ws M => C f (x :: (ws ++ ds)) M
  | .bm m a es, σ, M => (evE a σ M).bind fun x M => .chk (bmT m x M) ((evL es σ M).bind fun ws M => bmW m x ws M)
  | .new c es, σ, M => (evL es σ M).bind fun ws M => newW G C1 c ws M
  | .bi b es, σ, M => (evL es σ M).bind fun ws M => biW G b ws M
  | .isi k a, σ, M => (evE a σ M).bind fun x M => .ofO ((isiW k x M).map .bl) M
  | .lc e t it c, σ, M => (evI it σ M).bind fun r M => ((lcGo G t (evE c) (evE e) r.2 r.1 (wipeW σ t.slots) [] (lockM r.2 M)).noExc.unlk r.2).bind fun ws M => .ok (.ref M.length) (M ++ [.lst ws])
  | .lc2 e t it t2 it2, σ, M => (evI it σ M).bind fun r M => ((lc2Go t (evI it2) t2 (evE e) r.2 r.1 (wipeW σ (t.slots ++ t2.slots)) [] (lockM r.2 M)).noExc.unlk r.2).bind fun ws M => .ok (.ref M.length) (M ++ [.lst ws])
  | .dc k v t it c, σ, M => (evI it σ M).bind fun r M => ((dcGo G t (evE c) (evE k) (evE v) r.2 r.1 (wipeW σ t.slots) [] (lockM r.2 M)).noExc.unlk r.2).bind fun kvs M => .ok (.ref M.length) (M ++ [.dct false kvs])
  | .sortk a k, σ, M => (evE a σ M).bind fun x M => newL ((lstOf x M).bind fun ws => (mapO (keyOf G k M) ws).bind fun ds => sortBy ds ws) M
  | .sortv a k, σ, M => (evE a σ M).bind fun x M => newL ((valsOf x M).bind fun ws => (mapO (keyOf G k M) ws).bind fun ds => sortBy ds ws) M
  | .sortvM a, σ, M => (evE a σ M).bind fun x M => newL ((valsOf x M).bind fun ws => (mapO (keyOf G kday M) ws).bind fun ds => sortMix ds ws) M
  | .maxk a, σ, M => (evE a σ M).bind fun x M => .ofO ((lstOf x M).bind fun ws => (mapO (keyOf G kday M) ws).bind fun ds => maxBy ds ws) M
  | .cntT a b, σ, M => (evE a σ M).bind fun x M => .chk (bmT .lcount x M) ((evE b σ M).bind fun y M => cntW G x y M)
  | .dict2 k1 v1 k2 v2, _, M => .chk (decide (k1 ≠ k2)) (.ok (.ref M.length) (M ++ [.dct false [(.str k1, .int v1), (.str k2, .int v2)]]))
def evL : El → Sw → Mem → Out (List Wv)
  | .nil, _, M => .ok [] M
  | .cons e es, σ, M => (evE e σ M).bind fun w M => (evL es σ M).bind fun ws M => .ok (w :: ws) M
def evI : It → Sw → Mem → Out (List Wv × List (Nat × Ob))
  | .val e, σ, M => (evE e σ M).bind fun x M => .ofO (walkV G x M) M
  | .rng a b, σ, M => (evE a σ M).bind fun x M => (evE b σ M).bind fun y M => match toI x, toI y with
    | some i, some j => .chk (rngOk i && rngOk j) (.ok (rngW i j, []) M)
    | _, _ => .bad
  | .rng3 a b c, σ, M => (evE a σ M).bind fun x M => (evE b σ M).bind fun y M => (evE c σ M).bind fun z M => match toI x, toI y, toI z with
    | some i, some j, some d => .chk (rngOk i && rngOk j && decide (0 < d) && decide (d ≤ 1000)) (.ok (rngS i j d, []) M)
    | _, _, _ => .bad
  | .items e, σ, M => (evE e σ M).bind fun x M => (Out.ofO (itmW x M) M).bind fun r M => .ok (r.1.map fun p => .tup [p.1, p.2], r.2) M
  | .vals e, σ, M => (evE e σ M).bind fun x M => (Out.ofO (itmW x M) M).bind fun r M => .ok (r.1.map fun p => p.2, r.2) M
  | .enum e, σ, M => (evE e σ M).bind fun x M => (Out.ofO (seqV x M) M).bind fun r M => .ok (r.1.zipIdx.map fun p => .tup [.int p.2, p.1], r.2) M
  | .zip a b, σ, M => (evE a σ M).bind fun x M => (evE b σ M).bind fun y M => (Out.ofO (seqL x M) M).bind fun r M => (Out.ofO (seqL y M) M).bind fun q M => .ok ((r.1.zip q.1).map fun p => .tup [p.1, p.2], r.2 ++ q.2) M
  | .zipT a b, σ, M => (evE a σ M).bind fun x M => (evE b σ M).bind fun y M => (Out.ofO (zipTW x y) M).bind fun r M => .ok (r, []) M
end

/-! ### statements -/
def setW (o i v : Wv) (M : Mem) : Out Unit := match o with
  | .ref l => match M[l]? with
    | some (.lst ws) => (match i with
      | .int j => if 0 ≤ j then (if j < ws.length then .ok () (M.set l (.lst (ws.set j.toNat v))) else .bad) else if -(ws.length : Int) ≤ j then .ok () (M.set l (.lst (ws.set (j + ws.length).toNat v))) else .bad
      | _ => .bad)
    | some (.dct false kvs) => .chk (keyOk kvs i && lenOk (kvs.length + 1)) (.ok () (M.set l (.dct false (dput kvs i v))))
    | _ => .bad
  | _ => .bad
def setA (o : Wv) (f : Str) (v : Wv) (M : Mem) : Out Unit := match o with
  | .ref l => match M[l]? with
    | some (.ins c fs) => .chk ((G.cls c).isSome && decide (fs.length < 1000)) (.ok () (M.set l (.ins c (putF f v fs))))
    | _ => .bad
  | _ => .bad
/-- an instance's class -/
def clsAt (x : Wv) (M : Mem) : Option Nat := match x with
  | .ref l => match M[l]? with
    | some (.ins c _) => some c
    | _ => none
  | _ => none
/-- x op= y -/
def augW (o : Op) (x y : Wv) (M : Mem) : Out Wv := match o, x, y with
  | .add, .int i, .int j => .ok (.int (i + j)) M
  | .sub, .int i, .int j => .ok (.int (i - j)) M
  | _, _, _ => .bad
variable (fuel : Nat)
mutual
def evS : St → Sw → Mem → Out (Fl × Sw)
  | .asg t e, σ, M => (evE G C C1 e σ M).bind fun x M => (Out.ofO (tgW t x σ) M).bind fun σ M => .ok (.nx, σ) M
  | .asgA o f e, σ, M => (evE G C C1 e σ M).bind fun x M => (evE G C C1 o σ M).bind fun y M => (setA G y f x M).bind fun _ M => .ok (.nx, σ) M
  | .asgS o i e, σ, M => (evE G C C1 e σ M).bind fun x M => (evE G C C1 o σ M).bind fun y M => (evE G C C1 i σ M).bind fun z M => (setW y z x M).bind fun _ M => .ok (.nx, σ) M
  | .aug i p e, σ, M => (Out.ofO (getV i σ) M).bind fun x M => (evE G C C1 e σ M).bind fun y M => (augW p x y M).bind fun z M => .ok (.nx, σ.set i (some z)) M
  | .augA o f p e, σ, M => (evE G C C1 o σ M).bind fun y M => (attrW G y f M).bind fun x M1 => (evE G C C1 e σ M1).bind fun z M2 => (augW p x z M2).bind fun r M3 => .chk (decide (clsAt y M3 = clsAt y M)) ((setA G y f r M3).bind fun _ M => .ok (.nx, σ) M)
  | .ex e, σ, M => (evE G C C1 e σ M).bind fun _ M => .ok (.nx, σ) M
  | .ret e, σ, M => (evE G C C1 e σ M).bind fun x M => .ok (.ret x, σ) M
  | .retN, σ, M => .ok (.ret .non, σ) M
  | .pass, σ, M => .ok (.nx, σ) M
  | .brk, σ, M => .ok (.brk, σ) M
  | .cont, σ, M => .ok (.ct, σ) M
  | .ifs t a b, σ, M => (evE G C C1 t σ M).bind fun x M => (Out.ofO (truW G x M) M).bind fun k M => if k then evSl a σ M else evSl b σ M
  | .for_ t it b, σ, M => (evI G C C1 it σ M).bind fun r M => (forGo t (evSl b) r.2 r.1 σ (lockM r.2 M)).unlk r.2
  | .whl t b, σ, M => whlGo G (evE G C C1 t) (evSl b) fuel σ M
  | .raise c, _, M => .exc c M
  | .tryI b cs, σ, M => match evSl b σ M with
    | .exc c M1 => .chk (decide (c ∈ cs)) (.ok (.ret (.int ((cs.idxOf c : Nat) : Int)), σ) M1)
    | r => r
def evSl : Sl → Sw → Mem → Out (Fl × Sw)
  | .nil, σ, M => .ok (.nx, σ) M
  | .cons s r, σ, M => (evS s σ M).bind fun q M => match q.1 with
    | .nx => evSl r q.2 M
    | f => .ok (f, q.2) M
end
end
/-! ### calls -/
/-- a def's body at arguments -/
def runD (G : Pg) (C C1 : Nat → List Wv → Mem → Out Wv) (fuel : Nat) (d : Df) (ws : List Wv) (M : Mem) : Out Wv :=
  .chk (decide (ws.length = d.npar)) ((evSl G C C1 fuel d.body (ws.map some ++ List.replicate (d.slots - ws.length) none) M).bind fun r M => match r.1 with
    | .ret w => .ok w M
    | .nx => .ok .non M
    | _ => .bad)
/-- calls, so deep -/
def callN (G : Pg) (fuel : Nat) : Nat → Nat → List Wv → Mem → Out Wv
  | 0, _, _, _ => .bad
  | 1, f, ws, M => match G.df f with
    | some d => runD G (fun _ _ _ => .bad) (fun _ _ _ => .bad) fuel d ws M
    | none => .bad
  | n + 2, f, ws, M => match G.df f with
    | some d => runD G (callN G fuel (n + 1)) (callN G fuel n) fuel d ws M
    | none => .bad
end MP
end
section
set_option Elab.async false
set_option linter.all false
set_option maxRecDepth 100000
/-! MP2: what a value of the small Python is in the hand layer's heap; readings by the small Python's own reckoning. -/
namespace MP
open PySem PySem.Spec PyProof.Rows L2

/-- what stands still through a law's run -/
structure Zt where
  P : Program
  w : World
  K : PySem.W.Frag
  S : List Int
  cls : Nat → Addr
  exc : Nat → Addr
  T : List (Addr × Str)

/-- the script: locked, or the module's own -/
def ScR (K : PySem.W.Frag) (H : Hp) (a : Addr) (xs : List V) : Prop := (∃ o, H a = some (.frz o (.lst xs))) ∨ ∀ H', SqL K H' a xs
theorem ScR.sq {K : PySem.W.Frag} {H : Hp} {a : Addr} {xs : List V} (h : ScR K H a xs) : SqL K H a xs := by
  rcases h with ⟨o, h⟩ | h
  · exact .inl (.inr ⟨o, h⟩)
  · exact h H
mutual
inductive WR (Z : Zt) (ι : List Addr) (H : Hp) : Wv → V → Prop
  | non : WR Z ι H .non .non
  | bl (b : Bool) : WR Z ι H (.bl b) (.bl b)
  | int (i : Int) : WR Z ι H (.int i) (.int i)
  | str (s : Str) : WR Z ι H (.str s) (.str s)
  | tup {ws : List Wv} {vs : List V} {a : Addr} : SqT Z.K H a vs → WsR Z ι H ws vs → WR Z ι H (.tup ws) (.ref a)
  | ref {l : Nat} {a : Addr} : ι[l]? = some a → WR Z ι H (.ref l) (.ref a)
  | scr {a : Addr} : ScR Z.K H a (Z.S.map V.int) → WR Z ι H .scr (.ref a)
inductive WsR (Z : Zt) (ι : List Addr) (H : Hp) : List Wv → List V → Prop
  | nil : WsR Z ι H [] []
  | cons {w : Wv} {v : V} {ws : List Wv} {vs : List V} : WR Z ι H w v → WsR Z ι H ws vs → WsR Z ι H (w :: ws) (v :: vs)
end
/-- an object that never changes -/
def Imm (o : HO) : Prop := (∃ xs, o = .tup xs) ∨ ∃ ob u, o = .frz ob u ∧ ∀ φ, u ≠ .ext φ
def NoT (o : HO) : Prop := ∀ ps, o ≠ .tbl ps
/-- nothing, or a table -/
def Vac (H : Hp) (a : Addr) : Prop := ∀ o, H a = some o → NoT o → False
theorem Vac.of {H : Hp} {a : Addr} (h : H a = none) : Vac H a := fun o e _ => by rw [h] at e; cases e
theorem Vac.upd_ne {H : Hp} {a b : Addr} {ho : HO} (h : Vac (upd H b ho) a) (ne : a ≠ b) : Vac H a := fun o e n => h o (by rw [L2.upd_ne ne]; exact e) n
theorem Vac.upd_self {H : Hp} {b : Addr} {ho : HO} (n : NoT ho) (h : Vac (upd H b ho) b) : False := h ho upd_same n
/-- the heap goes on -/
structure Ext (ι ι' : List Addr) (H H' : Hp) : Prop where
  pre : ∃ κ, ι' = ι ++ κ ∧ ∀ a ∈ κ, Vac H a
  frm : ∀ a o, H a = some o → NoT o → (a ∉ ι ∨ Imm o) → H' a = some o
  frz : ∀ a ob φ, H a = some (.frz ob (.ext φ)) → H' a = some (.frz ob (.ext φ))
  dom : ∀ a, Vac H' a → Vac H a
theorem Imm.noT {o : HO} (h : Imm o) : NoT o := by
  rintro ps rfl
  rcases h with ⟨xs, h⟩ | ⟨ob, u, h, _⟩ <;> cases h
theorem Ext.refl (ι : List Addr) (H : Hp) : Ext ι ι H H := ⟨⟨[], by simp, by simp⟩, fun _ _ h _ _ => h, fun _ _ _ h => h, fun _ h => h⟩
theorem Ext.trans {ι ι1 ι2 : List Addr} {H H1 H2 : Hp} (a : Ext ι ι1 H H1) (b : Ext ι1 ι2 H1 H2) : Ext ι ι2 H H2 := by
  obtain ⟨κ, rfl, hκ⟩ := a.pre
  obtain ⟨κ2, rfl, hκ2⟩ := b.pre
  refine ⟨⟨κ ++ κ2, by simp, fun x hx => ?_⟩, fun x o h nt hx => ?_, fun x ob φ h => b.frz x ob φ (a.frz x ob φ h), fun x h => a.dom x (b.dom x h)⟩
  · rcases List.mem_append.mp hx with z | z
    · exact hκ x z
    · exact a.dom x (hκ2 x z)
  · refine b.frm x o (a.frm x o h nt hx) nt ?_
    rcases hx with z | z
    · refine .inl fun q => ?_
      rcases List.mem_append.mp q with q | q
      · exact z q
      · exact hκ x q o h nt
    · exact .inr z
/-- what told values lean on stays -/
structure Le (ι ι' : List Addr) (H H' : Hp) : Prop where
  ix : ∀ (l : Nat) (a : Addr), ι[l]? = some a → ι'[l]? = some a
  imm : ∀ a o, H a = some o → Imm o → H' a = some o
theorem Ext.le {ι ι' : List Addr} {H H' : Hp} (e : Ext ι ι' H H') : Le ι ι' H H' := by
  refine ⟨fun l a h => ?_, fun a o h i => e.frm a o h i.noT (.inr i)⟩
  obtain ⟨κ, rfl, _⟩ := e.pre
  rw [List.getElem?_append_left (List.getElem?_eq_some_iff.mp h).1]; exact h
theorem Le.grow (ι κ : List Addr) (H : Hp) : Le ι (ι ++ κ) H H := ⟨fun l a h => by rw [List.getElem?_append_left (List.getElem?_eq_some_iff.mp h).1]; exact h, fun _ _ h _ => h⟩
theorem Le.sqT {ι ι' : List Addr} {H H' : Hp} (e : Le ι ι' H H') {K : PySem.W.Frag} {a : Addr} {xs : List V} (h : SqT K H a xs) : SqT K H' a xs := by
  rcases h with (h | ⟨o, h⟩) | h
  · exact .inl (.inl (e.imm _ _ h (.inl ⟨_, rfl⟩)))
  · exact .inl (.inr ⟨o, e.imm _ _ h (.inr ⟨_, _, rfl, fun φ z => by cases z⟩)⟩)
  · exact .inr h
theorem Le.scR {ι ι' : List Addr} {H H' : Hp} (e : Le ι ι' H H') {K : PySem.W.Frag} {a : Addr} {xs : List V} (h : ScR K H a xs) : ScR K H' a xs := by
  rcases h with ⟨o, h⟩ | h
  · exact .inl ⟨o, e.imm _ _ h (.inr ⟨_, _, rfl, fun φ z => by cases z⟩)⟩
  · exact .inr h
mutual
theorem WR.mono {Z : Zt} {ι ι' : List Addr} {H H' : Hp} (e : Le ι ι' H H') : ∀ {w : Wv} {v : V}, WR Z ι H w v → WR Z ι' H' w v
  | _, _, .non => .non
  | _, _, .bl b => .bl b
  | _, _, .int i => .int i
  | _, _, .str s => .str s
  | _, _, .tup h t => .tup (e.sqT h) (WsR.mono e t)
  | _, _, .ref h => .ref (e.ix _ _ h)
  | _, _, .scr h => .scr (e.scR h)
theorem WsR.mono {Z : Zt} {ι ι' : List Addr} {H H' : Hp} (e : Le ι ι' H H') : ∀ {ws : List Wv} {vs : List V}, WsR Z ι H ws vs → WsR Z ι' H' ws vs
  | _, _, .nil => .nil
  | _, _, .cons h t => .cons (WR.mono e h) (WsR.mono e t)
end
/-! ### rows of values -/
section
variable {Z : Zt} {ι ι' : List Addr} {H H' : Hp}
theorem WsR.length : ∀ {ws : List Wv} {vs : List V}, WsR Z ι H ws vs → ws.length = vs.length
  | _, _, .nil => rfl
  | _, _, .cons _ t => congrArg (· + 1) t.length
theorem WsR.append : ∀ {ws xs : List Wv} {vs ys : List V}, WsR Z ι H ws vs → WsR Z ι H xs ys → WsR Z ι H (ws ++ xs) (vs ++ ys)
  | _, _, _, _, .nil, s => s
  | _, _, _, _, .cons h t, s => .cons h (t.append s)
theorem WsR.get : ∀ {ws : List Wv} {vs : List V} {i : Nat} {w : Wv}, WsR Z ι H ws vs → ws[i]? = some w → ∃ v, vs[i]? = some v ∧ WR Z ι H w v
  | _, _, _, _, .nil, e => by simp at e
  | _, _, 0, _, .cons h _, e => by simp at e; subst e; exact ⟨_, rfl, h⟩
  | _, _, i + 1, _, .cons _ t, e => by
    obtain ⟨v, h1, h2⟩ := t.get (i := i) (by simpa using e)
    exact ⟨v, by simpa using h1, h2⟩
theorem WsR.get2 : ∀ {ws : List Wv} {vs : List V} {i : Nat} {v : V}, WsR Z ι H ws vs → vs[i]? = some v → ∃ w, ws[i]? = some w ∧ WR Z ι H w v
  | _, _, _, _, .nil, e => by simp at e
  | _, _, 0, _, .cons h _, e => by simp at e; subst e; exact ⟨_, rfl, h⟩
  | _, _, i + 1, _, .cons _ t, e => by
    obtain ⟨v, h1, h2⟩ := t.get2 (i := i) (by simpa using e)
    exact ⟨v, by simpa using h1, h2⟩
theorem WsR.set {w : Wv} {v : V} (h : WR Z ι H w v) : ∀ {ws : List Wv} {vs : List V} (i : Nat), WsR Z ι H ws vs → WsR Z ι H (ws.set i w) (vs.set i v)
  | _, _, _, .nil => .nil
  | _, _, 0, .cons _ t => .cons h t
  | _, _, i + 1, .cons q t => .cons q (t.set h i)
theorem WsR.take : ∀ {ws : List Wv} {vs : List V} (n : Nat), WsR Z ι H ws vs → WsR Z ι H (ws.take n) (vs.take n)
  | _, _, 0, _ => .nil
  | _, _, _ + 1, .nil => .nil
  | _, _, n + 1, .cons h t => .cons h (t.take n)
theorem WsR.drop : ∀ {ws : List Wv} {vs : List V} (n : Nat), WsR Z ι H ws vs → WsR Z ι H (ws.drop n) (vs.drop n)
  | _, _, 0, h => h
  | _, _, _ + 1, .nil => .nil
  | _, _, n + 1, .cons _ t => t.drop n
theorem WsR.rev {ws : List Wv} {vs : List V} (h : WsR Z ι H ws vs) : WsR Z ι H ws.reverse vs.reverse := by
  induction ws generalizing vs with
  | nil => cases h; exact .nil
  | cons w ws ih =>
    cases h with
    | cons h t => rw [List.reverse_cons, List.reverse_cons]; exact (ih t).append (.cons h .nil)
theorem WsR.ints (ns : List Int) : WsR Z ι H (ns.map .int) (ns.map V.int) := by
  induction ns with
  | nil => exact .nil
  | cons n ns ih => exact .cons (.int n) ih
end

/-! ### objects -/
mutual
/-- a key -/
def toNK : Wv → NestedKey
  | .int i => .num i
  | .str x => .text x
  | .tup ws => .tup (toNKs ws)
  | .non => .none
  | .bl _ => .none
  | .ref _ => .none
  | .scr => .none
def toNKs : List Wv → List NestedKey
  | [] => []
  | w :: ws => toNK w :: toNKs ws
end
/-- a pair and its entry -/
def EnR (Z : Zt) (ι : List Addr) (H : Hp) (p : Wv × Wv) (e : DictEntry) : Prop := ∃ kv vv, RelV kv e.key ∧ WR Z ι H p.1 kv ∧ RelV vv e.val ∧ WR Z ι H p.2 vv ∧ e.hash = (toNK p.1).hash Z.w
/-- a dict's object is known -/
def DctO (a : Addr) (o : Obj) : HO := .ext fun h => h.get? a = some o
/-- .. locked while it is walked -/
def lkO (z : Bool) (a : Addr) (o : Obj) : HO := match z with
  | true => .frz o (DctO a o)
  | false => DctO a o
def DctR (Z : Zt) (ι : List Addr) (H : Hp) (a : Addr) (z : Bool) (kvs : List (Wv × Wv)) : Prop :=
  ∃ o es ep, H a = some (lkO z a o) ∧ o.ExactDict ∧ o.data = .dict es ep ∧ (a == sysModules) = false ∧ kvs.length ≤ sizeLine ∧ (kvs.map (·.1)).Nodup ∧
    ((kvs.all fun p => keyA p.1) = true ∨ (kvs.all fun p => keyT p.1) = true) ∧ Paired (EnR Z ι H) kvs es.toList
def FsR (Z : Zt) (ι : List Addr) (H : Hp) : List (Str × Wv) → List (Str × V) → Prop := Paired fun p q => p.1 = q.1 ∧ WR Z ι H p.2 q.2
def OR (Z : Zt) (ι : List Addr) (H : Hp) (a : Addr) : Ob → Prop
  | .lst ws => ∃ vs, H a = some (.lst vs) ∧ WsR Z ι H ws vs
  | .dct z kvs => DctR Z ι H a z kvs
  | .ins c fs => ∃ dx vs, H a = some (.ins (Z.cls c) dx vs) ∧ FsR Z ι H fs vs
theorem lkO_noT (z : Bool) (a : Addr) (o : Obj) : NoT (lkO z a o) := fun ps e => by
  cases z <;> cases e
theorem lkO_noI (z : Bool) (a : Addr) (o : Obj) : ¬ Imm (lkO z a o) := fun h => by
  cases z with
  | true =>
    rcases h with ⟨_, h⟩ | ⟨_, _, h, n⟩
    · cases h
    · cases h; exact n _ rfl
  | false => rcases h with ⟨_, h⟩ | ⟨_, _, h, n⟩ <;> cases h
structure RM (Z : Zt) (ι : List Addr) (M : Mem) (H : Hp) : Prop where
  len : ι.length = M.length
  nd : ι.Nodup
  ob : ∀ (l : Nat) (o : Ob) (a : Addr), M[l]? = some o → ι[l]? = some a → OR Z ι H a o
  tab : LamX.Tabs Z.T H
section
variable {Z : Zt} {ι ι' : List Addr} {H H' : Hp} {M M' : Mem} {a : Addr} {o : Ob}
theorem EnR.mono (e : Le ι ι' H H') {p : Wv × Wv} {d : DictEntry} (h : EnR Z ι H p d) : EnR Z ι' H' p d := by
  obtain ⟨kv, vv, h1, h2, h3, h4, h5⟩ := h
  exact ⟨kv, vv, h1, h2.mono e, h3, h4.mono e, h5⟩
theorem FsR.mono (e : Le ι ι' H H') {fs : List (Str × Wv)} {vs : List (Str × V)} (h : FsR Z ι H fs vs) : FsR Z ι' H' fs vs := L2.Paired.mapP h fun _ _ z => ⟨z.1, z.2.mono e⟩
/-- an object that stays -/
theorem OR.mono (e : Le ι ι' H H') (k : ∀ ho, H a = some ho → NoT ho → H' a = some ho) (h : OR Z ι H a o) : OR Z ι' H' a o := by
  cases o with
  | lst ws =>
    obtain ⟨vs, h1, h2⟩ := h
    exact ⟨vs, k _ h1 (fun ps z => by cases z), h2.mono e⟩
  | dct z kvs =>
    obtain ⟨o, es, ep, h1, h2, h3, h4, h5, h6, h7, h8⟩ := h
    exact ⟨o, es, ep, k _ h1 (lkO_noT z a o), h2, h3, h4, h5, h6, h7, L2.Paired.mapP h8 fun _ _ z => z.mono e⟩
  | ins c fs =>
    obtain ⟨dx, vs, h1, h2⟩ := h
    exact ⟨dx, vs, k _ h1 (fun ps z => by cases z), h2.mono e⟩
theorem OR.some (h : OR Z ι H a o) : ∃ ho, H a = some ho ∧ NoT ho ∧ ¬ Imm ho := by
  cases o with
  | lst ws =>
    obtain ⟨vs, h1, h2⟩ := h
    exact ⟨_, h1, (fun ps z => by cases z), (fun z => by rcases z with ⟨_, z⟩ | ⟨_, _, z, _⟩ <;> cases z)⟩
  | dct z kvs =>
    obtain ⟨o, es, ep, h1, h2⟩ := h
    exact ⟨_, h1, lkO_noT z a o, lkO_noI z a o⟩
  | ins c fs =>
    obtain ⟨dx, vs, h1, h2⟩ := h
    exact ⟨_, h1, (fun ps z => by cases z), (fun z => by rcases z with ⟨_, z⟩ | ⟨_, _, z, _⟩ <;> cases z)⟩
theorem RM.at (R : RM Z ι M H) {l : Nat} (h : M[l]? = some o) : ∃ a, ι[l]? = some a ∧ OR Z ι H a o := by
  have hl : l < M.length := (List.getElem?_eq_some_iff.mp h).1
  have hl2 : l < ι.length := by rw [R.len]; exact hl
  exact ⟨ι[l], by simp [hl2], R.ob l o _ h (by simp [hl2])⟩
theorem RM.mem (R : RM Z ι M H) (h : a ∈ ι) : ∃ (l : Nat) (o : Ob), ι[l]? = some a ∧ M[l]? = some o ∧ OR Z ι H a o := by
  obtain ⟨l, hl⟩ := List.mem_iff_getElem?.mp h
  have h1 : l < ι.length := (List.getElem?_eq_some_iff.mp hl).1
  have h2 : l < M.length := by rw [← R.len]; exact h1
  exact ⟨l, M[l], hl, by simp [h2], R.ob l _ a (by simp [h2]) hl⟩
theorem RM.notin (R : RM Z ι M H) (h : H a = none) : a ∉ ι := fun hm => by
  obtain ⟨_, _, _, _, q⟩ := R.mem hm
  obtain ⟨ho, q, _⟩ := q.some
  rw [h] at q; cases q
theorem RM.at_ref (R : RM Z ι M H) {l : Nat} (h : M[l]? = some o) {v : V} (w : WR Z ι H (.ref l) v) : ∃ a, v = .ref a ∧ ι[l]? = some a ∧ OR Z ι H a o := by
  cases w with
  | ref e => exact ⟨_, rfl, e, R.ob l o _ h e⟩
/-- a new object beside all others, not told of -/
theorem Le.fresh (ι : List Addr) {p : Addr} {ho : HO} (hp : H p = none) : Le ι ι H (upd H p ho) := ⟨fun _ _ h => h, fun x o h _ => by rw [upd_ne (ne_of_none h hp)]; exact h⟩
theorem Ext.fresh (ι : List Addr) {p : Addr} {ho : HO} (hp : H p = none) (nt : NoT ho := by intro ps z; cases z) : Ext ι ι H (upd H p ho) :=
  ⟨⟨[], by simp, by simp⟩, fun x o h _ _ => by rw [upd_ne (ne_of_none h hp)]; exact h, fun x ob φ h => by rw [upd_ne (ne_of_none h hp)]; exact h, fun x h => by
    by_cases e : x = p
    · rw [e]; exact Vac.of hp
    · exact h.upd_ne e⟩
theorem tabs_upd {T : List (Addr × Str)} {p : Addr} {ho : HO} (t : LamX.Tabs T H) (hp : H p = none) : LamX.Tabs T (upd H p ho) := t.ext fun b o h => by rw [upd_ne (ne_of_none h hp)]; exact h
theorem RM.fresh (R : RM Z ι M H) {p : Addr} {ho : HO} (hp : H p = none) : RM Z ι M (upd H p ho) :=
  ⟨R.len, R.nd, fun l o a h1 h2 => (R.ob l o a h1 h2).mono (Le.fresh ι hp) fun z q _ => by rw [upd_ne (ne_of_none q hp)]; exact q, tabs_upd R.tab hp⟩
/-- a new object that is told of -/
theorem Ext.alloc (ι : List Addr) {p : Addr} {ho : HO} (hp : H p = none) (nt : NoT ho := by intro ps z; cases z) : Ext ι (ι ++ [p]) H (upd H p ho) :=
  ⟨⟨[p], rfl, fun x hx => by rw [List.mem_singleton.mp hx]; exact Vac.of hp⟩, (Ext.fresh ι hp nt).frm, (Ext.fresh ι hp nt).frz, (Ext.fresh (ho := ho) ι hp nt).dom⟩
theorem Ext.told {ι : List Addr} {p : Addr} (hp : Vac H p) (e : Ext ι ι' H H') (hn : p ∉ ι') : Ext ι (ι' ++ [p]) H H' := by
  obtain ⟨κ, rfl, hκ⟩ := e.pre
  refine ⟨⟨κ ++ [p], by simp, fun x hx => ?_⟩, e.frm, e.frz, e.dom⟩
  rcases List.mem_append.mp hx with z | z
  · exact hκ x z
  · rw [List.mem_singleton.mp z]; exact hp
theorem nodup_snoc {l : List Addr} {p : Addr} (h : l.Nodup) (hp : p ∉ l) : (l ++ [p]).Nodup := by
  rw [List.nodup_append]
  exact ⟨h, by simp, fun x hx y hy => by rw [List.mem_singleton.mp hy]; exact fun e => hp (e ▸ hx)⟩
/-- an object that stands is told of from now on -/
theorem RM.tell (R : RM Z ι M H) {p : Addr} (hn : p ∉ ι) (h : OR Z (ι ++ [p]) H p o) : RM Z (ι ++ [p]) (M ++ [o]) H := by
  refine ⟨by simp [R.len], nodup_snoc R.nd hn, fun l q b h1 h2 => ?_, R.tab⟩
  by_cases hl : l < M.length
  · rw [List.getElem?_append_left hl] at h1
    rw [List.getElem?_append_left (by rw [R.len]; exact hl)] at h2
    exact (R.ob l q b h1 h2).mono (Le.grow ι [p] H) fun _ z _ => z
  · have e : l = M.length := by
      have := (List.getElem?_eq_some_iff.mp h1).1
      simp at this
      omega
    subst e
    rw [List.getElem?_append_right (Nat.le_refl _)] at h1
    rw [List.getElem?_append_right (by rw [R.len]; exact Nat.le_refl _)] at h2
    simp [R.len] at h1 h2
    subst h1 h2
    exact h
/-- an object that is told of is changed -/
theorem Ext.write {M : Mem} (R : RM Z ι M H) {l : Nat} (hl : ι[l]? = some a) {ho : HO} (nf : ∀ ob φ, H a ≠ some (.frz ob (.ext φ))) (nt : NoT ho := by intro ps z; cases z) : Ext ι ι H (upd H a ho) := by
  have hm : a ∈ ι := List.mem_of_getElem? hl
  obtain ⟨_, _, _, _, q⟩ := R.mem hm
  obtain ⟨h0, e0, n0, i0⟩ := q.some
  refine ⟨⟨[], by simp, by simp⟩, fun x o h nt hx => ?_, fun x ob φ h => ?_, fun x h => ?_⟩
  · have : x ≠ a := by
      rintro rfl
      rcases hx with z | z
      · exact z hm
      · rw [e0] at h; cases h; exact i0 z
    rw [upd_ne this]; exact h
  · have : x ≠ a := by
      rintro rfl
      exact nf _ _ h
    rw [upd_ne this]; exact h
  · by_cases e : x = a
    · rw [e] at h; exact (h.upd_self nt).elim
    · exact h.upd_ne e
theorem Le.write {M : Mem} (R : RM Z ι M H) {l : Nat} (hl : ι[l]? = some a) {ho : HO} : Le ι ι H (upd H a ho) := by
  have hm : a ∈ ι := List.mem_of_getElem? hl
  obtain ⟨_, _, _, _, q⟩ := R.mem hm
  obtain ⟨h0, e0, n0, i0⟩ := q.some
  refine ⟨fun _ _ h => h, fun x o h hx => ?_⟩
  have : x ≠ a := by
    rintro rfl
    rw [e0] at h; cases h; exact i0 hx
  rw [upd_ne this]; exact h
theorem tabs_write {T : List (Addr × Str)} {ho h0 : HO} (t : LamX.Tabs T H) (e0 : H a = some h0) (n0 : NoT h0) (nc : ∀ q, h0 ≠ LamX.CodeO a q) : LamX.Tabs T (upd H a ho) := fun p hp => by
  obtain ⟨ps, h1, h2, h3⟩ := t p hp
  have ne : p.1 ≠ a := fun z => by rw [z, e0] at h1; cases h1; exact n0 ps rfl
  refine ⟨ps, by rw [upd_ne ne]; exact h1, h2, fun pos cv hc => ?_⟩
  obtain ⟨c, e1, e2⟩ := h3 pos cv hc
  have nc' : c ≠ a := fun z => by rw [z, e0] at e2; exact nc _ (Option.some.inj e2)
  exact ⟨c, e1, by rw [upd_ne nc']; exact e2⟩
theorem nodup_ixA : ∀ {l : List Addr}, l.Nodup → ∀ {i j : Nat} {x : Addr}, l[i]? = some x → l[j]? = some x → i = j
  | [], _, _, _, _, h, _ => by simp at h
  | a :: l, nd, 0, 0, _, _, _ => rfl
  | a :: l, nd, 0, j + 1, x, h1, h2 => by
    simp at h1 h2
    subst h1
    exact absurd (List.mem_of_getElem? h2) (List.nodup_cons.mp nd).1
  | a :: l, nd, i + 1, 0, x, h1, h2 => by
    simp at h1 h2
    subst h2
    exact absurd (List.mem_of_getElem? h1) (List.nodup_cons.mp nd).1
  | a :: l, nd, i + 1, j + 1, x, h1, h2 => congrArg (· + 1) (nodup_ixA (List.nodup_cons.mp nd).2 (by simpa using h1) (by simpa using h2))
theorem RM.write (R : RM Z ι M H) {l : Nat} {o0 : Ob} {ho h0 : HO} (hM : M[l]? = some o0) (hl : ι[l]? = some a) (e0 : H a = some h0) (n0 : NoT h0) (nc : ∀ q, h0 ≠ LamX.CodeO a q) (h : OR Z ι (upd H a ho) a o) : RM Z ι (M.set l o) (upd H a ho) := by
  refine ⟨by simp [R.len], R.nd, fun j q b h1 h2 => ?_, tabs_write R.tab e0 n0 nc⟩
  have hlt : l < M.length := (List.getElem?_eq_some_iff.mp hM).1
  by_cases hj : l = j
  · subst hj
    rw [List.getElem?_set_self hlt] at h1
    cases h1
    rw [hl] at h2; cases h2
    exact h
  · rw [List.getElem?_set_ne hj] at h1
    have nb : b ≠ a := by
      rintro rfl
      exact hj (nodup_ixA R.nd hl h2)
    exact (R.ob j q b h1 h2).mono (Le.write R hl) fun z e _ => by rw [upd_ne nb]; exact e
/-- a new object, told of -/
theorem RM.alloc (R : RM Z ι M H) {p : Addr} {ho : HO} (hp : H p = none) (h : OR Z (ι ++ [p]) (upd H p ho) p o) : RM Z (ι ++ [p]) (M ++ [o]) (upd H p ho) :=
  (R.fresh hp).tell (R.notin hp) h
theorem snoc_ix (R : RM Z ι M H) (p : Addr) : (ι ++ [p])[M.length]? = some p := by
  rw [← R.len, List.getElem?_append_right (Nat.le_refl _)]; simp
end
end MP
end
section
set_option Elab.async false
set_option linter.all false
set_option maxRecDepth 100000
/-! MP3: readings by the small Python's reckoning; how they are put together. -/
namespace MP
open PySem PySem.Spec PyProof.Rows L2

/-- the slots -/
structure SR (Z : Zt) (ι : List Addr) (H : Hp) (sw : Sw) (σ : L2.St) : Prop where
  len : sw.length = σ.length
  get : ∀ (i : Nat) (w : Wv), sw[i]? = some (some w) → ∃ v, σ[i]? = some (some v) ∧ WR Z ι H w v
theorem SR.mono {Z : Zt} {ι ι' : List Addr} {H H' : Hp} {sw : Sw} {σ : L2.St} (s : SR Z ι H sw σ) (e : Le ι ι' H H') : SR Z ι' H' sw σ :=
  ⟨s.len, fun i w h => let ⟨v, h1, h2⟩ := s.get i w h; ⟨v, h1, h2.mono e⟩⟩
theorem SR.set {Z : Zt} {ι : List Addr} {H : Hp} {sw : Sw} {σ : L2.St} (s : SR Z ι H sw σ) {w : Wv} {v : V} (r : WR Z ι H w v) (i : Nat) : SR Z ι H (sw.set i (some w)) (σ.set i (some v)) := by
  refine ⟨by simp [s.len], fun j x h => ?_⟩
  by_cases hj : i = j
  · subst hj
    by_cases hi : i < sw.length
    · rw [List.getElem?_set_self hi] at h
      cases h
      exact ⟨v, by rw [List.getElem?_set_self (by rw [← s.len]; exact hi)], r⟩
    · rw [List.getElem?_eq_none (by simpa using hi)] at h; cases h
  · rw [List.getElem?_set_ne hj] at h ⊢
    exact s.get j x h
theorem SR.wipe {Z : Zt} {ι : List Addr} {H : Hp} {sw : Sw} {σ : L2.St} (s : SR Z ι H sw σ) : ∀ vs : List Nat, SR Z ι H (wipeW sw vs) (wipe σ vs)
  | [] => s
  | v :: vs => by
    have t := s.wipe vs
    refine ⟨by simp [wipeW, L2.wipe, t.len], fun j x h => ?_⟩
    unfold wipeW at h
    unfold L2.wipe
    by_cases hj : v = j
    · subst hj
      by_cases hi : v < (wipeW sw vs).length
      · rw [List.getElem?_set_self hi] at h; cases h
      · rw [List.getElem?_eq_none (by simpa using hi)] at h; cases h
    · rw [List.getElem?_set_ne hj] at h ⊢
      exact t.get j x h

/-- what is wished of a refusal, by its class, the slots, the heap -/
abbrev Wish := Nat → L2.St → Hp → Prop
/-- what follows an end -/
def eOut (Z : Zt) (Wx : Wish) (σ : L2.St) (ι : List Addr) (H : Hp) (r : Out Wv) (Q : VK) : Prop := match r with
  | .ok w M => ∀ v H' ι', Ext ι ι' H H' → RM Z ι' M H' → WR Z ι' H' w v → Q v H'
  | .exc c M => ∀ H' ι', Ext ι ι' H H' → RM Z ι' M H' → Wx c σ H'
  | .bad => False
abbrev Fv := Sw → Mem → Out Wv
def tE (Z : Zt) (Wx : Wish) (f : Fv) : TE := fun σ H Q => ∃ ι sw M, SR Z ι H sw σ ∧ RM Z ι M H ∧ eOut Z Wx σ ι H (f sw M) Q
def aOut (Z : Zt) (Wx : Wish) (σ : L2.St) (ι : List Addr) (H : Hp) (r : Out (List Wv)) (Q : List V → Hp → Prop) : Prop := match r with
  | .ok w M => ∀ v H' ι', Ext ι ι' H H' → RM Z ι' M H' → WsR Z ι' H' w v → Q v H'
  | .exc c M => ∀ H' ι', Ext ι ι' H H' → RM Z ι' M H' → Wx c σ H'
  | .bad => False
def tA (Z : Zt) (Wx : Wish) (f : Sw → Mem → Out (List Wv)) : TA := fun σ H Q => ∃ ι sw M, SR Z ι H sw σ ∧ RM Z ι M H ∧ aOut Z Wx σ ι H (f sw M) Q
def bOut (Z : Zt) (Wx : Wish) (σ : L2.St) (ι : List Addr) (H : Hp) (r : Out Bool) (Q : Bool → Hp → Prop) : Prop := match r with
  | .ok b M => ∀ H' ι', Ext ι ι' H H' → RM Z ι' M H' → Q b H'
  | .exc c M => ∀ H' ι', Ext ι ι' H H' → RM Z ι' M H' → Wx c σ H'
  | .bad => False
def tT (Z : Zt) (Wx : Wish) (f : Sw → Mem → Out Bool) : TT := fun σ H Q => ∃ ι sw M, SR Z ι H sw σ ∧ RM Z ι M H ∧ bOut Z Wx σ ι H (f sw M) Q
/-- statements -/
def sOut (Z : Zt) (Wx : Wish) (ι : List Addr) (H : Hp) (r : Out (Fl × Sw)) (D : Ends) : Prop := match r with
  | .ok (f, sw) M => ∀ σ' H' ι', Ext ι ι' H H' → RM Z ι' M H' → SR Z ι' H' sw σ' → match f with
    | .nx => D.nx σ' H'
    | .brk => D.bk σ' H'
    | .ct => D.ct σ' H'
    | .ret w => ∀ v, WR Z ι' H' w v → D.rt v H'
  | .exc c M => ∀ σ' H' ι', Ext ι ι' H H' → RM Z ι' M H' → Wx c σ' H'
  | .bad => False
def tS (Z : Zt) (Wx : Wish) (f : Sw → Mem → Out (Fl × Sw)) : TS := fun D σ H => ∃ ι sw M, SR Z ι H sw σ ∧ RM Z ι M H ∧ sOut Z Wx ι H (f sw M) D

/-! ### weaker readings -/
theorem _root_.L2.PE.weak {X : Cx} {e : Expr} {t t' : TE} (h : PE X e t) (w : ∀ σ H Q, t' σ H Q → t σ H Q) : PE X e t' := ⟨fun pins s σ H Q I q => h.run pins s σ H Q I (w σ H Q q)⟩
theorem _root_.L2.PT.weak {X : Cx} {e : Expr} {t t' : TT} (h : PT X e t) (w : ∀ σ H Q, t' σ H Q → t σ H Q) : PT X e t' := ⟨fun pins s σ H Q I q => h.run pins s σ H Q I (w σ H Q q)⟩
theorem _root_.L2.PW.weak {X : Cx} {e : Expr} {t t' : TT} (h : PW X e t) (w : ∀ σ H Q, t' σ H Q → t σ H Q) : PW X e t' := ⟨fun wh pins s σ H Q I q => h.run wh pins s σ H Q I (w σ H Q q)⟩
theorem _root_.L2.PA.weak {X : Cx} {e : List Expr} {t t' : TA} (h : PA X e t) (w : ∀ σ H Q, t' σ H Q → t σ H Q) : PA X e t' := ⟨fun pos pins s σ H Q I q => h.run pos pins s σ H Q I (w σ H Q q)⟩
theorem _root_.L2.PS.weak {X : Cx} {e : Stmt} {t t' : TS} (h : PS X e t) (w : ∀ D σ H, t' D σ H → t D σ H) : PS X e t' := ⟨fun pins s σ H D I q => h.run pins s σ H D I (w D σ H q)⟩
theorem _root_.L2.PSs.weak {X : Cx} {e : List Stmt} {t t' : TS} (h : PSs X e t) (w : ∀ D σ H, t' D σ H → t D σ H) : PSs X e t' := ⟨fun pins s σ H D I q => h.run pins s σ H D I (w D σ H q)⟩

section
variable {Z : Zt} {Wx : Wish} {σ : L2.St} {ι ι1 : List Addr} {H H1 : Hp} {sw : Sw} {M : Mem}
theorem eOut.shift {r : Out Wv} {Q : VK} (e : Ext ι ι1 H H1) (h : eOut Z Wx σ ι H r Q) : eOut Z Wx σ ι1 H1 r Q := by
  cases r with
  | ok w M' => exact fun v H' ι' x R q => h v H' ι' (e.trans x) R q
  | exc c M' => exact fun H' ι' x R => h H' ι' (e.trans x) R
  | bad => exact h
theorem aOut.shift {r : Out (List Wv)} {Q : List V → Hp → Prop} (e : Ext ι ι1 H H1) (h : aOut Z Wx σ ι H r Q) : aOut Z Wx σ ι1 H1 r Q := by
  cases r with
  | ok w M' => exact fun v H' ι' x R q => h v H' ι' (e.trans x) R q
  | exc c M' => exact fun H' ι' x R => h H' ι' (e.trans x) R
  | bad => exact h
theorem bOut.shift {r : Out Bool} {Q : Bool → Hp → Prop} (e : Ext ι ι1 H H1) (h : bOut Z Wx σ ι H r Q) : bOut Z Wx σ ι1 H1 r Q := by
  cases r with
  | ok w M' => exact fun H' ι' x R => h H' ι' (e.trans x) R
  | exc c M' => exact fun H' ι' x R => h H' ι' (e.trans x) R
  | bad => exact h
theorem sOut.shift {r : Out (Fl × Sw)} {D : Ends} (e : Ext ι ι1 H H1) (h : sOut Z Wx ι H r D) : sOut Z Wx ι1 H1 r D := by
  cases r with
  | ok w M' => exact fun σ' H' ι' x R q => h σ' H' ι' (e.trans x) R q
  | exc c M' => exact fun σ' H' ι' x R => h σ' H' ι' (e.trans x) R
  | bad => exact h

/-- THE STEP: an expression, then what hangs on its value -/
theorem tE.run {α : Type} {f : Fv} {g : Wv → Mem → Out α} {R : VK} (s : SR Z ι H sw σ) (R0 : RM Z ι M H)
    (hx : ∀ c M', f sw M = .exc c M' → ∀ H' ι', Ext ι ι' H H' → RM Z ι' M' H' → Wx c σ H') (hb : f sw M ≠ .bad)
    (hk : ∀ w M1, f sw M = .ok w M1 → ∀ v H1 ι1, Ext ι ι1 H H1 → RM Z ι1 M1 H1 → WR Z ι1 H1 w v → SR Z ι1 H1 sw σ → R v H1) : tE Z Wx f σ H R := by
  refine ⟨ι, sw, M, s, R0, ?_⟩
  cases e : f sw M with
  | ok w M1 => exact fun v H' ι' x R q => hk w M1 e v H' ι' x R q (s.mono x.le)
  | exc c M1 => exact fun H' ι' x R => hx c M1 e H' ι' x R
  | bad => exact absurd e hb
theorem tE.seqE {f : Fv} {g : Wv → Mem → Out Wv} {Q R : VK} (s : SR Z ι H sw σ) (R0 : RM Z ι M H) (h : eOut Z Wx σ ι H ((f sw M).bind g) Q)
    (hk : ∀ w M1 v H1 ι1, Ext ι ι1 H H1 → RM Z ι1 M1 H1 → WR Z ι1 H1 w v → SR Z ι1 H1 sw σ → eOut Z Wx σ ι1 H1 (g w M1) Q → R v H1) : tE Z Wx f σ H R := by
  refine ⟨ι, sw, M, s, R0, ?_⟩
  cases e : f sw M with
  | ok w M1 =>
    rw [e] at h
    exact fun v H' ι' x R q => hk w M1 v H' ι' x R q (s.mono x.le) (h.shift x)
  | exc c M1 => rw [e] at h; exact h
  | bad => rw [e] at h; exact h
theorem tE.seqA {f : Fv} {g : Wv → Mem → Out (List Wv)} {Q : List V → Hp → Prop} {R : VK} (s : SR Z ι H sw σ) (R0 : RM Z ι M H) (h : aOut Z Wx σ ι H ((f sw M).bind g) Q)
    (hk : ∀ w M1 v H1 ι1, Ext ι ι1 H H1 → RM Z ι1 M1 H1 → WR Z ι1 H1 w v → SR Z ι1 H1 sw σ → aOut Z Wx σ ι1 H1 (g w M1) Q → R v H1) : tE Z Wx f σ H R := by
  refine ⟨ι, sw, M, s, R0, ?_⟩
  cases e : f sw M with
  | ok w M1 =>
    rw [e] at h
    exact fun v H' ι' x R q => hk w M1 v H' ι' x R q (s.mono x.le) (h.shift x)
  | exc c M1 => rw [e] at h; exact h
  | bad => rw [e] at h; exact h
theorem tE.seqB {f : Fv} {g : Wv → Mem → Out Bool} {Q : Bool → Hp → Prop} {R : VK} (s : SR Z ι H sw σ) (R0 : RM Z ι M H) (h : bOut Z Wx σ ι H ((f sw M).bind g) Q)
    (hk : ∀ w M1 v H1 ι1, Ext ι ι1 H H1 → RM Z ι1 M1 H1 → WR Z ι1 H1 w v → SR Z ι1 H1 sw σ → bOut Z Wx σ ι1 H1 (g w M1) Q → R v H1) : tE Z Wx f σ H R := by
  refine ⟨ι, sw, M, s, R0, ?_⟩
  cases e : f sw M with
  | ok w M1 =>
    rw [e] at h
    exact fun v H' ι' x R q => hk w M1 v H' ι' x R q (s.mono x.le) (h.shift x)
  | exc c M1 => rw [e] at h; exact h
  | bad => rw [e] at h; exact h
theorem tE.seqS {f : Fv} {g : Wv → Mem → Out (Fl × Sw)} {D : Ends} {R : VK} (s : SR Z ι H sw σ) (R0 : RM Z ι M H) (h : sOut Z Wx ι H ((f sw M).bind g) D)
    (hk : ∀ w M1 v H1 ι1, Ext ι ι1 H H1 → RM Z ι1 M1 H1 → WR Z ι1 H1 w v → SR Z ι1 H1 sw σ → sOut Z Wx ι1 H1 (g w M1) D → R v H1) : tE Z Wx f σ H R := by
  refine ⟨ι, sw, M, s, R0, ?_⟩
  cases e : f sw M with
  | ok w M1 =>
    rw [e] at h
    exact fun v H' ι' x R q => hk w M1 v H' ι' x R q (s.mono x.le) (h.shift x)
  | exc c M1 =>
    rw [e] at h
    exact fun H' ι' x R => h σ H' ι' x R
  | bad => rw [e] at h; exact h
theorem tA.seqE {f : Sw → Mem → Out (List Wv)} {g : List Wv → Mem → Out Wv} {Q : VK} {R : List V → Hp → Prop} (s : SR Z ι H sw σ) (R0 : RM Z ι M H) (h : eOut Z Wx σ ι H ((f sw M).bind g) Q)
    (hk : ∀ w M1 v H1 ι1, Ext ι ι1 H H1 → RM Z ι1 M1 H1 → WsR Z ι1 H1 w v → SR Z ι1 H1 sw σ → eOut Z Wx σ ι1 H1 (g w M1) Q → R v H1) : tA Z Wx f σ H R := by
  refine ⟨ι, sw, M, s, R0, ?_⟩
  cases e : f sw M with
  | ok w M1 =>
    rw [e] at h
    exact fun v H' ι' x R q => hk w M1 v H' ι' x R q (s.mono x.le) (h.shift x)
  | exc c M1 => rw [e] at h; exact h
  | bad => rw [e] at h; exact h
theorem tA.seqA {f : Sw → Mem → Out (List Wv)} {g : List Wv → Mem → Out (List Wv)} {Q : List V → Hp → Prop} {R : List V → Hp → Prop} (s : SR Z ι H sw σ) (R0 : RM Z ι M H) (h : aOut Z Wx σ ι H ((f sw M).bind g) Q)
    (hk : ∀ w M1 v H1 ι1, Ext ι ι1 H H1 → RM Z ι1 M1 H1 → WsR Z ι1 H1 w v → SR Z ι1 H1 sw σ → aOut Z Wx σ ι1 H1 (g w M1) Q → R v H1) : tA Z Wx f σ H R := by
  refine ⟨ι, sw, M, s, R0, ?_⟩
  cases e : f sw M with
  | ok w M1 =>
    rw [e] at h
    exact fun v H' ι' x R q => hk w M1 v H' ι' x R q (s.mono x.le) (h.shift x)
  | exc c M1 => rw [e] at h; exact h
  | bad => rw [e] at h; exact h
theorem tT.seqE {f : Sw → Mem → Out Bool} {g : Bool → Mem → Out Wv} {Q : VK} {R : Bool → Hp → Prop} (s : SR Z ι H sw σ) (R0 : RM Z ι M H) (h : eOut Z Wx σ ι H ((f sw M).bind g) Q)
    (hk : ∀ b M1 H1 ι1, Ext ι ι1 H H1 → RM Z ι1 M1 H1 → SR Z ι1 H1 sw σ → eOut Z Wx σ ι1 H1 (g b M1) Q → R b H1) : tT Z Wx f σ H R := by
  refine ⟨ι, sw, M, s, R0, ?_⟩
  cases e : f sw M with
  | ok w M1 =>
    rw [e] at h
    exact fun H' ι' x R => hk w M1 H' ι' x R (s.mono x.le) (h.shift x)
  | exc c M1 => rw [e] at h; exact h
  | bad => rw [e] at h; exact h
theorem tT.seqB {f : Sw → Mem → Out Bool} {g : Bool → Mem → Out Bool} {Q : Bool → Hp → Prop} {R : Bool → Hp → Prop} (s : SR Z ι H sw σ) (R0 : RM Z ι M H) (h : bOut Z Wx σ ι H ((f sw M).bind g) Q)
    (hk : ∀ b M1 H1 ι1, Ext ι ι1 H H1 → RM Z ι1 M1 H1 → SR Z ι1 H1 sw σ → bOut Z Wx σ ι1 H1 (g b M1) Q → R b H1) : tT Z Wx f σ H R := by
  refine ⟨ι, sw, M, s, R0, ?_⟩
  cases e : f sw M with
  | ok w M1 =>
    rw [e] at h
    exact fun H' ι' x R => hk w M1 H' ι' x R (s.mono x.le) (h.shift x)
  | exc c M1 => rw [e] at h; exact h
  | bad => rw [e] at h; exact h
theorem tT.seqS {f : Sw → Mem → Out Bool} {g : Bool → Mem → Out (Fl × Sw)} {D : Ends} {R : Bool → Hp → Prop} (s : SR Z ι H sw σ) (R0 : RM Z ι M H) (h : sOut Z Wx ι H ((f sw M).bind g) D)
    (hk : ∀ b M1 H1 ι1, Ext ι ι1 H H1 → RM Z ι1 M1 H1 → SR Z ι1 H1 sw σ → sOut Z Wx ι1 H1 (g b M1) D → R b H1) : tT Z Wx f σ H R := by
  refine ⟨ι, sw, M, s, R0, ?_⟩
  cases e : f sw M with
  | ok w M1 =>
    rw [e] at h
    exact fun H' ι' x R => hk w M1 H' ι' x R (s.mono x.le) (h.shift x)
  | exc c M1 =>
    rw [e] at h
    exact fun H' ι' x R => h σ H' ι' x R
  | bad => rw [e] at h; exact h
/-- a value at hand -/
theorem eOut.val {w : Wv} {v : V} {Q : VK} (h : eOut Z Wx σ ι H (.ok w M) Q) (R : RM Z ι M H) (q : WR Z ι H w v) : Q v H := h v H ι (Ext.refl ι H) R q
theorem eOut.chk {b : Bool} {r : Out Wv} {Q : VK} (h : eOut Z Wx σ ι H (.chk b r) Q) : b = true ∧ eOut Z Wx σ ι H r Q := by
  cases b with
  | true => exact ⟨rfl, h⟩
  | false => exact False.elim h
theorem eOut.ofO {o : Option Wv} {Q : VK} (h : eOut Z Wx σ ι H (.ofO o M) Q) : ∃ w, o = some w ∧ eOut Z Wx σ ι H (.ok w M) Q := by
  cases o with
  | some w => exact ⟨w, rfl, h⟩
  | none => exact False.elim h
theorem eOut.ofOb {α : Type} {o : Option α} {g : α → Mem → Out Wv} {Q : VK} (h : eOut Z Wx σ ι H ((Out.ofO o M).bind g) Q) : ∃ w, o = some w ∧ eOut Z Wx σ ι H (g w M) Q := by
  cases o with
  | some w => exact ⟨w, rfl, h⟩
  | none => exact False.elim h
end

/-! ### primitives: what they give of told values -/
def rOut (Z : Zt) (ι : List Addr) (H : Hp) (r : Out Wv) (Q : VK) : Prop := match r with
  | .ok w M => ∀ v H' ι', Ext ι ι' H H' → RM Z ι' M H' → WR Z ι' H' w v → Q v H'
  | _ => False
/-- an end that is no refusal -/
def Prim {α : Type} (r : Out α) : Prop := ∀ c M, r ≠ .exc c M
theorem Prim.out {Z : Zt} {Wx : Wish} {σ : L2.St} {ι : List Addr} {H : Hp} {r : Out Wv} {Q : VK} (p : Prim r) (h : eOut Z Wx σ ι H r Q) : rOut Z ι H r Q := by
  cases r with
  | ok w M => exact h
  | exc c M => exact absurd rfl (p c M)
  | bad => exact h
theorem Prim.chk {α : Type} {b : Bool} {r : Out α} (p : Prim r) : Prim (.chk b r) := by
  cases b with
  | true => exact p
  | false => intro c M e; cases e
theorem Prim.ofO {α : Type} {o : Option α} {M : Mem} : Prim (Out.ofO o M) := by
  cases o <;> (intro c M e; cases e)
theorem Prim.ok {α : Type} {a : α} {M : Mem} : Prim (Out.ok a M) := fun c M e => by cases e
theorem Prim.bad {α : Type} : Prim (Out.bad : Out α) := fun c M e => by cases e
theorem Prim.bind {α β : Type} {r : Out α} {g : α → Mem → Out β} (p : Prim r) (q : ∀ a M, Prim (g a M)) : Prim (r.bind g) := by
  cases r with
  | ok a M => exact q a M
  | exc c M => exact absurd rfl (p c M)
  | bad => exact Prim.bad
def r2 (Z : Zt) (F : Wv → Wv → Mem → Out Wv) : R2 := fun x y H Q => ∃ ι M a b, RM Z ι M H ∧ WR Z ι H a x ∧ WR Z ι H b y ∧ rOut Z ι H (F a b M) Q
def r1 (Z : Zt) (F : Wv → Mem → Out Wv) : V → Hp → VK → Prop := fun x H Q => ∃ ι M a, RM Z ι M H ∧ WR Z ι H a x ∧ rOut Z ι H (F a M) Q
def rN (Z : Zt) (F : List Wv → Mem → Out Wv) : List V → Hp → VK → Prop := fun xs H Q => ∃ ι M ws, RM Z ι M H ∧ WsR Z ι H ws xs ∧ rOut Z ι H (F ws M) Q
section
variable {Z : Zt} {ι : List Addr} {H : Hp} {M : Mem}
theorem rOut.chk {b : Bool} {r : Out Wv} {Q : VK} (h : rOut Z ι H (.chk b r) Q) : b = true ∧ rOut Z ι H r Q := by
  cases b with
  | true => exact ⟨rfl, h⟩
  | false => exact False.elim h
theorem rOut.ofO {o : Option Wv} {Q : VK} (h : rOut Z ι H (.ofO o M) Q) : ∃ w, o = some w ∧ rOut Z ι H (.ok w M) Q := by
  cases o with
  | some w => exact ⟨w, rfl, h⟩
  | none => exact False.elim h
theorem rOut.ofOb {α : Type} {o : Option α} {g : α → Mem → Out Wv} {Q : VK} (h : rOut Z ι H ((Out.ofO o M).bind g) Q) : ∃ w, o = some w ∧ rOut Z ι H (g w M) Q := by
  cases o with
  | some w => exact ⟨w, rfl, h⟩
  | none => exact False.elim h
theorem rOut.val {w : Wv} {v : V} {Q : VK} (h : rOut Z ι H (.ok w M) Q) (R : RM Z ι M H) (q : WR Z ι H w v) : Q v H := h v H ι (Ext.refl ι H) R q
/-- a new list -/
theorem rOut.lst {ws : List Wv} {vs : List V} {p : Addr} {Q : VK} (h : rOut Z ι H (.ok (.ref M.length) (M ++ [.lst ws])) Q) (R : RM Z ι M H) (q : WsR Z ι H ws vs) (hp : H p = none) : Q (.ref p) (upd H p (.lst vs)) := by
  have ex := Ext.alloc (ho := .lst vs) ι hp
  exact h (.ref p) _ (ι ++ [p]) ex (R.alloc hp ⟨vs, upd_same, q.mono ex.le⟩) (.ref (snoc_ix R p))
/-- a new tuple -/
theorem rOut.tup {ws : List Wv} {vs : List V} {p : Addr} {Q : VK} (h : rOut Z ι H (.ok (.tup ws) M) Q) (R : RM Z ι M H) (q : WsR Z ι H ws vs) (hp : H p = none) : Q (.ref p) (upd H p (.tup vs)) := by
  have ex := Ext.fresh (ho := .tup vs) ι hp
  exact h (.ref p) _ ι ex (R.fresh hp) (.tup (SqT.of upd_same) (q.mono ex.le))
end
section
variable {Z : Zt} {Wx : Wish} {X : Cx} {a b : Expr} {f g : Fv} {pos : Pos}
/-- two operands and a primitive -/
theorem se_bin {op : Operator} {F : Wv → Wv → Mem → Out Wv} (hp : ∀ x y M, Prim (F x y M)) (ho : OpR X (binaryOp op) (r2 Z F)) (ha : PE X a (tE Z Wx f)) (hb : PE X b (tE Z Wx g)) :
    PE X (.BinOp a op b pos) (tE Z Wx fun sw M => (f sw M).bind fun x M => (g sw M).bind fun y M => F x y M) :=
  (pe_op ho ha hb).weak fun σ H Q ⟨ι, sw, M, s, R, h⟩ => tE.seqE s R h fun x M1 v H1 ι1 e1 R1 q1 s1 h1 => tE.seqE s1 R1 h1 fun y M2 u H2 ι2 e2 R2 q2 s2 h2 => ⟨ι2, M2, x, y, R2, q1.mono e2.le, q2, (hp x y M2).out h2⟩
theorem se_cmp {op : CmpOp} {F : Wv → Wv → Mem → Out Wv} (hp : ∀ x y M, Prim (F x y M)) (ho : OpR X (compareOp op) (r2 Z F)) (ha : PE X a (tE Z Wx f)) (hb : PE X b (tE Z Wx g)) (hm : behindInMarks op b = false) :
    PE X (.Compare a [op] [b] pos) (tE Z Wx fun sw M => (f sw M).bind fun x M => (g sw M).bind fun y M => F x y M) :=
  (pe_cmpR ho ha hb hm).weak fun σ H Q ⟨ι, sw, M, s, R, h⟩ => tE.seqE s R h fun x M1 v H1 ι1 e1 R1 q1 s1 h1 => tE.seqE s1 R1 h1 fun y M2 u H2 ι2 e2 R2 q2 s2 h2 => ⟨ι2, M2, x, y, R2, q1.mono e2.le, q2, (hp x y M2).out h2⟩
theorem se_ix {F : Wv → Wv → Mem → Out Wv} (hp : ∀ x y M, Prim (F x y M)) (ho : IxR X (r2 Z F)) (ha : PE X a (tE Z Wx f)) (hb : PE X b (tE Z Wx g)) (hs : PlainIx b) :
    PE X (.Subscript a b pos) (tE Z Wx fun sw M => (f sw M).bind fun x M => (g sw M).bind fun y M => F x y M) :=
  (pe_ix ho ha hb hs).weak fun σ H Q ⟨ι, sw, M, s, R, h⟩ => tE.seqE s R h fun x M1 v H1 ι1 e1 R1 q1 s1 h1 => tE.seqE s1 R1 h1 fun y M2 u H2 ι2 e2 R2 q2 s2 h2 => ⟨ι2, M2, x, y, R2, q1.mono e2.le, q2, (hp x y M2).out h2⟩
theorem se_un {op : UnaryOp} {F : Wv → Mem → Out Wv} (hp : ∀ x M, Prim (F x M)) (ho : UnR X (unaryOp op) (r1 Z F)) (ha : PE X a (tE Z Wx f)) : PE X (.UnaryOp op a pos) (tE Z Wx fun sw M => (f sw M).bind fun x M => F x M) :=
  (pe_un ho ha).weak fun σ H Q ⟨ι, sw, M, s, R, h⟩ => tE.seqE s R h fun x M1 v H1 ι1 e1 R1 q1 s1 h1 => ⟨ι1, M1, x, R1, q1, (hp x M1).out h1⟩
/-! ### names, constants -/
theorem se_var {i : Nat} {x : Str} (hN : X.N[i]? = some x) (hv : Vis X.env.scope x) (hd : (x == ("__debug__" : Str)) = false) (hcd : (x == ("__classdict__" : Str)) = false) : PE X (.Name x pos) (tE Z Wx fun sw M => .ofO (getV i sw) M) :=
  (pe_var hN hv hd hcd).weak fun σ H Q ⟨ι, sw, M, s, R, h⟩ => by
    obtain ⟨w, e, h⟩ := h.ofO
    unfold getV at e
    cases q : sw[i]? with
    | none => rw [q] at e; cases e
    | some o =>
      rw [q] at e
      cases o with
      | none => cases e
      | some u =>
        cases e
        obtain ⟨v, e1, e2⟩ := s.get i w q
        exact ⟨v, e1, h.val R e2⟩
theorem se_con {e : Expr} {w : Wv} {v : V} (he : PE X e (tC v)) (r : ∀ ι H, WR Z ι H w v) : PE X e (tE Z Wx fun _ M => .ok w M) :=
  he.weak fun σ H Q ⟨ι, sw, M, s, R, h⟩ => h.val R (r ι H)
/-! ### argument lists -/
theorem sa_nil : PA X [] (tA Z Wx fun _ M => .ok [] M) := pa_nil.weak fun σ H Q ⟨ι, sw, M, s, R, h⟩ => h [] H ι (Ext.refl ι H) R .nil
theorem sa_cons {es : List Expr} {g : Sw → Mem → Out (List Wv)} (ha : PE X a (tE Z Wx f)) (hr : PA X es (tA Z Wx g)) (hs : starEach (a :: es) X.env = (false, eval a X.env) :: starEach es X.env) :
    PA X (a :: es) (tA Z Wx fun sw M => (f sw M).bind fun w M => (g sw M).bind fun ws M => .ok (w :: ws) M) :=
  (pa_cons ha hr hs).weak fun σ H Q ⟨ι, sw, M, s, R, h⟩ => tE.seqA s R h fun x M1 v H1 ι1 e1 R1 q1 s1 h1 => tA.seqA s1 R1 h1 fun y M2 u H2 ι2 e2 R2 q2 s2 h2 => h2 (v :: u) H2 ι2 (Ext.refl ι2 H2) R2 (.cons (q1.mono e2.le) q2)
theorem se_tup {es : List Expr} {k : Nat} {g : Sw → Mem → Out (List Wv)} (ha : PA X es (tA Z Wx g)) : PE X (.Tuple es k pos) (tE Z Wx fun sw M => (g sw M).bind fun ws M => .chk (lenOk ws.length) (.ok (.tup ws) M)) :=
  (pe_tup ha).weak fun σ H Q ⟨ι, sw, M, s, R, h⟩ => tA.seqE s R h fun ws M1 vs H1 ι1 e1 R1 q1 s1 h1 => by
    obtain ⟨c, h2⟩ := h1.chk
    have hz : vs.length ≤ sizeLine := by rw [← q1.length]; exact of_decide_eq_true c
    exact ⟨hz, fun p hp => rOut.tup (M := M1) (Z := Z) (ι := ι1) h2 R1 q1 hp⟩
theorem se_lst {es : List Expr} {g : Sw → Mem → Out (List Wv)} (ha : PA X es (tA Z Wx g)) : PE X (.List es pos) (tE Z Wx fun sw M => (g sw M).bind fun ws M => .chk (lenOk ws.length) (.ok (.ref M.length) (M ++ [.lst ws]))) :=
  (pe_lst ha).weak fun σ H Q ⟨ι, sw, M, s, R, h⟩ => tA.seqE s R h fun ws M1 vs H1 ι1 e1 R1 q1 s1 h1 => by
    obtain ⟨c, h2⟩ := h1.chk
    have hz : vs.length ≤ sizeLine := by rw [← q1.length]; exact of_decide_eq_true c
    exact ⟨hz, fun p hp => rOut.lst (M := M1) (Z := Z) (ι := ι1) h2 R1 q1 hp⟩
/-! ### built-in functions and types -/
theorem se_callB {id : String} {x : Str} {p : Pos} {e : Expr} {es : List Expr} {F : List Wv → Mem → Out Wv} {g : Sw → Mem → Out (List Wv)} (hp : ∀ ws M, Prim (F ws M)) (hc : CallR X (.builtin id) (rN Z F)) (hg : Gl X x) (hm : X.mg x = none) (hv : bootBuiltins x = some (.builtin id))
    (ha : PA X (e :: es) (tA Z Wx g)) (hn : x ≠ "__name__") (hdb : (x == ("__debug__" : Str)) = false) (he : starEach (e :: es) X.env = (false, eval e X.env) :: starEach es X.env) (hpl : (backTo pos (starEach es X.env)).any (·.1) = false) :
    PE X (.Call (.Name x p) (e :: es) [] pos) (tE Z Wx fun sw M => (g sw M).bind fun ws M => F ws M) :=
  (pe_callB hc hg hm hv ha hn hdb he hpl).weak fun σ H Q ⟨ι, sw, M, s, R, h⟩ => tA.seqE s R h fun ws M1 vs H1 ι1 e1 R1 q1 s1 h1 => ⟨ι1, M1, ws, R1, q1, (hp ws M1).out h1⟩
theorem se_callTy {T : String} {x : Str} {p : Pos} {e : Expr} {es : List Expr} {F : List Wv → Mem → Out Wv} {g : Sw → Mem → Out (List Wv)} (hp : ∀ ws M, Prim (F ws M)) (hc : CallR X (.type T) (rN Z F)) (hg : Gl X x) (hm : X.mg x = none) (hv : bootBuiltins x = some (.type T))
    (ha : PA X (e :: es) (tA Z Wx g)) (hn : x ≠ "__name__") (hdb : (x == ("__debug__" : Str)) = false) (he : starEach (e :: es) X.env = (false, eval e X.env) :: starEach es X.env) (hpl : (backTo pos (starEach es X.env)).any (·.1) = false) :
    PE X (.Call (.Name x p) (e :: es) [] pos) (tE Z Wx fun sw M => (g sw M).bind fun ws M => F ws M) :=
  (pe_callTy hc hg hm hv ha hn hdb he hpl).weak fun σ H Q ⟨ι, sw, M, s, R, h⟩ => tA.seqE s R h fun ws M1 vs H1 ι1 e1 R1 q1 s1 h1 => ⟨ι1, M1, ws, R1, q1, (hp ws M1).out h1⟩
end
end MP
end
section
set_option Elab.async false
set_option linter.all false
set_option maxRecDepth 100000
/-! MP4: the primitives over the hand layer: operators, comparisons, truth, subscripts. -/
namespace MP
open PySem PySem.Spec PyProof.Rows L2

structure XOk (X : Cx) (Z : Zt) : Prop where
  K : X.K = Z.K
  P : X.prog = Z.P
  w : X.w = Z.w
  calm : X.calm = true
  un : X.A.units + 200 < cLine
  gd : X.A.guards = some []
section
variable {Z : Zt} {X : Cx} {G : Pg}
theorem prim_bin (o : Op) (x y : Wv) (M : Mem) : Prim (binW o x y M) := by
  unfold binW
  split <;> first
    | exact Prim.ok
    | exact Prim.ok.chk
    | exact Prim.bad
    | (split <;> first | exact Prim.ok.chk | exact Prim.bad)
theorem op_addW (k : XOk X Z) : OpR X (binaryOp .Add) (r2 Z (binW .add)) := by
  intro pins s σ H x y v u Q I rx ry h
  obtain ⟨ι, M, a, b, R, wa, wb, h⟩ := h
  cases wa with
  | int i =>
    cases wb with
    | int j => exact op_add pins s σ H _ _ v u Q I rx ry ⟨i, j, rfl, rfl, h.val R (.int _)⟩
    | _ => exact False.elim h
  | str i =>
    cases wb with
    | str j =>
      obtain ⟨c, h⟩ := h.chk
      exact op_add_str pins s σ H _ _ v u Q I rx ry ⟨i, j, rfl, rfl, of_decide_eq_true c, h.val R (.str _)⟩
    | _ => exact False.elim h
  | tup ha ta =>
    cases wb with
    | tup hb tb =>
      obtain ⟨c, h⟩ := h.chk
      have hz := of_decide_eq_true c
      rw [ta.length, tb.length] at hz
      refine op_catA pins s σ H _ _ v u Q I rx ry ⟨_, _, _, _, rfl, rfl, by rw [k.K]; exact ha, by rw [k.K]; exact hb, hz, fun e => ?_, fun _ e => ?_, fun _ _ p hp => h.tup R (ta.append tb) hp⟩
      · subst e
        cases ta
        exact h.val R (.tup hb tb)
      · subst e
        cases tb
        exact h.val R (.tup ha (by rw [List.append_nil]; exact ta))
    | _ => exact False.elim h
  | ref ea =>
    rename_i la aa
    cases wb with
    | ref eb =>
      rename_i lb ab
      have h2 : rOut Z ι H (match M[la]?, M[lb]? with
        | some (.lst xs), some (.lst ys) => .chk (lenOk (xs.length + ys.length)) (.ok (.ref M.length) (M ++ [.lst (xs ++ ys)]))
        | _, _ => .bad) Q := h
      split at h2
      · rename_i xs ys ex ey
        obtain ⟨c, h3⟩ := h2.chk
        obtain ⟨vs, e1, q1⟩ := R.ob _ _ _ ex ea
        obtain ⟨us, e2, q2⟩ := R.ob _ _ _ ey eb
        have hz := of_decide_eq_true c
        rw [q1.length, q2.length] at hz
        exact op_cat pins s σ H _ _ v u Q I rx ry ⟨_, _, vs, us, rfl, rfl, e1, e2, hz, fun p hp => h3.lst R (q1.append q2) hp⟩
      · exact False.elim h2
    | _ => exact False.elim h
  | _ => exact False.elim h
theorem op_subW : OpR X (binaryOp .Sub) (r2 Z (binW .sub)) := by
  intro pins s σ H x y v u Q I rx ry h
  obtain ⟨ι, M, a, b, R, wa, wb, h⟩ := h
  cases wa with
  | int i =>
    cases wb with
    | int j => exact op_sub pins s σ H _ _ v u Q I rx ry ⟨i, j, rfl, rfl, h.val R (.int _)⟩
    | _ => exact False.elim h
  | _ => exact False.elim h
theorem mulOk_c {i j : Int} (h : mulOk i j = true) : CMul i j := by
  unfold mulOk at h
  rw [Bool.or_eq_true, decide_eq_true_eq, decide_eq_true_eq] at h
  rcases h with h | h
  · exact .inl ⟨by omega, by omega⟩
  · exact .inr ⟨by omega, by omega⟩
theorem op_mulW' : OpR X (binaryOp .Mult) (r2 Z (binW .mul)) := by
  intro pins s σ H x y v u Q I rx ry h
  obtain ⟨ι, M, a, b, R, wa, wb, h⟩ := h
  cases wa with
  | int i =>
    cases wb with
    | int j =>
      obtain ⟨c, h⟩ := h.chk
      exact op_mul pins s σ H _ _ v u Q I rx ry ⟨i, j, rfl, rfl, mulOk_c c, h.val R (.int _)⟩
    | _ => exact False.elim h
  | ref ea =>
    rename_i la aa
    cases wb with
    | int n =>
      have h2 : rOut Z ι H (match M[la]? with
        | some (.lst xs) => .chk (decide (0 ≤ n) && decide (n ≤ 1000) && lenOk (xs.length * n.toNat)) (.ok (.ref M.length) (M ++ [.lst (List.replicate n.toNat xs).flatten]))
        | _ => .bad) Q := h
      split at h2
      · rename_i xs ex
        obtain ⟨c, h3⟩ := h2.chk
        rw [Bool.and_eq_true, Bool.and_eq_true] at c
        obtain ⟨⟨c1, c2⟩, c3⟩ := c
        have c1 := of_decide_eq_true c1
        have c2 := of_decide_eq_true c2
        obtain ⟨vs, e1, q1⟩ := R.ob _ _ _ ex ea
        have hz : vs.length * n.toNat ≤ sizeLine := by
          have := of_decide_eq_true c3
          rw [q1.length] at this
          exact this
        refine op_rep pins s σ H _ _ v u Q I rx ry ⟨_, n, vs, rfl, rfl, e1, by omega, by omega, hz, fun p hp => h3.lst R ?_ hp⟩
        generalize n.toNat = m
        clear hz c3 c1 c2 h3 h2 h
        induction m with
        | zero => exact .nil
        | succ m ih =>
          rw [List.replicate_succ, List.replicate_succ, List.flatten_cons, List.flatten_cons]
          exact q1.append ih
      · exact False.elim h2
    | _ => exact False.elim h
  | _ => exact False.elim h
theorem op_fdivW' : OpR X (binaryOp .FloorDiv) (r2 Z (binW .fdiv)) := by
  intro pins s σ H x y v u Q I rx ry h
  obtain ⟨ι, M, a, b, R, wa, wb, h⟩ := h
  cases wa with
  | int i =>
    cases wb with
    | int j =>
      obtain ⟨c, h⟩ := h.chk
      rw [Bool.and_eq_true, decide_eq_true_eq, decide_eq_true_eq] at c
      have hj : j.natAbs < 2 ^ 200 := by omega
      exact op_fdivW pins s σ H _ _ v u Q I rx ry ⟨i, j, rfl, rfl, wide_div c.1 hj (by decide) (by decide), h.val R (.int _)⟩
    | _ => exact False.elim h
  | _ => exact False.elim h
theorem op_modW : OpR X (binaryOp .Mod) (r2 Z (binW .mod)) := by
  intro pins s σ H x y v u Q I rx ry h
  obtain ⟨ι, M, a, b, R, wa, wb, h⟩ := h
  cases wa with
  | int i =>
    cases wb with
    | int j =>
      obtain ⟨c, h⟩ := h.chk
      exact op_mod pins s σ H _ _ v u Q I rx ry ⟨i, j, rfl, rfl, of_decide_eq_true c, h.val R (.int _)⟩
    | _ => exact False.elim h
  | _ => exact False.elim h
theorem op_powW : OpR X (binaryOp .Pow) (r2 Z (binW .pow)) := by
  intro pins s σ H x y v u Q I rx ry h
  obtain ⟨ι, M, a, b, R, wa, wb, h⟩ := h
  cases wa with
  | int i =>
    cases wb with
    | int j =>
      obtain ⟨c, h⟩ := h.chk
      rw [Bool.and_eq_true, Bool.and_eq_true, decide_eq_true_eq, decide_eq_true_eq, decide_eq_true_eq] at c
      exact op_pow pins s σ H _ _ v u Q I rx ry ⟨i, j, rfl, rfl, ⟨c.1.1, by omega, by omega⟩, h.val R (.int _)⟩
    | _ => exact False.elim h
  | _ => exact False.elim h
def opOf : Op → Operator
  | .add => .Add
  | .sub => .Sub
  | .mul => .Mult
  | .fdiv => .FloorDiv
  | .mod => .Mod
  | .pow => .Pow
theorem op_binW (k : XOk X Z) (o : Op) : OpR X (binaryOp (opOf o)) (r2 Z (binW o)) := by
  cases o
  · exact op_addW k
  · exact op_subW
  · exact op_mulW'
  · exact op_fdivW'
  · exact op_modW
  · exact op_powW
theorem un_negW : UnR X (unaryOp .USub) (r1 Z fun x M => .ofO ((toI x).map fun i => .int (-i)) M) := by
  intro pins s σ H x v Q I rx h
  obtain ⟨ι, M, a, R, wa, h⟩ := h
  cases wa with
  | int i => exact un_neg pins s σ H _ v Q I rx ⟨i, rfl, h.val R (.int _)⟩
  | _ => exact False.elim h

/-! ### data -/
mutual
theorem toD_dp {ι : List Addr} {H : Hp} {M : Mem} (hS : Z.S = G.S) (R : RM Z ι M H) : ∀ (n : Nat) {w : Wv} {v : V} {d : PyData}, WR Z ι H w v → toD G.S M n w = some d → Dp Z.K H v d
  | _, _, _, _, .non, e => by simp only [toD] at e; cases e; exact .non
  | _, _, _, _, .bl b, e => by simp only [toD] at e; cases e; exact .bl b
  | _, _, _, _, .int i, e => by simp only [toD] at e; cases e; exact .int i
  | _, _, _, _, .str x, e => by simp only [toD] at e; cases e; exact .str x
  | 0, _, _, _, .tup _ _, e => by simp only [toD] at e; cases e
  | n + 1, _, _, _, .tup h t, e => by
    simp only [toD] at e
    obtain ⟨ds, e1, rfl⟩ := Option.map_eq_some_iff.mp e
    exact .tup h (toDs_dp hS R n t e1)
  | 0, _, _, _, .ref _, e => by simp only [toD] at e; cases e
  | n + 1, _, _, _, .ref h, e => by
    simp only [toD] at e
    split at e
    · rename_i ws hw
      obtain ⟨ds, e1, rfl⟩ := Option.map_eq_some_iff.mp e
      obtain ⟨vs, h1, h2⟩ := R.ob _ _ _ hw h
      exact .lst (SqL.of h1) (toDs_dp hS R n h2 e1)
    · cases e
  | _, _, _, _, .scr h, e => by
    simp only [toD] at e
    cases e
    refine .lst h.sq ?_
    rw [← hS]
    exact ints_dp _
theorem toDs_dp {ι : List Addr} {H : Hp} {M : Mem} (hS : Z.S = G.S) (R : RM Z ι M H) : ∀ (n : Nat) {ws : List Wv} {vs : List V} {ds : List PyData}, WsR Z ι H ws vs → toDs G.S M n ws = some ds → DpAll Z.K H vs ds
  | _, _, _, _, .nil, e => by simp only [toDs] at e; cases e; exact .nil
  | n, _, _, _, .cons h t, e => by
    simp only [toDs] at e
    split at e
    · rename_i d ds e1 e2
      cases e
      exact .cons (toD_dp hS R n h e1) (toDs_dp hS R n t e2)
    · cases e
theorem ints_dp {H : Hp} : ∀ ns : List Int, DpAll Z.K H (ns.map V.int) (ns.map PyData.int)
  | [] => .nil
  | n :: ns => .cons (.int n) (ints_dp ns)
end
theorem flat_dp {ι : List Addr} {H : Hp} {w : Wv} {v : V} (r : WR Z ι H w v) (f : flatW w = true) : flatV v = true ∧ ∀ w' v', WR Z ι H w' v' → flatW w' = true → eqV v v' = PyData.eqv (flatD w) (flatD w') := by
  cases r with
  | non =>
    refine ⟨rfl, fun w' v' r' f' => ?_⟩
    cases r' <;> first | rfl | cases f'
  | bl b =>
    refine ⟨rfl, fun w' v' r' f' => ?_⟩
    cases r' <;> first | rfl | cases f'
  | int i =>
    refine ⟨rfl, fun w' v' r' f' => ?_⟩
    cases r' <;> first | rfl | cases f'
  | str x =>
    refine ⟨rfl, fun w' v' r' f' => ?_⟩
    cases r' <;> first | rfl | cases f'
  | _ => cases f
theorem flats_dp {ι : List Addr} {H : Hp} {w : Wv} {v : V} (r : WR Z ι H w v) (f : flatW w = true) : ∀ {ws : List Wv} {vs : List V}, WsR Z ι H ws vs → ws.all flatW = true → vs.all flatV = true ∧ inV v vs = ws.any fun e => PyData.eqv (flatD e) (flatD w)
  | _, _, .nil, _ => ⟨rfl, rfl⟩
  | _, _, .cons h t, g => by
    rw [List.all_cons, Bool.and_eq_true] at g
    obtain ⟨h1, h2⟩ := flats_dp r f t g.2
    obtain ⟨h3, h4⟩ := flat_dp h g.1
    refine ⟨by rw [List.all_cons, h3, h1]; rfl, ?_⟩
    unfold inV at h2 ⊢
    rw [List.any_cons, List.any_cons, h2, h4 _ _ r f]
theorem prim_cmp (c : Cm) (x y : Wv) (M : Mem) : Prim (cmpW G c x y M) := Prim.ofO.bind fun _ _ => Prim.ok
theorem cmp_ok {ι : List Addr} {H : Hp} {M : Mem} {Q : VK} {o : Option Bool} (R : RM Z ι M H) (h : rOut Z ι H ((Out.ofO o M).bind fun b M => .ok (.bl b) M) Q) : ∃ b, o = some b ∧ Q (.bl b) H := by
  obtain ⟨b, e, h⟩ := h.ofOb
  exact ⟨b, e, h.val R (.bl b)⟩
theorem notO_some {o : Option Bool} {b : Bool} (h : notO o = some b) : o = some (!b) := by
  cases o with
  | none => cases h
  | some c => cases h; simp
theorem eqW_dp {ι : List Addr} {H : Hp} {M : Mem} {a b : Wv} {x y : V} {r : Bool} (hS : Z.S = G.S) (R : RM Z ι M H) (wa : WR Z ι H a x) (wb : WR Z ι H b y) (e : eqW G a b M = some r) :
    ∃ d f, Dp Z.K H x d ∧ Dp Z.K H y f ∧ SeqAt.shaped d = true ∧ SeqAt.shaped f = true ∧ PyData.eqv d f = r := by
  unfold eqW at e
  split at e
  · rename_i d f e1 e2
    split at e
    · rename_i c
      rw [Bool.and_eq_true] at c
      cases e
      exact ⟨d, f, toD_dp hS R _ wa e1, toD_dp hS R _ wb e2, c.1, c.2, rfl⟩
    · cases e
  · cases e
theorem op_eqW (k : XOk X Z) (hS : Z.S = G.S) : OpR X (compareOp .Eq) (r2 Z (cmpW G .eq)) := by
  intro pins s σ H x y v u Q I rx ry h
  obtain ⟨ι, M, a, b, R, wa, wb, h⟩ := h
  obtain ⟨r, e, q⟩ := cmp_ok R h
  obtain ⟨d, f, h1, h2, h3, h4, rfl⟩ := eqW_dp hS R wa wb e
  exact op_eqD (by have := k.un; omega) pins s σ H _ _ v u Q I rx ry ⟨d, f, by rw [k.K]; exact h1, by rw [k.K]; exact h2, h3, h4, q⟩
theorem op_neW (k : XOk X Z) (hS : Z.S = G.S) : OpR X (compareOp .NotEq) (r2 Z (cmpW G .ne)) := by
  intro pins s σ H x y v u Q I rx ry h
  obtain ⟨ι, M, a, b, R, wa, wb, h⟩ := h
  obtain ⟨r, e, q⟩ := cmp_ok R h
  obtain ⟨d, f, h1, h2, h3, h4, e2⟩ := eqW_dp hS R wa wb (notO_some e)
  exact op_neD (by have := k.un; omega) pins s σ H _ _ v u Q I rx ry ⟨d, f, by rw [k.K]; exact h1, by rw [k.K]; exact h2, h3, h4, by rw [e2, Bool.not_not]; exact q⟩
theorem ltW_int {a b : Wv} {r : Bool} (e : ltW a b = some r) : ∃ i j, a = .int i ∧ b = .int j ∧ r = decide (i < j) := by
  unfold ltW at e
  split at e
  · cases e; exact ⟨_, _, rfl, rfl, rfl⟩
  · cases e
theorem leW_int {a b : Wv} {r : Bool} (e : leW a b = some r) : ∃ i j, a = .int i ∧ b = .int j ∧ r = decide (i ≤ j) := by
  unfold leW at e
  split at e
  · cases e; exact ⟨_, _, rfl, rfl, rfl⟩
  · cases e
theorem op_ltW : OpR X (compareOp .Lt) (r2 Z (cmpW G .lt)) := by
  intro pins s σ H x y v u Q I rx ry h
  obtain ⟨ι, M, a, b, R, wa, wb, h⟩ := h
  obtain ⟨r, e, q⟩ := cmp_ok R h
  obtain ⟨i, j, rfl, rfl, rfl⟩ := ltW_int e
  cases wa; cases wb
  exact op_lt pins s σ H _ _ v u Q I rx ry ⟨i, j, rfl, rfl, q⟩
theorem op_gtW : OpR X (compareOp .Gt) (r2 Z (cmpW G .gt)) := by
  intro pins s σ H x y v u Q I rx ry h
  obtain ⟨ι, M, a, b, R, wa, wb, h⟩ := h
  obtain ⟨r, e, q⟩ := cmp_ok R h
  obtain ⟨i, j, rfl, rfl, rfl⟩ := ltW_int e
  cases wa; cases wb
  exact op_gt pins s σ H _ _ v u Q I rx ry ⟨j, i, rfl, rfl, q⟩
theorem op_leW : OpR X (compareOp .LtE) (r2 Z (cmpW G .le)) := by
  intro pins s σ H x y v u Q I rx ry h
  obtain ⟨ι, M, a, b, R, wa, wb, h⟩ := h
  obtain ⟨r, e, q⟩ := cmp_ok R h
  obtain ⟨i, j, rfl, rfl, rfl⟩ := leW_int e
  cases wa; cases wb
  exact op_le pins s σ H _ _ v u Q I rx ry ⟨i, j, rfl, rfl, q⟩
theorem op_geW : OpR X (compareOp .GtE) (r2 Z (cmpW G .ge)) := by
  intro pins s σ H x y v u Q I rx ry h
  obtain ⟨ι, M, a, b, R, wa, wb, h⟩ := h
  obtain ⟨r, e, q⟩ := cmp_ok R h
  obtain ⟨i, j, rfl, rfl, rfl⟩ := leW_int e
  cases wa; cases wb
  exact op_ge pins s σ H _ _ v u Q I rx ry ⟨j, i, rfl, rfl, q⟩
theorem non_dec {ι : List Addr} {H : Hp} {a : Wv} {x : V} (wa : WR Z ι H a x) : decide (a = .non) = decide (x = .non) := by
  cases wa <;> simp
theorem op_isW : OpR X (compareOp .Is) (r2 Z (cmpW G .is_)) := by
  intro pins s σ H x y v u Q I rx ry h
  obtain ⟨ι, M, a, b, R, wa, wb, h⟩ := h
  obtain ⟨r, e, q⟩ := cmp_ok R h
  have e : isW a b = some r := e
  unfold isW at e
  cases wb with
  | non =>
    cases e
    exact op_isN pins s σ H _ _ v u Q I rx ry ⟨rfl, by rw [← non_dec wa]; exact q⟩
  | bl b =>
    cases wa with
    | bl c =>
      cases e
      exact op_isBl pins s σ H _ _ v u Q I rx ry ⟨c, b, rfl, rfl, q⟩
    | _ => cases e
  | _ => cases e
theorem op_isnW : OpR X (compareOp .IsNot) (r2 Z (cmpW G .isn)) := by
  intro pins s σ H x y v u Q I rx ry h
  obtain ⟨ι, M, a, b, R, wa, wb, h⟩ := h
  obtain ⟨r, e, q⟩ := cmp_ok R h
  have e : isW a b = some (!r) := notO_some e
  unfold isW at e
  cases wb with
  | non =>
    have e2 : decide (a = .non) = !r := Option.some.inj e
    exact op_notN pins s σ H _ _ v u Q I rx ry ⟨rfl, by rw [← non_dec wa, e2, Bool.not_not]; exact q⟩
  | bl b =>
    cases wa with
    | bl c =>
      have e2 : decide (c = b) = !r := Option.some.inj e
      exact op_notBl pins s σ H _ _ v u Q I rx ry ⟨c, b, rfl, rfl, by rw [e2, Bool.not_not]; exact q⟩
    | _ => cases e
  | _ => cases e
/-! ### truth -/
theorem tru_okW (k : XOk X Z) (hS : Z.S = G.S) : TruR X (fun x H Q => ∃ ι M w b, RM Z ι M H ∧ WR Z ι H w x ∧ truW G w M = some b ∧ Q b H) := by
  intro pins s σ H x v Q I rx h
  obtain ⟨ι, M, w, b, R, wr, e, q⟩ := h
  refine tru_ok pins s σ H x v Q I rx ⟨b, ?_, q⟩
  rw [k.K]
  cases wr with
  | non => cases e; rfl
  | bl c => cases e; rfl
  | int i => cases e; rfl
  | str y =>
    simp only [truW] at e
    split at e
    · rename_i hz
      cases e
      refine ⟨hz, ?_⟩
      cases hq : y.length <;> simp <;> omega
    · cases e
  | tup h t =>
    cases e
    refine .inr (.inl ⟨_, h, ?_⟩)
    cases t <;> rfl
  | ref h =>
    simp only [truW] at e
    split at e
    · rename_i ws hw
      cases e
      obtain ⟨vs, h1, h2⟩ := R.ob _ _ _ hw h
      refine .inl ⟨vs, SqL.of h1, ?_⟩
      cases h2 <;> rfl
    · cases e
  | scr h =>
    cases e
    refine .inl ⟨_, h.sq, ?_⟩
    rw [hS]
    cases G.S <;> rfl
end
end MP
end
section
set_option Elab.async false
set_option linter.all false
set_option maxRecDepth 100000
/-! MP5: dicts. -/
namespace MP
open PySem PySem.Spec PyProof.Rows L2
/-! ### keys that are numbers or texts -/
def keyW : Wv → Key
  | .int i => .inl i
  | .str x => .inr x
  | _ => .inl 0
section
variable {Z : Zt} {ι : List Addr} {H : Hp} {kvs : List (Wv × Wv)} {k v : Wv}
theorem keyA_rel {w : Wv} {x : V} (h : keyA w = true) (r : WR Z ι H w x) : x = kV (keyW w) := by
  cases r <;> first | rfl | cases h
theorem keyW_inj {a b : Wv} (ha : keyA a = true) (hb : keyA b = true) (e : keyW a = keyW b) : a = b := by
  cases a with
  | int i =>
    cases b with
    | int j => rw [Sum.inl.inj (show (Sum.inl i : Key) = Sum.inl j from e)]
    | str y => exact absurd (show (Sum.inl i : Key) = Sum.inr y from e) (by simp)
    | _ => cases hb
  | str x =>
    cases b with
    | int j => exact absurd (show (Sum.inr x : Key) = Sum.inl j from e) (by simp)
    | str y => rw [Sum.inr.inj (show (Sum.inr x : Key) = Sum.inr y from e)]
    | _ => cases hb
  | _ => cases ha
/-- pairs by their keys' values -/
def PvR (Z : Zt) (ι : List Addr) (H : Hp) : List (Wv × Wv) → List (Key × Value) → Prop := Paired fun p q => q.1 = keyW p.1 ∧ keyA p.1 = true ∧ ∃ x, RelV x q.2 ∧ WR Z ι H p.2 x
theorem PvR.get (ka : keyA k = true) : ∀ {kvs : List (Wv × Wv)} {vs : List (Key × Value)}, PvR Z ι H kvs vs → match dget kvs k with
    | some y => ∃ u, valueAt vs (keyW k) = some u ∧ ∃ x, RelV x u ∧ WR Z ι H y x
    | none => valueAt vs (keyW k) = none
  | [], _, .nil => rfl
  | p :: r, q :: vs, .cons h t => by
    have ih := PvR.get ka t
    obtain ⟨h1, h2, x, h3, h4⟩ := h
    unfold dget
    by_cases e : p.1 = k
    · rw [if_pos e]
      refine ⟨q.2, ?_, x, h3, h4⟩
      have : q.1 = keyW k := by rw [h1, e]
      simp [valueAt, this]
    · rw [if_neg e]
      have ne : q.1 ≠ keyW k := fun z => e (keyW_inj h2 ka (by rw [← h1]; exact z))
      have ev : valueAt (q :: vs) (keyW k) = valueAt vs (keyW k) := by simp [valueAt, List.find?_cons, ne]
      rw [ev]
      exact ih
theorem dput_len (kvs : List (Wv × Wv)) (k v : Wv) : (dput kvs k v).length ≤ kvs.length + 1 := by
  induction kvs with
  | nil => simp [dput]
  | cons p r ih =>
    unfold dput
    split
    · simp
    · simp; omega
theorem dput_keys (kvs : List (Wv × Wv)) (k v : Wv) : (dput kvs k v).map (·.1) = if k ∈ kvs.map (·.1) then kvs.map (·.1) else kvs.map (·.1) ++ [k] := by
  induction kvs with
  | nil => simp [dput]
  | cons p r ih =>
    unfold dput
    by_cases e : p.1 = k
    · rw [if_pos e]; simp [e]
    · rw [if_neg e]
      simp only [List.map_cons, ih, List.mem_cons]
      by_cases m : k ∈ r.map (·.1)
      · rw [if_pos m, if_pos (Or.inr m)]
      · rw [if_neg m, if_neg (by rintro (z | z); exact e z.symm; exact m z)]
        simp
theorem dput_nodup (h : (kvs.map (·.1)).Nodup) : ((dput kvs k v).map (·.1)).Nodup := by
  rw [dput_keys]
  split
  · exact h
  · rename_i hn
    rw [List.nodup_append]
    exact ⟨h, by simp, fun x hx y hy => by rw [List.mem_singleton.mp hy]; exact fun e => hn (e ▸ hx)⟩
theorem dput_all {f : Wv → Bool} (h : (kvs.all fun p => f p.1) = true) (hk : f k = true) : ((dput kvs k v).all fun p => f p.1) = true := by
  induction kvs with
  | nil => simp [dput, hk]
  | cons p r ih =>
    rw [List.all_cons, Bool.and_eq_true] at h
    unfold dput
    split
    · rw [List.all_cons, Bool.and_eq_true]; exact h
    · rw [List.all_cons, Bool.and_eq_true]; exact ⟨h.1, ih h.2⟩
theorem PvR.mem_keys (ka : keyA k = true) : ∀ {kvs : List (Wv × Wv)} {vs : List (Key × Value)}, PvR Z ι H kvs vs → ((vs.any fun kv => decide (kv.1 = keyW k)) = (dget kvs k).isSome)
  | [], _, .nil => rfl
  | p :: r, q :: vs, .cons h t => by
    have ih := PvR.mem_keys ka t
    obtain ⟨h1, h2, _⟩ := h
    unfold dget
    rw [List.any_cons]
    by_cases e : p.1 = k
    · have : q.1 = keyW k := by rw [h1, e]
      simp [e, this]
    · have ne : q.1 ≠ keyW k := fun z => e (keyW_inj h2 ka (by rw [← h1]; exact z))
      simp [e, ne, ih]
theorem dput_there : ∀ {kvs : List (Wv × Wv)}, (kvs.map (·.1)).Nodup → (dget kvs k).isSome = true → dput kvs k v = kvs.map fun p => if p.1 = k then (p.1, v) else p
  | [], _, h => by simp [dget] at h
  | p :: r, nd, h => by
    rw [List.map_cons, List.nodup_cons] at nd
    unfold dput
    unfold dget at h
    by_cases e : p.1 = k
    · rw [if_pos e, List.map_cons, if_pos e]
      congr 1
      have : ∀ q ∈ r, q.1 ≠ k := fun q hq z => nd.1 (by rw [e, ← z]; exact List.mem_map.mpr ⟨q, hq, rfl⟩)
      have e2 : r.map (fun p => if p.1 = k then (p.1, v) else p) = r.map id := List.map_congr_left fun q hq => by rw [if_neg (this q hq)]; rfl
      rw [e2, List.map_id]
    · rw [if_neg e, List.map_cons, if_neg e, dput_there nd.2 (by rw [if_neg e] at h; exact h)]
theorem dput_new : ∀ {kvs : List (Wv × Wv)}, (dget kvs k).isSome = false → dput kvs k v = kvs ++ [(k, v)]
  | [], _ => rfl
  | p :: r, h => by
    unfold dput
    unfold dget at h
    by_cases e : p.1 = k
    · rw [if_pos e] at h; cases h
    · rw [if_neg e, dput_new (by rw [if_neg e] at h; exact h)]; rfl
theorem PvR.put (ka : keyA k = true) {vs : List (Key × Value)} {u : Value} {x : V} (nd : (kvs.map (·.1)).Nodup) (r : PvR Z ι H kvs vs) (rx : RelV x u) (wx : WR Z ι H v x) : PvR Z ι H (dput kvs k v) (stored vs (keyW k) u) := by
  unfold stored
  rw [r.mem_keys ka]
  by_cases h : (dget kvs k).isSome = true
  · rw [if_pos h, dput_there nd h]
    clear nd h
    induction r with
    | nil => exact .nil
    | @cons p q ps qs h t ih =>
      rw [List.map_cons, List.map_cons]
      refine .cons ?_ ih
      obtain ⟨h1, h2, h3⟩ := h
      by_cases e : p.1 = k
      · have : q.1 = keyW k := by rw [h1, e]
        rw [if_pos e, if_pos this]
        exact ⟨h1, h2, x, rx, wx⟩
      · have ne : q.1 ≠ keyW k := fun z => e (keyW_inj h2 ka (by rw [← h1]; exact z))
        rw [if_neg e, if_neg ne]
        exact ⟨h1, h2, h3⟩
  · rw [if_neg h, dput_new (by simpa using h)]
    clear nd h
    induction r with
    | nil => exact .cons ⟨rfl, ka, x, rx, wx⟩ .nil
    | cons h t ih => exact .cons h ih
/-! ### keys that are tuples -/
def TvR (Z : Zt) (ι : List Addr) (H : Hp) : List (Wv × Wv) → List (NestedKey × Addr × Value) → Prop := Paired fun p q => q.1 = toNK p.1 ∧ keyT p.1 = true ∧ WR Z ι H p.1 (.ref q.2.1) ∧ ∃ x, RelV x q.2.2 ∧ WR Z ι H p.2 x
mutual
theorem toNK_inj : ∀ (n : Nat) (a b : Wv), keyIn n a = true → keyIn n b = true → toNK a = toNK b → a = b
  | n, .non, b, _, hb, e => by cases b <;> first | rfl | (simp [toNK] at e; done) | (simp [keyIn] at hb; done)
  | n, .int i, b, _, hb, e => by cases b <;> first | (simp [toNK] at e; rw [e]) | (simp [toNK] at e; done)
  | n, .str i, b, _, hb, e => by cases b <;> first | (simp [toNK] at e; rw [e]) | (simp [toNK] at e; done)
  | n + 1, .tup ws, b, ha, hb, e => by
    cases b with
    | tup us =>
      simp only [toNK, NestedKey.tup.injEq] at e
      simp only [keyIn] at ha hb
      rw [toNKs_inj n ws us ha hb e]
    | _ => simp [toNK] at e
  | 0, .tup ws, b, ha, _, _ => by simp [keyIn] at ha
  | n, .bl b, _, ha, _, _ => by simp [keyIn] at ha
  | n, .ref b, _, ha, _, _ => by simp [keyIn] at ha
  | n, .scr, _, ha, _, _ => by simp [keyIn] at ha
theorem toNKs_inj : ∀ (n : Nat) (a b : List Wv), keyTup n a = true → keyTup n b = true → toNKs a = toNKs b → a = b
  | n, [], b, _, _, e => by cases b with
    | nil => rfl
    | cons _ _ => simp [toNKs] at e
  | n, a :: as, b, ha, hb, e => by
    cases b with
    | nil => simp [toNKs] at e
    | cons b bs =>
      simp only [toNKs, List.cons.injEq] at e
      simp only [keyTup, Bool.and_eq_true] at ha hb
      rw [toNK_inj n a b ha.1 hb.1 e.1, toNKs_inj n as bs ha.2 hb.2 e.2]
end
theorem keyT_inj {a b : Wv} (ha : keyT a = true) (hb : keyT b = true) (e : toNK a = toNK b) : a = b := by
  cases a with
  | tup ws =>
    cases b with
    | tup us =>
      simp only [toNK, NestedKey.tup.injEq] at e
      rw [toNKs_inj 7 ws us ha hb e]
    | _ => cases hb
  | _ => cases ha
theorem TvR.get (ka : keyT k = true) : ∀ {kvs : List (Wv × Wv)} {xs : List (NestedKey × Addr × Value)}, TvR Z ι H kvs xs → match dget kvs k with
    | some y => ∃ p, atKey xs (toNK k) = some p ∧ ∃ x, RelV x p.2 ∧ WR Z ι H y x
    | none => atKey xs (toNK k) = none
  | [], _, .nil => rfl
  | p :: r, q :: vs, .cons h t => by
    have ih := TvR.get ka t
    obtain ⟨h1, h2, h3, x, h4, h5⟩ := h
    unfold dget
    by_cases e : p.1 = k
    · rw [if_pos e]
      refine ⟨q.2, ?_, x, h4, h5⟩
      have : q.1 = toNK k := by rw [h1, e]
      simp [atKey, this]
    · rw [if_neg e]
      have ne : q.1 ≠ toNK k := fun z => e (keyT_inj h2 ka (by rw [← h1]; exact z))
      have ev : atKey (q :: vs) (toNK k) = atKey vs (toNK k) := by simp [atKey, List.find?_cons, ne]
      rw [ev]
      exact ih
theorem TvR.put (ka : keyT k = true) {xs : List (NestedKey × Addr × Value)} {u : Value} {x : V} {b : Addr} (nd : (kvs.map (·.1)).Nodup) (r : TvR Z ι H kvs xs) (wk : WR Z ι H k (.ref b)) (rx : RelV x u) (wx : WR Z ι H v x) :
    TvR Z ι H (dput kvs k v) (storedH xs (toNK k) b u) := by
  have hm : (atKey xs (toNK k)).isSome = (dget kvs k).isSome := by
    have g := r.get ka
    cases e : dget kvs k with
    | none => rw [e] at g; simp only at g; rw [g]; rfl
    | some y => rw [e] at g; obtain ⟨p, g, _⟩ := g; rw [g]; rfl
  unfold storedH
  rw [hm]
  by_cases h : (dget kvs k).isSome = true
  · rw [if_pos h, dput_there nd h]
    clear nd h hm
    induction r with
    | nil => exact .nil
    | @cons p q ps qs h t ih =>
      rw [List.map_cons, List.map_cons]
      refine .cons ?_ ih
      obtain ⟨h1, h2, h3, h4⟩ := h
      by_cases e : p.1 = k
      · have : q.1 = toNK k := by rw [h1, e]
        rw [if_pos e, putAt, if_pos this]
        exact ⟨h1, h2, h3, x, rx, wx⟩
      · have ne : q.1 ≠ toNK k := fun z => e (keyT_inj h2 ka (by rw [← h1]; exact z))
        rw [if_neg e, putAt, if_neg ne]
        exact ⟨h1, h2, h3, h4⟩
  · rw [if_neg h, dput_new (by simpa using h)]
    clear nd h hm
    induction r with
    | nil => exact .cons ⟨rfl, ka, wk, x, rx, wx⟩ .nil
    | cons h t ih => exact .cons h ih
end

/-! ### over the heap -/
section
variable {Z : Zt} {X : Cx} {pins : List (Addr × Obj)} {σ : L2.St} {ι : List Addr} {H : Hp} {M : Mem} {s : Shared} {a : Addr} {z : Bool} {kvs : List (Wv × Wv)} {k v : Wv}
theorem Inv.dctO {o : Obj} (I : L2.Inv X pins σ H s) (h : H a = some (lkO z a o)) : s.heap.get? a = some o := by
  cases z with
  | true => exact (I.hok a _ h).1
  | false => exact (I.hok a _ h).1
theorem paired_keys {es : List DictEntry} (r : Paired (EnR Z ι H) kvs es) (ka : (kvs.all fun p => keyA p.1) = true) {P : Program} {w : World} (hw : Z.w = w) :
    (∀ e ∈ es, ∃ k, (mixKind P w).is k e.key = true ∧ e.hash = (mixKind P w).hash k) ∧ ∃ vs, Pairs (mixKind P w) es vs ∧ PvR Z ι H kvs vs := by
  induction r with
  | nil => exact ⟨fun _ h => by simp at h, [], .nil, .nil⟩
  | @cons p e ps es h t ih =>
    rw [List.all_cons, Bool.and_eq_true] at ka
    obtain ⟨i1, vs, i2, i3⟩ := ih ka.2
    obtain ⟨kv, vv, h1, h2, h3, h4, h5⟩ := h
    have ek := keyA_rel ka.1 h2
    subst ek
    have his : (mixKind P w).is (keyW p.1) e.key = true := kV_is h1
    refine ⟨fun f hf => ?_, (keyW p.1, e.val) :: vs, .cons his rfl i2, .cons ⟨rfl, ka.1, vv, h3, h4⟩ i3⟩
    rcases List.mem_cons.mp hf with z | z
    · subst z
      refine ⟨keyW p.1, his, ?_⟩
      rw [h5, hw]
      cases q : p.1 with
      | int i => rfl
      | str x => rfl
      | _ => rw [q] at ka; exact absurd ka.1 (by simp [keyA])
    · exact i1 f z
theorem pairs_back {es : List DictEntry} {vs : List (Key × Value)} {P : Program} {w : World} (hw : Z.w = w) (hk : ∀ e ∈ es, ∃ k, (mixKind P w).is k e.key = true ∧ e.hash = (mixKind P w).hash k) (hp : Pairs (mixKind P w) es vs) (r : PvR Z ι H kvs vs) : Paired (EnR Z ι H) kvs es := by
  induction hp generalizing kvs with
  | nil => cases r; exact .nil
  | @cons e q es vs h1 h2 _ ih =>
    cases r with
    | @cons p _ ps _ h t =>
      refine .cons ?_ (ih (fun f hf => hk f (List.mem_cons_of_mem _ hf)) t)
      obtain ⟨e1, ka, x, rx, wx⟩ := h
      obtain ⟨k2, hk2, hh⟩ := hk e List.mem_cons_self
      have ek : k2 = q.1 := (mixKind P w).inj _ _ _ hk2 h1
      subst ek
      rw [e1] at h1 hh
      rw [← h2] at rx
      unfold EnR
      rw [hh, ← hw]
      cases hq : p.1 with
      | int i =>
        rw [hq] at h1
        exact ⟨.int i, x, relV_key (show keyIs (.inl i) e.key = true from h1), .int i, rx, wx, rfl⟩
      | str y =>
        rw [hq] at h1
        exact ⟨.str y, x, relV_key (show keyIs (.inr y) e.key = true from h1), .str y, rx, wx, rfl⟩
      | _ => rw [hq] at ka; exact absurd ka (by simp [keyA])
theorem keysW_nodup {vs : List (Key × Value)} (r : PvR Z ι H kvs vs) (nd : (kvs.map (·.1)).Nodup) : (vs.map (·.1)).Nodup := by
  induction r with
  | nil => exact List.nodup_nil
  | @cons p q ps qs h t ih =>
    rw [List.map_cons, List.nodup_cons] at nd ⊢
    refine ⟨fun hm => nd.1 ?_, ih nd.2⟩
    obtain ⟨q2, hq2, e⟩ := List.mem_map.mp hm
    clear ih nd hm
    induction t with
    | nil => cases hq2
    | @cons p2 q3 ps qs h2 t ih =>
      rcases List.mem_cons.mp hq2 with z | z
      · subst z
        rw [List.map_cons]
        refine List.mem_cons.mpr (.inl ?_)
        exact keyW_inj h.2.1 h2.2.1 (by rw [← h.1, ← h2.1, e])
      · exact List.mem_cons_of_mem _ (ih z)
/-- a dict of numbers or texts, as the library has it -/
theorem DctR.dictOf (I : L2.Inv X pins σ H s) (k : XOk X Z) (D : DctR Z ι H a z kvs) (ka : (kvs.all fun p => keyA p.1) = true) : ∃ vs, s.heap.DictOf (mixKind X.prog X.w) a vs ∧ PvR Z ι H kvs vs ∧ (a == sysModules) = false := by
  obtain ⟨o, es, ep, h1, h2, h3, h4, h5, h6, h7, h8⟩ := D
  obtain ⟨i1, vs, i2, i3⟩ := paired_keys (P := X.prog) h8 ka k.w.symm
  exact ⟨vs, ⟨o, es, ep, MP.Inv.dctO I h1, h2, h3, fun e he => i1 e (Array.mem_toList_iff.mpr he), i2, keysW_nodup i3 h6⟩, i3, h4⟩
mutual
theorem nested_of (I : L2.Inv X pins σ H s) (hK : X.K = Z.K) : ∀ (n : Nat) {w : Wv} {x : V} {u : Value}, keyIn n w = true → WR Z ι H w x → RelV x u → NestedIs s.heap (toNK w) u ∧ (toNK w).depth ≤ n
  | n, _, _, _, _, .non, r => by cases r; exact ⟨.none, by simp [toNK, NestedKey.depth]⟩
  | n, _, _, _, _, .int i, r => by obtain ⟨t, rfl⟩ := r; exact ⟨.int i t, by simp [toNK, NestedKey.depth]⟩
  | n, _, _, _, _, .str x, r => by obtain ⟨t, rfl⟩ := r; exact ⟨.text x t, by simp [toNK, NestedKey.depth]⟩
  | 0, _, _, _, h, .tup _ _, r => by simp [keyIn] at h
  | n + 1, _, _, _, h, .tup hs hw, r => by
    simp only [keyIn] at h
    cases r
    obtain ⟨its, rv, ⟨o, e1, e2, m, e3⟩, _⟩ := I.tuple (by rw [hK]; exact hs)
    obtain ⟨h1, h2⟩ := nesteds_of I hK n h hw rv
    refine ⟨.tup e1 e2 e3 (by simpa using h1), ?_⟩
    simp only [toNK, NestedKey.depth]
    omega
  | n, _, _, _, h, .bl _, r => by simp [keyIn] at h
  | n, _, _, _, h, .ref _, r => by simp [keyIn] at h
  | n, _, _, _, h, .scr _, r => by simp [keyIn] at h
theorem nesteds_of (I : L2.Inv X pins σ H s) (hK : X.K = Z.K) : ∀ (n : Nat) {ws : List Wv} {xs : List V} {us : List Value}, keyTup n ws = true → WsR Z ι H ws xs → Vals xs us → NestedAll s.heap (toNKs ws) us ∧ NestedKey.depthAll (toNKs ws) ≤ n
  | n, _, _, _, _, .nil, r => by cases r; exact ⟨.nil, by simp [toNKs, NestedKey.depthAll]⟩
  | n, _, _, _, h, .cons h1 t1, r => by
    simp only [keyTup, Bool.and_eq_true] at h
    cases r with
    | cons r rr =>
      obtain ⟨a1, a2⟩ := nested_of I hK n h.1 h1 r
      obtain ⟨b1, b2⟩ := nesteds_of I hK n h.2 t1 rr
      refine ⟨.cons a1 b1, ?_⟩
      simp only [toNKs, NestedKey.depthAll]
      omega
end
/-- a tuple that is a key -/
theorem keyT_is (I : L2.Inv X pins σ H s) (hK : X.K = Z.K) {b : Addr} (ka : keyT k = true) (r : WR Z ι H k (.ref b)) : (nestedKind X.prog X.w).is s.heap (toNK k) b := by
  cases k with
  | tup ws =>
    obtain ⟨h1, h2⟩ := nested_of I hK 8 (show keyIn 8 (.tup ws) = true from ka) r (show RelV (.ref b) (.ref b) from rfl)
    exact ⟨h1, h2⟩
  | _ => cases ka
theorem keyT_ref {x : V} (ka : keyT k = true) (r : WR Z ι H k x) : ∃ b, x = .ref b := by
  cases k with
  | tup ws => cases r; exact ⟨_, rfl⟩
  | _ => cases ka
theorem paired_keysT {es : List DictEntry} (r : Paired (EnR Z ι H) kvs es) (ka : (kvs.all fun p => keyT p.1) = true) {P : Program} {w : World} (hw : Z.w = w) :
    ∃ xs, es = xs.map (entryOfKey (nestedKind P w)) ∧ TvR Z ι H kvs xs := by
  induction r with
  | nil => exact ⟨[], rfl, .nil⟩
  | @cons p e ps es h t ih =>
    rw [List.all_cons, Bool.and_eq_true] at ka
    obtain ⟨xs, i2, i3⟩ := ih ka.2
    obtain ⟨kv, vv, h1, h2, h3, h4, h5⟩ := h
    obtain ⟨b, rfl⟩ := keyT_ref ka.1 h2
    refine ⟨(toNK p.1, b, e.val) :: xs, ?_, .cons ⟨rfl, ka.1, h2, vv, h3, h4⟩ i3⟩
    rw [List.map_cons, ← i2]
    congr 1
    obtain ⟨eh, ek, ev⟩ := e
    have e1 : ek = Value.ref b := h1
    have e2 : eh = (toNK p.1).hash Z.w := h5
    rw [e1, e2, hw]
    rfl
theorem pairs_backT {es : List DictEntry} {xs : List (NestedKey × Addr × Value)} {P : Program} {w : World} (hw : Z.w = w) (he : es = xs.map (entryOfKey (nestedKind P w))) (r : TvR Z ι H kvs xs) : Paired (EnR Z ι H) kvs es := by
  subst he
  induction r with
  | nil => exact .nil
  | @cons p q ps qs h t ih =>
    rw [List.map_cons]
    refine .cons ?_ ih
    obtain ⟨e1, ka, wk, x, rx, wx⟩ := h
    refine ⟨.ref q.2.1, x, rfl, wk, rx, wx, ?_⟩
    show (nestedKind P w).hash q.1 = _
    rw [e1, hw]
    rfl
theorem keysT_nodup {xs : List (NestedKey × Addr × Value)} (r : TvR Z ι H kvs xs) (nd : (kvs.map (·.1)).Nodup) : (xs.map (·.1)).Nodup := by
  induction r with
  | nil => exact List.nodup_nil
  | @cons p q ps qs h t ih =>
    rw [List.map_cons, List.nodup_cons] at nd ⊢
    refine ⟨fun hm => nd.1 ?_, ih nd.2⟩
    obtain ⟨q2, hq2, e⟩ := List.mem_map.mp hm
    clear ih nd hm
    induction t with
    | nil => cases hq2
    | @cons p2 q3 ps qs h2 t ih =>
      rcases List.mem_cons.mp hq2 with z | z
      · subst z
        rw [List.map_cons]
        refine List.mem_cons.mpr (.inl ?_)
        exact keyT_inj h.2.1 h2.2.1 (by rw [← h.1, ← h2.1, e])
      · exact List.mem_cons_of_mem _ (ih z)
theorem DctR.dictOfH (I : L2.Inv X pins σ H s) (k : XOk X Z) (D : DctR Z ι H a z kvs) (ka : (kvs.all fun p => keyT p.1) = true) : ∃ xs, s.heap.DictOfH (nestedKind X.prog X.w) a xs ∧ TvR Z ι H kvs xs ∧ (a == sysModules) = false := by
  obtain ⟨o, es, ep, h1, h2, h3, h4, h5, h6, h7, h8⟩ := D
  obtain ⟨xs, i2, i3⟩ := paired_keysT (P := X.prog) h8 ka k.w.symm
  refine ⟨xs, ⟨o, es, ep, MP.Inv.dctO I h1, h2, h3, i2, fun x hx => ?_, keysT_nodup i3 h6⟩, i3, h4⟩
  clear i2 h8 h6 h7
  induction i3 with
  | nil => cases hx
  | cons h t ih =>
    rw [List.all_cons, Bool.and_eq_true] at ka
    rcases List.mem_cons.mp hx with z | z
    · subst z
      rw [h.1]
      exact keyT_is I k.K h.2.1 h.2.2.1
    · exact ih ka.2 (by simp only [List.length_cons] at h5; omega) z
end
end MP
end
section
set_option Elab.async false
set_option linter.all false
set_option maxRecDepth 100000
/-! MP6: in, subscripts, stores, methods. -/
namespace MP
open PySem PySem.Spec PyProof.Rows L2
section
variable {Z : Zt} {X : Cx} {G : Pg} {pins : List (Addr × Obj)} {σ : L2.St} {ι : List Addr} {H : Hp} {M : Mem} {s : Shared} {a : Addr} {z : Bool} {kvs : List (Wv × Wv)} {kk vv : Wv}
theorem room8 (k : XOk X Z) : (nestedKind X.prog X.w).room X.A.in1 := by
  show X.A.units + 1 + 8 < cLine
  have := k.un
  omega
theorem room8' (k : XOk X Z) : (nestedKind X.prog X.w).room X.A.in1.in1 := by
  show X.A.units + 1 + 1 + 8 < cLine
  have := k.un
  omega
theorem keyOk_cases (h : keyOk kvs kk = true) : (keyA kk = true ∧ (kvs.all fun p => keyA p.1) = true) ∨ (keyT kk = true ∧ (kvs.all fun p => keyT p.1) = true) := by
  unfold keyOk at h
  rw [Bool.or_eq_true, Bool.and_eq_true, Bool.and_eq_true] at h
  exact h
theorem DctR.in_ {neg : Bool} {x : V} {u : Value} {Q : VK} (I : L2.Inv X pins σ H s) (k : XOk X Z) (D : DctR Z ι H a z kvs) (h : keyOk kvs kk = true) (r : WR Z ι H kk x) (ru : RelV x u) (q : Q (.bl (if neg then !(dget kvs kk).isSome else (dget kvs kk).isSome)) H) :
    wpAny (model X.prog X.w) X.A (compareOp (if neg then .NotIn else .In) u (.ref a)) (EP X pins σ Q) X.xe s := by
  rcases keyOk_cases h with ⟨k1, k2⟩ | ⟨k1, k2⟩
  · obtain ⟨vs, dd, pv, hd⟩ := D.dictOf I k k2
    have ex := keyA_rel k1 r
    subst ex
    have e : (valueAt vs (keyW kk)).isSome = (dget kvs kk).isSome := by
      have g := pv.get k1
      cases e : dget kvs kk with
      | none => rw [e] at g; simp only at g; rw [g]; rfl
      | some y => rw [e] at g; obtain ⟨p, g, _⟩ := g; rw [g]; rfl
    cases neg with
    | false => exact wpAny_in_of (kV_is ru) hd dd.mapOf ⟨.bl _, H, I.tok _, rfl, by rw [e]; exact q⟩
    | true => exact wpAny_notIn_of (kV_is ru) hd dd.mapOf ⟨.bl _, H, I.tok _, rfl, by rw [e]; exact q⟩
  · obtain ⟨xs, dd, pv, hd⟩ := D.dictOfH I k k2
    obtain ⟨b, rfl⟩ := keyT_ref k1 r
    cases ru
    have e : (atKey xs (toNK kk)).isSome = (dget kvs kk).isSome := by
      have g := pv.get k1
      cases e : dget kvs kk with
      | none => rw [e] at g; simp only at g; rw [g]; rfl
      | some y => rw [e] at g; obtain ⟨p, g, _⟩ := g; rw [g]; rfl
    cases neg with
    | false => exact wpAny_in_heap (room8 k) (keyT_is I k.K k1 r) hd dd ⟨.bl _, H, I.tok _, rfl, by rw [e]; exact q⟩
    | true => exact wpAny_notIn_heap (room8 k) (keyT_is I k.K k1 r) hd dd ⟨.bl _, H, I.tok _, rfl, by rw [e]; exact q⟩
theorem DctR.typeIs (I : L2.Inv X pins σ H s) (D : DctR Z ι H a z kvs) : s.TypeIs (.ref a) "dict" := by
  obtain ⟨o, es, ep, h1, h2, h3, h4⟩ := D
  exact ⟨o, MP.Inv.dctO I h1, h2.1⟩
theorem DctR.noDict (I : L2.Inv X pins σ H s) (D : DctR Z ι H a z kvs) : ∀ b, Value.ref a = .ref b → ∃ ob, s.heap.get? b = some ob ∧ ob.dict = none := fun b q => by
  obtain ⟨o, es, ep, h1, h2, h3, h4⟩ := D
  cases q
  exact ⟨o, MP.Inv.dctO I h1, h2.2.1⟩
theorem DctR.getItem {x : V} {u : Value} {Q : Value → Shared → Prop} {E : Value → Shared → Prop} (I : L2.Inv X pins σ H s) (k : XOk X Z) (D : DctR Z ι H a z kvs) (h : keyOk kvs kk = true) (hg : dget kvs kk = some vv) (r : WR Z ι H kk x) (ru : RelV x u)
    (q : ∀ w' s' y, L2.Inv X pins σ H s' → RelV y w' → WR Z ι H vv y → Q w' s') : wpAny (model X.prog X.w) X.A (PySem.getItem (.ref a) u) Q E s := by
  rcases keyOk_cases h with ⟨k1, k2⟩ | ⟨k1, k2⟩
  · obtain ⟨vs, dd, pv, hd⟩ := D.dictOf I k k2
    have ex := keyA_rel k1 r
    subst ex
    have g := pv.get k1
    rw [hg] at g
    obtain ⟨w', g, y, ry, wy⟩ := g
    exact wpAny_getItem_of (kV_is ru) dd.mapOf g (q w' _ y (I.tok _) ry wy)
  · obtain ⟨xs, dd, pv, hd⟩ := D.dictOfH I k k2
    obtain ⟨b, rfl⟩ := keyT_ref k1 r
    cases ru
    have g := pv.get k1
    rw [hg] at g
    obtain ⟨p, g, y, ry, wy⟩ := g
    exact wpAny_getItem_heap (room8 k) (keyT_is I k.K k1 r) dd g (q p.2 _ y (I.tok _) ry wy)
/-- the dict's object, new -/
theorem DctR.ok_new {P : Program} {w : World} {h' : Heap} {o : Obj} {H' : Hp} (e : h'.get? a = some o) : ObjOk P w H' h' a (DctO a o) := ⟨e, ⟨o, e⟩, fun h1 h2 p st => st _ p⟩
theorem DctR.setItem {x y : V} {u w' : Value} {Q : Unit → Shared → Prop} {E : Value → Shared → Prop} {l : Nat} (I : L2.Inv X pins σ H s) (k : XOk X Z) (R : RM Z ι M H) (hl : ι[l]? = some a) (D : DctR Z ι H a false kvs) (h : keyOk kvs kk = true) (hz : kvs.length + 1 ≤ sizeLine)
    (r : WR Z ι H kk x) (ru : RelV x u) (ry : WR Z ι H vv y) (rw' : RelV y w')
    (q : ∀ s' o', L2.Inv X pins σ (upd H a (DctO a o')) s' → DctR Z ι (upd H a (DctO a o')) a false (dput kvs kk vv) → Ext ι ι H (upd H a (DctO a o')) → Q () s') : wpAny (model X.prog X.w) X.A (PySem.setItem (.ref a) u w') Q E s := by
  obtain ⟨o, es, ep, h1, h2, h3, h4, h5, h6, h7, h8⟩ := id D
  have hlen : (dput kvs kk vv).length ≤ sizeLine := by have := dput_len kvs kk vv; omega
  have hmut : Mut (H a) := by rw [h1]; exact True.intro
  rcases keyOk_cases h with ⟨k1, k2⟩ | ⟨k1, k2⟩
  · obtain ⟨vs, dd, pv, hd⟩ := D.dictOf I k k2
    have ex := keyA_rel k1 r
    subst ex
    have hz2 : vs.length ≤ sizeLine := by rw [← Paired.length pv]; omega
    refine wpAny_setItem_pairs (hsz := hz2) (kV_is ru) dd fun h' dd' hs => ?_
    obtain ⟨o', es', ep', e1, e2, e3, e4, e5, e6⟩ := dd'
    have ex : Ext ι ι H (upd H a (DctO a o')) := Ext.write R hl (fun ob φ e => by rw [h1] at e; cases e)
    refine q _ o' (d_write I hmut hs ⟨o', e1⟩ (DctR.ok_new e1)) ⟨o', es', ep', upd_same, e2, e3, hd, hlen, dput_nodup h6, .inl (dput_all k2 k1), ?_⟩ ex
    refine pairs_back (P := X.prog) k.w.symm (fun e he => e4 e (Array.mem_toList_iff.mp he)) e5 ?_
    exact L2.Paired.mapP (pv.put k1 h6 rw' ry) fun p q z => ⟨z.1, z.2.1, let ⟨x, z1, z2⟩ := z.2.2; ⟨x, z1, z2.mono ex.le⟩⟩
  · obtain ⟨xs, dd, pv, hd⟩ := D.dictOfH I k k2
    obtain ⟨b, rfl⟩ := keyT_ref k1 r
    cases ru
    have hz2 : xs.length ≤ sizeLine := by rw [← Paired.length pv]; omega
    refine wpAny_setItem_heap (hsz := hz2) (room8 k) (keyT_is I k.K k1 r) dd fun h' dd' hs => ?_
    obtain ⟨o', es', ep', e1, e2, e3, e4, e5, e6⟩ := dd'
    have ex : Ext ι ι H (upd H a (DctO a o')) := Ext.write R hl (fun ob φ e => by rw [h1] at e; cases e)
    refine q _ o' (d_write I hmut hs ⟨o', e1⟩ (DctR.ok_new e1)) ⟨o', es', ep', upd_same, e2, e3, hd, hlen, dput_nodup h6, .inr (dput_all k2 k1), ?_⟩ ex
    refine pairs_backT (P := X.prog) k.w.symm e4 ?_
    exact L2.Paired.mapP (pv.put k1 h6 r rw' ry) fun p q z => ⟨z.1, z.2.1, z.2.2.1.mono ex.le, let ⟨x, z1, z2⟩ := z.2.2.2; ⟨x, z1, z2.mono ex.le⟩⟩
theorem dctO_noC (o : Obj) (c : Addr) (q : Str) (hd : ∃ es ep, o.data = .dict es ep) : DctO c o ≠ LamX.CodeO c q := fun e => by
  unfold DctO LamX.CodeO at e
  injection e with e
  obtain ⟨es, ep, hd⟩ := hd
  have hg : (⟨Array.replicate (c + 1) o, {}⟩ : Heap).get? c = some o := by
    obtain ⟨oc, od, dt, sl⟩ := o
    simp only at hd
    subst hd
    simp [Heap.get?]
  have e2 := congrFun e (⟨Array.replicate (c + 1) o, {}⟩ : Heap)
  have e3 : ∃ (oc : Obj) (vs : Array Value) (t : Tok), (⟨Array.replicate (c + 1) o, {}⟩ : Heap).get? c = some oc ∧ oc.data = .fields vs ∧ vs[1]? = some (.str q t) := by
    rw [← e2]; exact hg
  obtain ⟨oc, vs, t, a1, a2, _⟩ := e3
  rw [hg] at a1
  cases a1
  rw [hd] at a2
  cases a2

/-! ### in, not in -/
theorem inLst_dp {x : Wv} {vx : V} {ws : List Wv} {r : Bool} {l : Nat} {b : Addr} (hS : Z.S = G.S) (R : RM Z ι M H) (wx : WR Z ι H x vx) (hM : M[l]? = some (.lst ws)) (hl : ι[l]? = some b) (e : inLst G x ws M = some r) :
    ∃ d ds, Dp Z.K H vx d ∧ Dp Z.K H (.ref b) (.list ds) ∧ SeqAt.shaped d = true ∧ SeqAt.shaped (.list ds) = true ∧ (ds.any fun z => PyData.eqv z d) = r := by
  unfold inLst at e
  split at e
  · rename_i d ds e1 e2
    split at e
    · rename_i c
      rw [Bool.and_eq_true] at c
      cases e
      obtain ⟨vs, h1, h2⟩ := R.ob _ _ _ hM hl
      exact ⟨d, ds, toD_dp hS R _ wx e1, .lst (SqL.of h1) (toDs_dp hS R _ h2 e2), c.1, c.2, rfl⟩
    · cases e
  · cases e
theorem op_inW (k : XOk X Z) (hS : Z.S = G.S) : OpR X (compareOp .In) (r2 Z (cmpW G .in_)) := by
  intro pins s σ H x y v u Q I rx ry h
  obtain ⟨ι, M, a, b, R, wa, wb, h⟩ := h
  obtain ⟨r, e, q⟩ := cmp_ok R h
  have e : inW G a b M = some r := e
  cases wb with
  | tup hs ht =>
    simp only [inW] at e
    split at e
    · rename_i c
      rw [Bool.and_eq_true] at c
      cases e
      obtain ⟨f1, f2⟩ := flats_dp wa c.1 ht c.2
      obtain ⟨f3, _⟩ := flat_dp wa c.1
      exact op_in_seq pins s σ H _ _ v u Q I rx ry ⟨_, _, rfl, .inr (by rw [k.K]; exact hs), f3, f1, by rw [f2]; exact q⟩
    · cases e
  | str z =>
    cases wa with
    | str t => cases e; exact op_in_str pins s σ H _ _ v u Q I rx ry ⟨t, z, rfl, rfl, q⟩
    | _ => cases e
  | ref hl =>
    simp only [inW] at e
    split at e
    · rename_i ws hM
      obtain ⟨d, ds, h1, h2, h3, h4, rfl⟩ := inLst_dp hS R wa hM hl e
      exact op_inD (by have := k.un; omega) pins s σ H _ _ v u Q I rx ry ⟨d, ds, by rw [k.K]; exact h1, by rw [k.K]; exact h2, h3, h4, q⟩
    · rename_i kvs hM
      split at e
      · rename_i hk
        cases e
        cases ry
        exact DctR.in_ (neg := false) I k (R.ob _ _ _ hM hl) hk wa rx q
      · cases e
    · cases e
  | _ => cases e
theorem op_ninW (k : XOk X Z) (hS : Z.S = G.S) : OpR X (compareOp .NotIn) (r2 Z (cmpW G .nin)) := by
  intro pins s σ H x y v u Q I rx ry h
  obtain ⟨ι, M, a, b, R, wa, wb, h⟩ := h
  obtain ⟨r, e, q⟩ := cmp_ok R h
  have e : inW G a b M = some (!r) := notO_some e
  cases wb with
  | tup hs ht =>
    simp only [inW] at e
    split at e
    · rename_i c
      rw [Bool.and_eq_true] at c
      have e := Option.some.inj e
      obtain ⟨f1, f2⟩ := flats_dp wa c.1 ht c.2
      obtain ⟨f3, _⟩ := flat_dp wa c.1
      exact op_notIn_seq pins s σ H _ _ v u Q I rx ry ⟨_, _, rfl, .inr (by rw [k.K]; exact hs), f3, f1, by rw [if_pos rfl, f2, e, Bool.not_not]; exact q⟩
    · cases e
  | str z =>
    cases wa with
    | str t =>
      have e := Option.some.inj e
      exact op_notin_str pins s σ H _ _ v u Q I rx ry ⟨t, z, rfl, rfl, by rw [e, Bool.not_not]; exact q⟩
    | _ => cases e
  | ref hl =>
    simp only [inW] at e
    split at e
    · rename_i ws hM
      obtain ⟨d, ds, h1, h2, h3, h4, e2⟩ := inLst_dp hS R wa hM hl e
      exact op_notInD (by have := k.un; omega) pins s σ H _ _ v u Q I rx ry ⟨d, ds, by rw [k.K]; exact h1, by rw [k.K]; exact h2, h3, h4, by rw [e2, Bool.not_not]; exact q⟩
    · rename_i kvs hM
      split at e
      · rename_i hk
        have e := Option.some.inj e
        cases ry
        exact DctR.in_ (neg := true) I k (R.ob _ _ _ hM hl) hk wa rx (by rw [if_pos rfl, e, Bool.not_not]; exact q)
      · cases e
    · cases e
  | _ => cases e
def cmOf : Cm → CmpOp
  | .eq => .Eq
  | .ne => .NotEq
  | .lt => .Lt
  | .le => .LtE
  | .gt => .Gt
  | .ge => .GtE
  | .is_ => .Is
  | .isn => .IsNot
  | .in_ => .In
  | .nin => .NotIn
theorem op_cmpW (k : XOk X Z) (hS : Z.S = G.S) (c : Cm) : OpR X (compareOp (cmOf c)) (r2 Z (cmpW G c)) := by
  cases c
  · exact op_eqW k hS
  · exact op_neW k hS
  · exact op_ltW
  · exact op_leW
  · exact op_gtW
  · exact op_geW
  · exact op_isW
  · exact op_isnW
  · exact op_inW k hS
  · exact op_ninW k hS
/-! ### subscripts -/
theorem atI_rel {ws : List Wv} {vs : List V} {j : Int} {w : Wv} (r : WsR Z ι H ws vs) (e : atI ws j = some w) : ∃ v, L2.atI vs j = some v ∧ WR Z ι H w v := by
  unfold atI at e
  have hl := r.length
  by_cases h0 : 0 ≤ j
  · rw [if_pos h0] at e
    obtain ⟨v, h1, h2⟩ := r.get e
    refine ⟨v, ?_, h2⟩
    have hlt := (List.getElem?_eq_some_iff.mp h1).1
    unfold L2.atI L2.ixN
    rw [if_pos h0, if_pos (by omega)]
    exact h1
  · rw [if_neg h0] at e
    split at e
    · rename_i h2
      obtain ⟨v, h3, h4⟩ := r.get e
      refine ⟨v, ?_, h4⟩
      unfold L2.atI L2.ixN
      rw [if_neg h0, if_pos (by rw [← hl]; exact h2), ← hl]
      exact h3
    · cases e
theorem atI_str {cs : List Nat} {j : Int} {c : Nat} (e : atI cs j = some c) : L2.atI cs j = some c := by
  unfold atI at e
  unfold L2.atI L2.ixN
  by_cases h0 : 0 ≤ j
  · rw [if_pos h0] at e ⊢
    have hlt := (List.getElem?_eq_some_iff.mp e).1
    rw [if_pos (by omega)]
    exact e
  · rw [if_neg h0] at e ⊢
    split at e
    · rename_i h2
      rw [if_pos h2]
      exact e
    · cases e
theorem prim_sub (x y : Wv) (M : Mem) : Prim (subW G x y M) := by
  unfold subW
  split <;> try (split <;> first | exact Prim.ofO | exact Prim.bad | (split <;> first | exact Prim.ofO | exact Prim.bad | exact Prim.ofO.chk) | exact Prim.ofO.chk)
  all_goals exact Prim.bad
/-- subscription of a dict -/
theorem sub_tail {prog : Program} {w : World} {A : Around} {E : Value → Shared → Prop} {s : Shared} {value slice : Expr} {o i : Value} {T id : String} {Q : Value → Shared → Prop}
    (hT : s.TypeIs o T) (hl : typeLookup (.type T) "__getitem__" = pure (some (.builtin id))) (hs : subscripted slice false o i = operate [o, i] (PySem.getItem o i)) (h : wpAny (model prog w) A (PySem.getItem o i) Q E s) :
    wpAny (model prog w) A (subscriptTail value slice o i) Q E s := by
  unfold subscriptTail
  refine wpAny_bind ?_
  rw [getitemInPython_of_ne hT.not_modules]
  refine wpAny_bind (wpAny_specialOf hT hl ?_)
  have fin : wpAny (model prog w) A (subscripted slice false o i) (fun r s₃ => wpAny (model prog w) A (letTemporaryGo value o r >>= fun _ => pure r) Q E s₃) E s := by
    rw [hs]
    exact wpAny_operating (wpAny_mono h (fun r s₃ h₃ => wpAny_bind (wpAny_letTemporaryGo (wpAny_pure h₃))) fun _ _ x => x)
  first
    | exact wpAny_pure (wpAny_bind fin)
    | exact wpAny_bind (wpAny_pure (wpAny_bind fin))
    | exact wpAny_bind fin
theorem ix_subW (k : XOk X Z) (hS : Z.S = G.S) : IxR X (r2 Z (subW G)) := by
  intro value slice pins s σ H x y v u Q I rx ry h hs
  obtain ⟨ι, M, a, b, R, wa, wb, h⟩ := h
  cases wa with
  | tup ha ta =>
    cases wb with
    | int j =>
      obtain ⟨w, e, h⟩ := rOut.ofO h
      obtain ⟨z, e1, e2⟩ := atI_rel ta e
      exact ix_tup value slice pins s σ H _ _ v u Q I rx ry ⟨_, _, j, z, rfl, rfl, by rw [k.K]; exact ha, e1, h.val R e2⟩ hs
    | _ => exact False.elim h
  | str z =>
    cases wb with
    | int j =>
      simp only [subW] at h
      split at h
      · rename_i hz
        obtain ⟨w, e, h⟩ := h.ofO
        obtain ⟨c, e1, rfl⟩ := Option.map_eq_some_iff.mp e
        exact ix_str value slice pins s σ H _ _ v u Q I rx ry ⟨z, j, c, rfl, rfl, hz, atI_str e1, h.val R (.str _)⟩ hs
      · exact False.elim h
    | _ => exact False.elim h
  | scr ha =>
    cases wb with
    | int j =>
      obtain ⟨w, e, h⟩ := rOut.ofO h
      obtain ⟨i, e1, rfl⟩ := Option.map_eq_some_iff.mp e
      have e3 : atI (G.S.map Wv.int) j = some (.int i) := by
        unfold atI at e1 ⊢
        rw [List.length_map]
        split
        · rename_i h0; rw [if_pos h0] at e1; rw [List.getElem?_map, e1]; rfl
        · rename_i h0
          rw [if_neg h0] at e1
          split
          · rename_i h2; rw [if_pos h2] at e1; rw [List.getElem?_map, e1]; rfl
          · rename_i h2; rw [if_neg h2] at e1; cases e1
      obtain ⟨z, e4, e5⟩ := atI_rel (Z := Z) (ι := ι) (H := H) (WsR.ints G.S) e3
      exact ix_list value slice pins s σ H _ _ v u Q I rx ry ⟨_, _, j, z, rfl, rfl, by rw [k.K]; exact ha.sq, by rw [hS]; exact e4, h.val R e5⟩ hs
    | _ => exact False.elim h
  | ref ha =>
    simp only [subW] at h
    split at h
    · rename_i ws hM
      obtain ⟨vs, h1, h2⟩ := R.ob _ _ _ hM ha
      cases wb with
      | int j =>
        obtain ⟨w, e, h⟩ := rOut.ofO h
        obtain ⟨z, e1, e2⟩ := atI_rel h2 e
        exact ix_list value slice pins s σ H _ _ v u Q I rx ry ⟨_, _, j, z, rfl, rfl, SqL.of h1, e1, h.val R e2⟩ hs
      | _ => exact False.elim h
    · rename_i kvs hM
      obtain ⟨c, h⟩ := h.chk
      obtain ⟨w, e, h⟩ := h.ofO
      have D : DctR Z ι H _ _ kvs := R.ob _ _ _ hM ha
      cases rx
      exact sub_tail (D.typeIs I) slot_dict_getitem.lookup hs (D.getItem I k c e wb ry fun w' s' y I' r' q' => ⟨y, H, I', r', h.val R q'⟩)
    · exact False.elim h
  | _ => exact False.elim h
end
end MP
end
section
set_option Elab.async false
set_option linter.all false
set_option maxRecDepth 100000
/-! MP7: slices, plain built-ins, isinstance, {} and methods of lists and dicts. -/
namespace MP
open PySem PySem.Spec PyProof.Rows L2
/-! ### slices -/
def oOut (Z : Zt) (Wx : Wish) (σ : L2.St) (ι : List Addr) (H : Hp) (r : Out (Option Int)) (Q : Option Int → Hp → Prop) : Prop := match r with
  | .ok b M => ∀ H' ι', Ext ι ι' H H' → RM Z ι' M H' → Q b H'
  | .exc c M => ∀ H' ι', Ext ι ι' H H' → RM Z ι' M H' → Wx c σ H'
  | .bad => False
def tO (Z : Zt) (Wx : Wish) (f : Sw → Mem → Out (Option Int)) : TO := fun σ H Q => ∃ ι sw M, SR Z ι H sw σ ∧ RM Z ι M H ∧ oOut Z Wx σ ι H (f sw M) Q
theorem _root_.L2.PO.weak {X : Cx} {e : Option Expr} {t t' : TO} (h : PO X e t) (w : ∀ σ H Q, t' σ H Q → t σ H Q) : PO X e t' := ⟨fun pins s σ H Q I q => h.run pins s σ H Q I (w σ H Q q)⟩
section
variable {Z : Zt} {Wx : Wish} {X : Cx} {G : Pg} {σ : L2.St} {ι ι1 : List Addr} {H H1 : Hp} {sw : Sw} {M : Mem}
theorem oOut.shift {r : Out (Option Int)} {Q : Option Int → Hp → Prop} (e : Ext ι ι1 H H1) (h : oOut Z Wx σ ι H r Q) : oOut Z Wx σ ι1 H1 r Q := by
  cases r with
  | ok w M' => exact fun H' ι' x R => h H' ι' (e.trans x) R
  | exc c M' => exact fun H' ι' x R => h H' ι' (e.trans x) R
  | bad => exact h
theorem tE.seqO {f : Fv} {g : Wv → Mem → Out (Option Int)} {Q : Option Int → Hp → Prop} {R : VK} (s : SR Z ι H sw σ) (R0 : RM Z ι M H) (h : oOut Z Wx σ ι H ((f sw M).bind g) Q)
    (hk : ∀ w M1 v H1 ι1, Ext ι ι1 H H1 → RM Z ι1 M1 H1 → WR Z ι1 H1 w v → SR Z ι1 H1 sw σ → oOut Z Wx σ ι1 H1 (g w M1) Q → R v H1) : tE Z Wx f σ H R := by
  refine ⟨ι, sw, M, s, R0, ?_⟩
  cases e : f sw M with
  | ok w M1 =>
    rw [e] at h
    exact fun v H' ι' x R q => hk w M1 v H' ι' x R q (s.mono x.le) (h.shift x)
  | exc c M1 => rw [e] at h; exact h
  | bad => rw [e] at h; exact h
theorem tO.seqE {f : Sw → Mem → Out (Option Int)} {g : Option Int → Mem → Out Wv} {Q : VK} {R : Option Int → Hp → Prop} (s : SR Z ι H sw σ) (R0 : RM Z ι M H) (h : eOut Z Wx σ ι H ((f sw M).bind g) Q)
    (hk : ∀ b M1 H1 ι1, Ext ι ι1 H H1 → RM Z ι1 M1 H1 → SR Z ι1 H1 sw σ → eOut Z Wx σ ι1 H1 (g b M1) Q → R b H1) : tO Z Wx f σ H R := by
  refine ⟨ι, sw, M, s, R0, ?_⟩
  cases e : f sw M with
  | ok w M1 =>
    rw [e] at h
    exact fun H' ι' x R => hk w M1 H' ι' x R (s.mono x.le) (h.shift x)
  | exc c M1 => rw [e] at h; exact h
  | bad => rw [e] at h; exact h
theorem so_none : PO X none (tO Z Wx fun _ M => .ok none M) := po_none.weak fun σ H Q ⟨ι, sw, M, s, R, h⟩ => h H ι (Ext.refl ι H) R
theorem so_some {e : Expr} {f : Fv} (he : PE X e (tE Z Wx f)) : PO X (some e) (tO Z Wx fun sw M => (f sw M).bind fun y M => .ofO ((toI y).map some) M) :=
  (po_some he).weak fun σ H Q ⟨ι, sw, M, s, R, h⟩ => tE.seqO s R h fun w M1 v H1 ι1 e1 R1 q1 s1 h1 => by
    cases q1 with
    | int i => exact ⟨i, rfl, h1 H1 ι1 (Ext.refl _ _) R1⟩
    | _ => exact False.elim h1
theorem prim_slc (x : Wv) (l h : Option Int) (M : Mem) : Prim (slcW x l h M) := by
  unfold slcW
  split <;> first
    | exact Prim.ok
    | exact Prim.ok.chk
    | exact Prim.bad
    | (split <;> first | exact Prim.ok | exact Prim.bad)
theorem sIx_eq (n d : Nat) (o : Option Int) : sIx n d o = HT.sIx n d o := by
  cases o <;> rfl
theorem cut_rel {ws : List Wv} {vs : List V} (r : WsR Z ι H ws vs) (lo hi : Option Int) : WsR Z ι H (cut ws lo hi) (cutV vs lo hi) := by
  unfold cut cutV
  rw [r.length, sIx_eq, sIx_eq]
  exact (r.drop _).take _
theorem sl_slcW (k : XOk X Z) : SlR X (fun x lo hi H Q => ∃ ι M w, RM Z ι M H ∧ WR Z ι H w x ∧ rOut Z ι H (slcW w lo hi M) Q) := by
  intro pins s σ H x v vl vu lo hi sl Q I rx hs pl pu h
  obtain ⟨ι, M, w, R, wr, h⟩ := h
  cases wr with
  | tup ha ta =>
    refine sl_tupA pins s σ H _ v vl vu lo hi sl Q I rx hs pl pu ⟨_, _, rfl, by rw [k.K]; exact ha, fun hw => ?_, fun _ p hp => h.tup R (cut_rel ta lo hi) hp⟩
    refine h.val R (.tup ha ?_)
    have e := cut_rel ta lo hi
    have e2 : ∀ {vs : List V}, (HT.sIx vs.length 0 lo = 0 ∧ HT.sIx vs.length vs.length hi = vs.length) → cutV vs lo hi = vs := fun {vs} hw => by
      unfold cutV
      rw [hw.1, hw.2]
      simp
    rw [e2 hw] at e
    exact e
  | str z =>
    obtain ⟨c, h⟩ := h.chk
    exact sl_str pins s σ H _ v vl vu lo hi sl Q I rx hs pl pu ⟨z, rfl, of_decide_eq_true c, by
      have e : cutS z lo hi = ⟨(cut z.cps.toList lo hi).toArray⟩ := by
        unfold cutS cut
        rw [sIx_eq, sIx_eq, Array.length_toList]
        rfl
      rw [e]
      exact h.val R (.str _)⟩
  | ref ha =>
    simp only [slcW] at h
    split at h
    · rename_i ws hM
      obtain ⟨vs, h1, h2⟩ := R.ob _ _ _ hM ha
      exact sl_list pins s σ H _ v vl vu lo hi sl Q I rx hs pl pu ⟨_, vs, rfl, SqL.of h1, fun p hp => h.lst R (cut_rel h2 lo hi) hp⟩
    · exact False.elim h
  | _ => exact False.elim h
theorem se_slc (k : XOk X Z) {a : Expr} {lo hi : Option Expr} {f : Fv} {fl fh : Sw → Mem → Out (Option Int)} {pos p2 : Pos} (ha : PE X a (tE Z Wx f)) (hl : PO X lo (tO Z Wx fl)) (hh : PO X hi (tO Z Wx fh)) :
    PE X (.Subscript a (.Slice lo hi none p2) pos) (tE Z Wx fun sw M => (f sw M).bind fun x M => (fl sw M).bind fun l M => (fh sw M).bind fun h M => slcW x l h M) :=
  (pe_slice (sl_slcW k) ha hl hh).weak fun σ H Q ⟨ι, sw, M, s, R, h⟩ => tE.seqE s R h fun x M1 v H1 ι1 e1 R1 q1 s1 h1 => tO.seqE s1 R1 h1 fun l M2 H2 ι2 e2 R2 s2 h2 => tO.seqE s2 R2 h2 fun u M3 H3 ι3 e3 R3 s3 h3 =>
    ⟨ι3, M3, x, R3, (q1.mono e2.le).mono e3.le, (prim_slc x l u M3).out h3⟩
theorem prim_rev (z : Bool) (x : Wv) (M : Mem) : Prim (revW z x M) := by
  unfold revW
  split
  · split
    · exact Prim.ok
    · exact Prim.bad
  · exact Prim.bad
theorem se_rev (k : XOk X Z) {a : Expr} {f : Fv} {kk : Nat} {p1 p2 p3 pos : Pos} (ha : PE X a (tE Z Wx f)) :
    PE X (.Subscript a (.Slice none none (some (.UnaryOp .USub (.Constant (.int 1) kk p1) p2)) p3) pos) (tE Z Wx fun sw M => (f sw M).bind fun x M => revW false x M) :=
  (pe_revL ha).weak fun σ H Q ⟨ι, sw, M, s, R, h⟩ => tE.seqE s R h fun x M1 v H1 ι1 e1 R1 q1 s1 h1 => by
    cases q1 with
    | ref hr =>
      have h2 := (prim_rev _ _ _).out h1
      simp only [revW] at h2
      split at h2
      · rename_i ws hM
        obtain ⟨vs, e1, e2⟩ := R1.ob _ _ _ hM hr
        exact ⟨_, vs, rfl, SqL.of e1, fun p hp => rOut.lst h2 R1 e2.rev hp⟩
      · exact False.elim h2
    | _ => exact False.elim h1
/-! ### xs[:0:-1] -/
theorem down_range (n : Nat) : (List.range (n - 1)).map (fun k => n - 1 - k) = ((List.range (n - 1)).map (1 + ·)).reverse := by
  apply List.ext_getElem
  · simp
  · intro i h1 h2
    simp at h1 h2
    rw [List.getElem_map, List.getElem_reverse, List.getElem_map]
    simp
    omega
theorem down_sliceRange (n : Nat) : sliceRange ((n : Int) - 1) (max (-1) (min 0 ((n : Int) - 1))) (-1) = (List.range (n - 1)).map fun k => n - 1 - k := by
  unfold sliceRange
  have h1 : ¬ ((-1 : Int) > 0) := by decide
  cases n with
  | zero => decide
  | succ m =>
    have e0 : max (-1) (min 0 (((m + 1 : Nat) : Int) - 1)) = 0 := by omega
    rw [e0]
    by_cases h : ((m + 1 : Nat) : Int) - 1 > 0
    · have e : (((m + 1 : Nat) : Int) - 1 - 0 - -1 - 1) / (- -1) = (m : Int) := by
        rw [show (- -1 : Int) = 1 by decide, Int.ediv_one]
        omega
      simp only [h1, if_false, h, if_true, e, Int.toNat_natCast]
      show _ = (List.range m).map _
      apply List.map_congr_left
      intro k hk
      have := List.mem_range.mp hk
      omega
    · have e : m = 0 := by omega
      subst e
      simp
theorem pick_down (its : List Value) : slicePick its.toArray none (some 0) (some (-1)) = its.tail.reverse.toArray := by
  unfold slicePick
  have e : sliceBounds none (some 0) (some (-1)) its.toArray.size = ((its.toArray.size : Int) - 1, max (-1) (min 0 ((its.toArray.size : Int) - 1)), -1) := by
    first | rfl | simp [sliceBounds]
  rw [e]
  show ((sliceRange ((its.toArray.size : Int) - 1) (max (-1) (min 0 ((its.toArray.size : Int) - 1))) (-1)).filterMap (its.toArray[·]?)).toArray = _
  rw [down_sliceRange, down_range, List.filterMap_reverse]
  have h := pick_run its.toArray 1 (its.toArray.size - 1)
  rw [h]
  have : (its.toArray.toList.drop 1).take (its.toArray.size - 1) = its.tail := by
    cases its with
    | nil => rfl
    | cons x xs => simp
  rw [this]
theorem pe_downL {e : Expr} {te : TE} {k k2 : Nat} {p0 p1 p2 p3 pos : Pos} (he : PE X e te) : PE X (.Subscript e (.Slice none (some (.Constant (.int 0) k2 p0)) (some (.UnaryOp .USub (.Constant (.int 1) k p1) p2)) p3) pos)
    (fun σ H Q => te σ H fun x H1 => ∃ a xs, x = .ref a ∧ SqL X.K H1 a xs ∧ ∀ p, H1 p = none → Q (.ref p) (upd H1 p (.lst xs.tail.reverse))) := by
  refine ⟨fun pins s σ H Q I h => ?_⟩
  refine Subscript_ (thn (he.run pins s σ H _ I h) fun v s1 ⟨x, H1, I1, r1, q1⟩ => ?_)
  obtain ⟨a, xs, ex, hx, q⟩ := q1
  subst ex
  cases r1
  have hst : PO X (some (.UnaryOp .USub (.Constant (.int 1) k p1) p2)) (tPart (tUn (rU fun i => .int (-i)) (tC (.int 1)))) := po_some (pe_un un_neg pe_int)
  have hup : PO X (some (.Constant (.int 0) k2 p0)) (tPart (tC (.int 0))) := po_some pe_int
  refine wpAny_Slice (thn (po_none.run pins s1 σ H1 (fun o H2 => o = none ∧ H2 = H1) I1 ⟨rfl, rfl⟩) fun vl s2 ⟨l, H2, I2, pl, el, e2⟩ => ?_)
  subst el e2
  refine thn (hup.run pins s2 σ H2 (fun o H3 => o = some 0 ∧ H3 = H2) I2 ⟨0, rfl, rfl, rfl⟩) fun vu s3 ⟨u, H3, I3, pu, eu, e3⟩ => ?_
  subst eu e3
  refine thn (hst.run pins s3 σ H3 (fun o H4 => o = some (-1) ∧ H4 = H3) I3 ⟨1, rfl, -1, rfl, rfl, rfl⟩) fun vs s4 ⟨o, H4, I4, ps, eo, e4⟩ => ?_
  subst eo e4
  have I5 : L2.Inv X pins σ H4 { s4 with heap := s4.heap.push { cls := .type "slice", data := .fields #[vl, vu, vs] } } := I4.kept (t' := s4.toks) fun b ob q => Heap.get?_push_of_some _ q
  obtain ⟨its, r, ht, hz⟩ := I5.list hx
  have hlen := r.length
  show wpAny (model X.prog X.w) X.A (subscriptTail e (.Slice none (some (.Constant (.int 0) k2 p0)) (some (.UnaryOp .USub (.Constant (.int 1) k p1) p2)) p3) (.ref a) (.ref s4.heap.objs.size)) (EP X pins σ Q) X.xe { s4 with heap := s4.heap.push { cls := .type "slice", data := .fields #[vl, vu, vs] } }
  refine tail_any (ops := [.ref a, .ref s4.heap.objs.size]) ht.isList.typeIs (PySem.slot_list_getitem.lookup) ?_ (by with_unfolding_all rfl)
  refine wpAny_getItem_list_slice ht.isList (Heap.IsSliceOf.new _ vl vu vs) pl pu ps (by decide) ?_ (by rw [List.size_toArray]; omega)
  rw [pick_down]
  have rt : Vals xs.tail its.tail := by
    cases r with
    | nil => exact .nil
    | cons _ t => exact t
  refine ⟨.ref _, _, I5.laid (t' := s4.toks) (o := .lst xs.tail.reverse) (fun b ob q => Heap.get?_push_of_some _ q) (Nat.le_refl _) ?_, rfl, q _ (I5.hok.fresh (Nat.le_refl _))⟩
  exact ⟨by rw [List.length_reverse, List.length_tail]; omega, _, 0, rt.reverse, Heap.get?_push_size _ rfl⟩
theorem WsR.tail {ws : List Wv} {vs : List V} (r : WsR Z ι H ws vs) : WsR Z ι H ws.tail vs.tail := by
  cases r with
  | nil => exact .nil
  | cons _ t => exact t
theorem se_down (k : XOk X Z) {a : Expr} {f : Fv} {kk k2 : Nat} {p0 p1 p2 p3 pos : Pos} (ha : PE X a (tE Z Wx f)) :
    PE X (.Subscript a (.Slice none (some (.Constant (.int 0) k2 p0)) (some (.UnaryOp .USub (.Constant (.int 1) kk p1) p2)) p3) pos) (tE Z Wx fun sw M => (f sw M).bind fun x M => revW true x M) :=
  (pe_downL ha).weak fun σ H Q ⟨ι, sw, M, s, R, h⟩ => tE.seqE s R h fun x M1 v H1 ι1 e1 R1 q1 s1 h1 => by
    cases q1 with
    | ref hr =>
      have h2 := (prim_rev _ _ _).out h1
      simp only [revW] at h2
      split at h2
      · rename_i ws hM
        obtain ⟨vs, e1, e2⟩ := R1.ob _ _ _ hM hr
        exact ⟨_, vs, rfl, SqL.of e1, fun p hp => rOut.lst h2 R1 e2.tail.rev hp⟩
      · exact False.elim h2
    | _ => exact False.elim h1
/-! ### {} -/
theorem se_dict0 {pos : Pos} : PE X (.Dict [] [] pos) (tE Z Wx fun _ M => .ok (.ref M.length) (M ++ [.dct false []])) := by
  refine ⟨fun pins s σ H Q I ⟨ι, sw, M, sr, R, h⟩ => wpAny_Dict_empty ?_⟩
  have hp : H s.heap.objs.size = none := I.hok.fresh (Nat.le_refl _)
  have e1 : (s.heap.push { cls := .type "dict", data := .dict #[] }).get? s.heap.objs.size = some { cls := .type "dict", data := .dict #[] } := Heap.get?_push_size _ rfl
  refine ⟨.ref s.heap.objs.size, _, I.laid (a := s.heap.objs.size) (o := DctO s.heap.objs.size { cls := .type "dict", data := .dict #[] }) (t' := s.toks) (fun _ _ q => Heap.get?_push_of_some _ q) (Nat.le_refl _) (DctR.ok_new e1), rfl, ?_⟩
  have ex := Ext.alloc (ho := DctO s.heap.objs.size { cls := .type "dict", data := .dict #[] }) ι hp
  refine h (.ref s.heap.objs.size) _ (ι ++ [s.heap.objs.size]) ex (R.alloc hp ?_) (.ref (snoc_ix R _))
  exact ⟨_, #[], 0, upd_same, ⟨rfl, rfl, rfl⟩, rfl, beq_eq_false_iff_ne.mpr (Ne.symm (Nat.ne_of_lt I.big)), Nat.zero_le _, List.nodup_nil, .inl rfl, .nil⟩
end
end MP
end
section
set_option Elab.async false
set_option linter.all false
set_option maxRecDepth 100000
/-! MP8: built-ins by name. -/
namespace MP
open PySem PySem.Spec PyProof.Rows L2
section
variable {Z : Zt} {X : Cx} {G : Pg} {ι : List Addr} {H : Hp} {M : Mem}
theorem WsR.one {w : Wv} {xs : List V} (r : WsR Z ι H [w] xs) : ∃ x, xs = [x] ∧ WR Z ι H w x := by
  cases r with
  | cons h t => cases t; exact ⟨_, rfl, h⟩
theorem WsR.two {w u : Wv} {xs : List V} (r : WsR Z ι H [w, u] xs) : ∃ x y, xs = [x, y] ∧ WR Z ι H w x ∧ WR Z ι H u y := by
  cases r with
  | cons h t =>
    obtain ⟨y, rfl, hy⟩ := t.one
    exact ⟨_, _, rfl, h, hy⟩
theorem lstOf_at {x : Wv} {ws : List Wv} {v : V} (R : RM Z ι M H) (wx : WR Z ι H x v) (e : lstOf x M = some ws) : ∃ a vs, v = .ref a ∧ H a = some (.lst vs) ∧ WsR Z ι H ws vs := by
  unfold lstOf at e
  cases wx with
  | ref h =>
    simp only at e
    split at e
    · rename_i us hM
      cases e
      obtain ⟨vs, h1, h2⟩ := R.ob _ _ _ hM h
      exact ⟨_, vs, rfl, h1, h2⟩
    · cases e
  | _ => cases e
theorem bls_rel : ∀ {ws : List Wv} {vs : List V} {bs : List Bool}, WsR Z ι H ws vs → bls ws = some bs → vs = bs.map V.bl
  | _, _, _, .nil, e => by cases e; rfl
  | _, _, _, .cons h t, e => by
    unfold bls mapO at e
    split at e
    · rename_i b bs' e1 e2
      cases e
      have ih := bls_rel t (show bls _ = some bs' from e2)
      cases h <;> first | (cases e1; rw [ih]; rfl) | (cases e1)
    · cases e
theorem ints_rel : ∀ {ws : List Wv} {vs : List V} {ns : List Int}, WsR Z ι H ws vs → intsW ws = some ns → vs = ns.map V.int
  | _, _, _, .nil, e => by cases e; rfl
  | _, _, _, .cons h t, e => by
    unfold intsW mapO at e
    split at e
    · rename_i b bs' e1 e2
      cases e
      have ih := ints_rel t (show intsW _ = some bs' from e2)
      cases h <;> first | (cases e1; rw [ih]; rfl) | (cases e1)
    · cases e
theorem cb_len (k : XOk X Z) (hS : Z.S = G.S) : CallR X (.builtin "len") (rN Z (biW G .len)) := by
  intro pins s σ H xs us Q I r h
  obtain ⟨ι, M, ws, R, wr, h⟩ := h
  cases wr with
  | nil => exact False.elim h
  | cons h1 t1 =>
    cases t1 with
    | cons _ _ => cases h1 <;> exact False.elim h
    | nil =>
      cases h1 with
      | str z =>
        obtain ⟨c, h⟩ := h.chk
        exact call_len pins s σ H _ us Q I r ⟨_, z.length, rfl, ⟨of_decide_eq_true c, rfl⟩, h.val R (.int _)⟩
      | tup ha ta => exact call_len pins s σ H _ us Q I r ⟨_, _, rfl, .inr ⟨_, by rw [k.K]; exact ha, rfl⟩, by rw [← ta.length]; exact rOut.val h R (.int _)⟩
      | scr ha => exact call_len pins s σ H _ us Q I r ⟨_, _, rfl, .inl ⟨_, by rw [k.K]; exact ha.sq, rfl⟩, by rw [List.length_map, hS]; exact rOut.val h R (.int _)⟩
      | ref ha =>
        simp only [biW] at h
        split at h
        · rename_i us' hM
          obtain ⟨vs, e1, e2⟩ := R.ob _ _ _ hM ha
          exact call_len pins s σ H _ us Q I r ⟨_, _, rfl, .inl ⟨vs, SqL.of e1, rfl⟩, by rw [← e2.length]; exact rOut.val h R (.int _)⟩
        · exact False.elim h
      | _ => exact False.elim h
theorem one_arg {F : List Wv → Mem → Out Wv} {xs : List V} {Q : VK} {ws : List Wv} (hF : ∀ ws M, (∀ x, ws ≠ [x]) → F ws M = .bad) (wr : WsR Z ι H ws xs) (h : rOut Z ι H (F ws M) Q) : ∃ w v, ws = [w] ∧ xs = [v] ∧ WR Z ι H w v := by
  cases wr with
  | nil => rw [hF [] M (by simp)] at h; exact False.elim h
  | cons h1 t1 =>
    cases t1 with
    | nil => exact ⟨_, _, rfl, rfl, h1⟩
    | cons h2 t2 => rw [hF _ M (by simp)] at h; exact False.elim h
theorem cb_all (k : XOk X Z) : CallR X (.builtin "all") (rN Z (biW G .all)) := by
  intro pins s σ H xs us Q I r h
  obtain ⟨ι, M, ws, R, wr, h⟩ := h
  obtain ⟨w, v, rfl, rfl, hw⟩ := one_arg (fun ws M hn => by unfold biW; split <;> first | rfl | (rename_i z; simp_all) | simp_all) wr h
  obtain ⟨bs, e, h⟩ := rOut.ofOb h
  obtain ⟨zs, e1, e2⟩ := Option.bind_eq_some_iff.mp e
  obtain ⟨a, vs, rfl, h1, h2⟩ := lstOf_at R hw e1
  have := bls_rel h2 e2
  subst this
  exact cr_all k.calm pins s σ H _ us Q I r ⟨a, bs, rfl, SqL.of h1, h.val R (.bl _)⟩
theorem cb_any (k : XOk X Z) : CallR X (.builtin "any") (rN Z (biW G .any)) := by
  intro pins s σ H xs us Q I r h
  obtain ⟨ι, M, ws, R, wr, h⟩ := h
  obtain ⟨w, v, rfl, rfl, hw⟩ := one_arg (fun ws M hn => by unfold biW; split <;> first | rfl | (rename_i z; simp_all) | simp_all) wr h
  obtain ⟨bs, e, h⟩ := rOut.ofOb h
  obtain ⟨zs, e1, e2⟩ := Option.bind_eq_some_iff.mp e
  obtain ⟨a, vs, rfl, h1, h2⟩ := lstOf_at R hw e1
  have := bls_rel h2 e2
  subst this
  exact cr_any k.calm pins s σ H _ us Q I r ⟨a, bs, rfl, SqL.of h1, h.val R (.bl _)⟩
theorem cb_sum (k : XOk X Z) : CallR X (.builtin "sum") (rN Z (biW G .sum)) := by
  intro pins s σ H xs us Q I r h
  obtain ⟨ι, M, ws, R, wr, h⟩ := h
  obtain ⟨w, v, rfl, rfl, hw⟩ := one_arg (fun ws M hn => by unfold biW; split <;> first | rfl | (rename_i z; simp_all) | simp_all) wr h
  obtain ⟨bs, e, h⟩ := rOut.ofOb h
  obtain ⟨zs, e1, e2⟩ := Option.bind_eq_some_iff.mp e
  obtain ⟨a, vs, rfl, h1, h2⟩ := lstOf_at R hw e1
  have := ints_rel h2 e2
  subst this
  exact cr_sum k.calm pins s σ H _ us Q I r ⟨a, bs, rfl, SqL.of h1, h.val R (.int _)⟩
theorem cb_abs : CallR X (.builtin "abs") (rN Z (biW G .abs)) := by
  intro pins s σ H xs us Q I r h
  obtain ⟨ι, M, ws, R, wr, h⟩ := h
  obtain ⟨w, v, rfl, rfl, hw⟩ := one_arg (fun ws M hn => by unfold biW; split <;> first | rfl | (rename_i z; simp_all) | simp_all) wr h
  cases hw with
  | int i => exact call_abs pins s σ H _ us Q I r ⟨i, rfl, rOut.val h R (.int _)⟩
  | _ => exact False.elim h
end
end MP
end
section
set_option Elab.async false
set_option linter.all false
set_option maxRecDepth 100000
/-! MP9: sorted, list, min, max. -/
namespace MP
open PySem PySem.Spec PyProof.Rows L2
section
variable {Z : Zt} {X : Cx} {G : Pg} {ι : List Addr} {H : Hp} {M : Mem} {pins : List (Addr × Obj)} {σ : L2.St} {s : Shared}
theorem mapO_dp {ws : List Wv} {vs : List V} {ds : List PyData} (hS : Z.S = G.S) (R : RM Z ι M H) (r : WsR Z ι H ws vs) (e : mapO (toD G.S M deepD) ws = some ds) : DpAll Z.K H vs ds ∧ ds.length = ws.length := by
  induction ws generalizing vs ds with
  | nil => cases r; cases e; exact ⟨.nil, rfl⟩
  | cons w ws ih =>
    cases r with
    | cons h t =>
      simp only [mapO] at e
      split at e
      · rename_i d ds' e1 e2
        cases e
        obtain ⟨i1, i2⟩ := ih t e2
        exact ⟨.cons (toD_dp hS R _ h e1) i1, by simp [i2]⟩
      · cases e
/-- data, the value told, the value -/
abbrev Tri := PyData × Wv × V
theorem tri_each {ws : List Wv} {vs : List V} {us : List Value} {ds : List PyData} (r : WsR Z ι H ws vs) (rv : Vals vs us) (hl : ds.length = ws.length) (rd : W.EachIs (fun u d => ∃ as, Reads s.heap u d as) us ds) :
    ∃ bs : List Tri, bs.map (·.1) = ds ∧ bs.map (·.2.1) = ws ∧ bs.map (fun b => (b.1, b.2.1)) = ds.zip ws ∧ (∀ b ∈ bs, WR Z ι H b.2.1 b.2.2) ∧ W.EachIs (fun u (b : Tri) => RelV b.2.2 u) us bs ∧ W.EachIs (fun u (b : Tri) => ∃ as, Reads s.heap u b.1 as) us bs := by
  induction ws generalizing vs us ds with
  | nil =>
    cases r; cases rv
    cases rd
    exact ⟨[], rfl, rfl, rfl, by simp, .nil, .nil⟩
  | cons w ws ih =>
    cases r with
    | cons h t =>
      cases rv with
      | cons h2 t2 =>
        cases rd with
        | cons h3 t3 =>
          obtain ⟨bs, e1, e2, e3, e4, e5, e6⟩ := ih t t2 (by simpa using hl) t3
          refine ⟨(_, w, _) :: bs, by simp [e1], by simp [e2], by simp [e3], fun b hb => ?_, .cons h2 e5, .cons h3 e6⟩
          rcases List.mem_cons.mp hb with z | z
          · subst z; exact h
          · exact e4 b z
theorem readsAll_each' {h : Heap} : ∀ {us : List Value} {ds : List PyData} {as : List Addr}, ReadsAll h us ds as → W.EachIs (fun u d => ∃ as, Reads h u d as) us ds
  | _, [], _, r => by cases r; exact .nil
  | _, d :: ds, _, r => by
    cases r with
    | cons h1 h2 => exact .cons ⟨_, h1⟩ (readsAll_each' h2)
theorem alikeAll_of {ds : List PyData} (h : alikeAllB ds = true) : W.AllAlike ds := fun d hd d' hd' => by
  unfold alikeAllB at h
  rw [List.all_eq_true] at h
  have := h d hd
  rw [List.all_eq_true] at this
  exact this d' hd'
theorem sortable_of {ds : List PyData} (h : sortableB ds = true) : W.Sortable ds := by
  unfold sortableB at h
  rw [Bool.or_eq_true, List.all_eq_true, List.all_eq_true] at h
  rcases h with h | h
  · refine .inl fun d hd => ?_
    have := h d hd
    split at this
    · exact ⟨_, _, rfl⟩
    · cases this
  · refine .inr fun d hd => ?_
    have := h d hd
    refine ⟨fun e => ?_, fun xs e => ?_⟩
    · rw [e] at this; cases this
    · rw [e] at this; cases this
theorem dcap_le {ds : List PyData} (h : ds.all dcap = true) {d : PyData} (hd : d ∈ ds) : d.depth ≤ 32 := by
  rw [List.all_eq_true] at h
  exact of_decide_eq_true (h d hd)
theorem ws_sorted {bs : List Tri} (hw : ∀ b ∈ bs, WR Z ι H b.2.1 b.2.2) : WsR Z ι H (bs.map (·.2.1)) (bs.map (·.2.2)) := by
  induction bs with
  | nil => exact .nil
  | cons b bs ih => exact .cons (hw b List.mem_cons_self) (ih fun c hc => hw c (List.mem_cons_of_mem _ hc))
theorem each_vals {bs : List Tri} : ∀ {us : List Value}, W.EachIs (fun u (b : Tri) => RelV b.2.2 u) us bs → Vals (bs.map (·.2.2)) us := by
  induction bs with
  | nil => intro us h; cases h; exact .nil
  | cons b bs ih =>
    intro us h
    cases h with
    | cons h1 t1 => exact .cons h1 (ih t1)
theorem sortBy_tri {bs : List Tri} {out : List Wv} (e : sortBy (bs.map (·.1)) (bs.map (·.2.1)) = some out) :
    alikeAllB (bs.map (·.1)) = true ∧ sortableB (bs.map (·.1)) = true ∧ (bs.map (·.1)).all dcap = true ∧ out = (bs.mergeSort (W.dataLe false fun b : Tri => b.1)).map (·.2.1) := by
  unfold sortBy at e
  split at e
  · rename_i c
    rw [Bool.and_eq_true, Bool.and_eq_true] at c
    refine ⟨c.1.1, c.1.2, c.2, ?_⟩
    cases e
    have ez : (bs.map (·.1)).zip (bs.map (·.2.1)) = bs.map fun b => (b.1, b.2.1) := by
      rw [List.zip_map']
    rw [ez]
    have := W.sort_maps (r := W.dataLe false fun b : Tri => b.1) (s := fun a b => W.dataLe false (fun p : PyData × Wv => p.1) a b) (fun b : Tri => (b.1, b.2.1)) (l := bs) (fun _ _ _ _ => rfl)
    rw [← this, List.map_map]
    rfl
  · cases e
theorem depth_cap (k : XOk X Z) {bs : List Tri} (h : (bs.map (·.1)).all dcap = true) : ∀ b, b ∈ bs → X.A.units + 2 + b.1.depth < cLine := fun b hb => by
  have := dcap_le h (List.mem_map.mpr ⟨b, hb, rfl⟩)
  have := k.un
  omega
theorem newL_ok {o : Option (List Wv)} {Q : VK} (h : rOut Z ι H (newL o M) Q) : ∃ ws, o = some ws ∧ ws.length ≤ sizeLine ∧ rOut Z ι H (.ok (.ref M.length) (M ++ [.lst ws])) Q := by
  unfold newL at h
  cases o with
  | none => exact False.elim h
  | some ws =>
    obtain ⟨c, h⟩ := rOut.chk h
    exact ⟨ws, rfl, of_decide_eq_true c, h⟩
theorem prim_newL (o : Option (List Wv)) (M : Mem) : Prim (newL o M) := by
  unfold newL
  split
  · exact Prim.ok.chk
  · exact Prim.bad
/-- what stands still of a dict -/
theorem DctR.raw {a : Addr} {z : Bool} {kvs : List (Wv × Wv)} (I : L2.Inv X pins σ H s) (D : DctR Z ι H a z kvs) : ∃ es ep, s.heap.DictRaw a es ep ∧ (a == sysModules) = false ∧ es.size ≤ sizeLine ∧ Paired (EnR Z ι H) kvs es.toList := by
  obtain ⟨o, es, ep, h1, h2, h3, h4, h5, h6, h7, h8⟩ := D
  refine ⟨es, ep, ⟨o, MP.Inv.dctO I h1, h2, h3⟩, h4, ?_, h8⟩
  have := Paired.length h8
  have h9 : es.toList.length = es.size := Array.length_toList
  omega
theorem keys_items {kvs : List (Wv × Wv)} {es : Array DictEntry} {acc : Array Value} (r : Paired (EnR Z ι H) kvs es.toList) (h : ItemsOf (fun i v => ∃ hi : i < es.size, v = es[i].key) acc es.size) : ∃ vs, WsR Z ι H (kvs.map (·.1)) vs ∧ Vals vs acc.toList := by
  have e : acc.toList = es.toList.map (·.key) := by
    apply List.ext_getElem
    · rw [Array.length_toList, List.length_map, Array.length_toList]; exact h.1
    · intro i h1 h2
      have hi : i < acc.size := by simpa using h1
      obtain ⟨hi2, q⟩ := h.2 i acc[i] (by simp [hi])
      simpa using q
  rw [e]
  clear e h
  generalize es.toList = el at r
  induction r with
  | nil => exact ⟨[], .nil, .nil⟩
  | cons h t ih =>
    obtain ⟨vs, i1, i2⟩ := ih
    obtain ⟨kv, vv, h1, h2, h3, h4, h5⟩ := h
    exact ⟨kv :: vs, .cons h2 i1, .cons h1 i2⟩
theorem vals_items {kvs : List (Wv × Wv)} {es : Array DictEntry} {acc : Array Value} (r : Paired (EnR Z ι H) kvs es.toList) (h : ItemsOf (fun i v => ∃ hi : i < es.size, v = es[i].val) acc es.size) : ∃ vs, WsR Z ι H (kvs.map (·.2)) vs ∧ Vals vs acc.toList := by
  have e : acc.toList = es.toList.map (·.val) := by
    apply List.ext_getElem
    · rw [Array.length_toList, List.length_map, Array.length_toList]; exact h.1
    · intro i h1 h2
      have hi : i < acc.size := by simpa using h1
      obtain ⟨hi2, q⟩ := h.2 i acc[i] (by simp [hi])
      simpa using q
  rw [e]
  clear e h
  generalize es.toList = el at r
  induction r with
  | nil => exact ⟨[], .nil, .nil⟩
  | cons h t ih =>
    obtain ⟨vs, i1, i2⟩ := ih
    obtain ⟨kv, vv, h1, h2, h3, h4, h5⟩ := h
    exact ⟨vv :: vs, .cons h4 i1, .cons h3 i2⟩
theorem cb_list (k : XOk X Z) (hS : Z.S = G.S) : CallR X (.type "list") (rN Z (biW G .list)) := by
  intro pins s σ H xs us Q I r h
  obtain ⟨ι, M, ws, R, wr, h⟩ := h
  obtain ⟨w, v, rfl, rfl, hw⟩ := one_arg (fun ws M hn => by unfold biW; split <;> first | rfl | (rename_i z; simp_all) | simp_all) wr h
  obtain ⟨ys, e, hz, h2⟩ := newL_ok h
  unfold itemsOf at e
  cases hw with
  | tup ha ta => cases e; exact call_list_of pins s σ H _ us Q I r ⟨_, _, rfl, .inr (by rw [k.K]; exact ha), fun p hp => h2.lst R ta hp⟩
  | scr ha => cases e; exact call_list_of pins s σ H _ us Q I r ⟨_, _, rfl, .inl (by rw [k.K]; exact ha.sq), fun p hp => h2.lst R (by rw [hS]; exact WsR.ints _) hp⟩
  | ref ha =>
    simp only at e
    split at e
    · rename_i zs hM
      cases e
      obtain ⟨vs, e1, e2⟩ := R.ob _ _ _ hM ha
      exact call_list_of pins s σ H _ us Q I r ⟨_, _, rfl, .inl (SqL.of e1), fun p hp => h2.lst R e2 hp⟩
    · rename_i kvs hM
      cases e
      obtain ⟨es, ep, d1, d2, d3, d4⟩ := DctR.raw I (R.ob _ _ _ hM ha)
      obtain ⟨u, rfl, rx⟩ := vals1 r
      cases rx
      refine PySem.W.kdl_call (KdlSrc.rawDict d2) (I.ok.hd k.calm) d1 d3 fun h' tk acc c' hk hg hit => ?_
      obtain ⟨vs, v1, v2⟩ := keys_items d4 hit
      have hl : vs.length ≤ sizeLine := by rw [← v1.length]; exact hz
      exact ⟨.ref s.heap.objs.size, _, I.laid (t' := tk) hk (Nat.le_refl _) (show ObjOk X.prog X.w _ h' _ (.lst vs) from ⟨hl, acc.toList, c', v2, by simpa using hg⟩), rfl, h2.lst R v1 (I.hok.fresh (Nat.le_refl _))⟩
    · cases e
  | _ => cases e
theorem sort_fin {Q : VK} {ws : List Wv} {vs : List V} {out : List Wv} {us : List Value} {ds : List PyData} (k : XOk X Z) (hS : Z.S = G.S) (I : L2.Inv X pins σ H s) (R : RM Z ι M H) (r : WsR Z ι H ws vs) (rv : Vals vs us) (ed : mapO (toD G.S M deepD) ws = some ds) (es : sortBy ds ws = some out) :
    ∃ bs : List Tri, W.EachIs (fun u (b : Tri) => RelV b.2.2 u) us bs ∧ W.EachIs (fun u (b : Tri) => ∃ as, Reads s.heap u b.1 as) us bs ∧ W.AllAlike (bs.map (·.1)) ∧ W.Sortable (bs.map (·.1)) ∧ bs.length = ws.length ∧ (∀ b, b ∈ bs → X.A.units + 2 + b.1.depth < cLine) ∧
      ∀ o : List Value, W.EachIs (fun u (b : Tri) => RelV b.2.2 u) o (bs.mergeSort (W.dataLe false fun b : Tri => b.1)) → ∃ vs', WsR Z ι H out vs' ∧ Vals vs' o := by
  obtain ⟨dp, hl⟩ := mapO_dp hS R r ed
  obtain ⟨as, ra⟩ := Dp.readsAll I ds vs us (by rw [k.K]; exact dp) rv
  obtain ⟨bs, e1, e2, e3, e4, e5, e6⟩ := tri_each r rv hl (readsAll_each' ra)
  obtain ⟨a1, a2, a3, a4⟩ := sortBy_tri (bs := bs) (out := out) (by rw [e1, e2]; exact es)
  refine ⟨bs, e5, e6, alikeAll_of a1, sortable_of a2, by rw [← e2, List.length_map], depth_cap k a3, fun o ho => ⟨_, ?_, each_vals ho⟩⟩
  rw [a4]
  exact ws_sorted fun b hb => e4 b ((List.mergeSort_perm _ _).mem_iff.mp hb)
theorem cb_sorted (k : XOk X Z) (hS : Z.S = G.S) : CallR X (.builtin "sorted") (rN Z (biW G .sorted)) := by
  intro pins s σ H xs us Q I r h
  obtain ⟨ι, M, ws, R, wr, h⟩ := h
  obtain ⟨w, v, rfl, rfl, hw⟩ := one_arg (fun ws M hn => by unfold biW; split <;> first | rfl | (rename_i z; simp_all) | simp_all) wr h
  obtain ⟨out, e, hz, h2⟩ := newL_ok h
  obtain ⟨ys, e0, e⟩ := Option.bind_eq_some_iff.mp e
  obtain ⟨ds, ed, es⟩ := Option.bind_eq_some_iff.mp e
  obtain ⟨u, rfl, rx⟩ := vals1 r
  have lst : ∀ (a : Addr) (vs : List V), v = .ref a → SqL X.K H a vs → WsR Z ι H ys vs → wpAny (model X.prog X.w) X.A (call (.builtin "sorted") [u]) (EP X pins σ Q) X.xe s := by
    intro a vs ev hsq hws
    subst ev
    cases rx
    obtain ⟨its, rv, hl, hzz⟩ := I.list hsq
    obtain ⟨bs, b1, b2, b3, b4, b5, b6, b7⟩ := sort_fin (Q := Q) k hS I R hws rv ed es
    refine PySem.W.sorted_data (enc := fun b : Tri => b.1) hl.isList b1 b2 b3 b4 (by rw [b5, hws.length]; exact hzz) b6 fun o ho eo => ?_
    obtain ⟨vs', w1, w2⟩ := b7 o eo
    obtain ⟨ep, he'⟩ := PyProof.Rows.sortedAll_at s.heap its o.toArray
    exact ⟨.ref _, _, I.laid (t' := s.toks) (fun _ _ => PyProof.Rows.sortedAll_old) (Nat.le_succ _) (show ObjOk X.prog X.w _ _ _ (.lst vs') from ⟨by rw [← w1.length]; exact hz, o, ep, w2, he'⟩), rfl, h2.lst R w1 (I.hok.fresh (Nat.le_succ _))⟩
  unfold itemsS itemsOf at e0
  cases hw with
  | scr ha => cases e0; exact lst _ _ rfl (by rw [k.K]; exact ha.sq) (by rw [hS]; exact WsR.ints _)
  | ref ha =>
    simp only at e0
    split at e0
    · rename_i zs hM
      cases e0
      obtain ⟨vs, e1, e2⟩ := R.ob _ _ _ hM ha
      exact lst _ vs rfl (SqL.of e1) e2
    · rename_i kvs hM
      cases e0
      obtain ⟨es', ep, d1, d2, d3, d4⟩ := DctR.raw I (R.ob _ _ _ hM ha)
      cases rx
      refine PySem.Calls.call_function_entry kind_sorted plain_sorted entry_sorted (args_sorted1 _) ?_
      unfold Builtin.«sorted»
      refine wpAny_bind (m := checkCount "sorted" 1 1 _) (wpAny_pure ?_)
      refine wpAny_bind (PySem.W.kdu_collect (A := X.A.in1) (KdlSrc.rawDict d2) (I.ok.hd k.calm) d1 d3 fun h' tk acc hk hacc => ?_)
      obtain ⟨vs, v1, v2⟩ := keys_items d4 hacc
      have hl : acc.toList.length ≤ sizeLine := by rw [Array.length_toList, hacc.1]; exact d3
      refine wpAny_bind (wpAny_newList ?_ hl)
      have I1 : L2.Inv X pins σ H { s with heap := h'.push { cls := .type "list", data := .seq acc.toList.toArray }, toks := tk } := I.kept (t' := tk) fun b o q => Heap.get?_push_of_some _ (hk b o q)
      have I0 : L2.Inv X pins σ H { s with heap := h', toks := tk } := I.kept (t' := tk) hk
      obtain ⟨bs, b1, b2, b3, b4, b5, b6, b7⟩ := sort_fin (Q := Q) k hS I0 R v1 v2 ed es
      have ho : (h'.push { cls := .type "list", data := .seq acc.toList.toArray }).get? h'.objs.size = some (seqObj "list" acc.toList.toArray 0) := Heap.get?_push_size _ rfl
      have b2' : W.EachIs (fun u (b : Tri) => ∃ as, Reads (h'.push { cls := .type "list", data := .seq acc.toList.toArray }) u b.1 as ∧ h'.objs.size ∉ as) acc.toList bs := by
        refine b2.mono fun u b ⟨as, q⟩ => ⟨as, PyProof.Rows.Reads.keeps (fun _ _ z => Heap.get?_push_of_some _ z) q, fun hm => ?_⟩
        obtain ⟨ob, q⟩ := PyProof.On.reads_mem_get q _ hm
        exact absurd (Heap.lt_size q) (Nat.lt_irrefl _)
      have hb6 : ∀ b, b ∈ bs → X.A.in1.units + 1 + b.1.depth < cLine := fun b hb => by
        have := b6 b hb
        show X.A.units + 1 + 1 + _ < _
        omega
      refine wpAny_bind (wpAny_holding (PySem.W.list_sort_data (s := { s with heap := h'.push { cls := .type "list", data := .seq acc.toList.toArray }, toks := tk }) (A := X.A.in1) (enc := fun b : Tri => b.1) ho b1 b2' b3 b4 (by rw [b5, v1.length, v2.length]; exact hl) hb6 fun o hol eo => wpAny_pure ⟨_, rfl, ?_⟩))
      obtain ⟨vs', w1, w2⟩ := b7 o eo
      obtain ⟨ep2, he'⟩ := PyProof.Rows.sortedHeap_at (out := o.toArray) ho
      have hsz : h'.objs.size < (h'.push { cls := .type "list", data := .seq acc.toList.toArray }).objs.size := Heap.lt_size ho
      refine ⟨.ref h'.objs.size, _, I0.laid (t' := tk) (a := h'.objs.size) (o := .lst vs') (fun b ob q => ?_) (Nat.le_refl _) ⟨by rw [← w1.length]; exact hz, o, ep2, w2, he'⟩, rfl, h2.lst R w1 (I0.hok.fresh (Nat.le_refl _))⟩
      have hb := Heap.lt_size q
      rw [PyProof.Rows.sortedHeap_old (Nat.ne_of_lt hb) (Nat.lt_trans hb hsz)]
      exact Heap.get?_push_of_some _ q
    · cases e0
  | _ => cases e0
/-! ### min, max -/
mutual
theorem ofD_toD {S : List Int} : ∀ (n : Nat) {w w' : Wv} {d : PyData}, toD S M n w = some d → ofD d = some w' → w' = w
  | n, .non, _, _, e, f => by simp only [toD] at e; cases e; cases f; rfl
  | n, .bl b, _, _, e, f => by simp only [toD] at e; cases e; cases f; rfl
  | n, .int b, _, _, e, f => by simp only [toD] at e; cases e; cases f; rfl
  | n, .str b, _, _, e, f => by simp only [toD] at e; cases e; cases f; rfl
  | n, .scr, _, _, e, f => by simp only [toD] at e; cases e; cases f
  | 0, .tup ws, _, _, e, f => by simp only [toD] at e; cases e
  | n + 1, .tup ws, _, _, e, f => by
    simp only [toD] at e
    obtain ⟨ds, e1, rfl⟩ := Option.map_eq_some_iff.mp e
    simp only [ofD] at f
    obtain ⟨us, f1, rfl⟩ := Option.map_eq_some_iff.mp f
    rw [ofDs_toDs n e1 f1]
  | 0, .ref l, _, _, e, f => by simp only [toD] at e; cases e
  | n + 1, .ref l, _, _, e, f => by
    simp only [toD] at e
    split at e
    · obtain ⟨ds, e1, rfl⟩ := Option.map_eq_some_iff.mp e
      cases f
    · cases e
theorem ofDs_toDs {S : List Int} : ∀ (n : Nat) {ws ws' : List Wv} {ds : List PyData}, toDs S M n ws = some ds → ofDs ds = some ws' → ws' = ws
  | n, [], _, _, e, f => by simp only [toDs] at e; cases e; cases f; rfl
  | n, w :: ws, _, _, e, f => by
    simp only [toDs] at e
    split at e
    · rename_i d ds e1 e2
      cases e
      simp only [ofDs] at f
      split at f
      · rename_i u us f1 f2
        cases f
        rw [ofD_toD n e1 f1, ofDs_toDs n e2 f2]
      · cases f
    · cases e
end
theorem mapO_at {ws : List Wv} {ds : List PyData} {f : Wv → Option PyData} (e : mapO f ws = some ds) : ∀ {i : Nat} {w : Wv}, ws[i]? = some w → ∃ d, ds[i]? = some d ∧ f w = some d := by
  induction ws generalizing ds with
  | nil => intro i w h; simp at h
  | cons a as ih =>
    intro i w h
    simp only [mapO] at e
    split at e
    · rename_i d ds' e1 e2
      cases e
      cases i with
      | zero => simp at h; subst h; exact ⟨d, rfl, e1⟩
      | succ i => obtain ⟨d', h1, h2⟩ := ih e2 (by simpa using h); exact ⟨d', by simpa using h1, h2⟩
    · cases e
theorem best_ok {mx : Bool} {ds : List PyData} {w : Wv} (h : bestOf mx ds = some w) : ∃ d r, ds = d :: r ∧ W.AlikeAll (d :: r) ∧ PyData.depthAll (d :: r) ≤ 32 ∧ ofD (if mx then W.maxD d r else W.minD d r) = some w := by
  unfold bestOf at h
  split at h
  · cases h
  · rename_i d r
    split at h
    · rename_i c
      rw [Bool.and_eq_true, Bool.and_eq_true] at c
      refine ⟨d, r, rfl, ⟨fun x hx y hy => alikeAll_of c.1.1 x hx y hy, fun x hx e => ?_⟩, ?_, h⟩
      · have := c.1.2
        rw [List.all_eq_true] at this
        have := this x hx
        rw [e] at this
        cases this
      · have hd : ∀ x ∈ d :: r, x.depth ≤ 32 := fun x hx => dcap_le c.2 hx
        clear c h
        generalize d :: r = l at hd
        induction l with
        | nil => simp [PyData.depthAll]
        | cons x xs ih =>
          have h1 := hd x List.mem_cons_self
          have h2 := ih fun y hy => hd y (List.mem_cons_of_mem _ hy)
          simp only [PyData.depthAll]
          omega
    · cases h
/-- the value told, of a value that reads so -/
theorem best_rel {ws : List Wv} {vs : List V} {us : List Value} {ds : List PyData} {w : Wv} {d : PyData} {i : Nat} {u : Value} {bs : List Addr} {h' : Heap} (hS : Z.S = G.S) (k : XOk X Z) (I : L2.Inv X pins σ H s) (R : RM Z ι M H) (r : WsR Z ι H ws vs) (rv : Vals vs us) (ed : mapO (toD G.S M deepD) ws = some ds) (hu : us[i]? = some u)
    (hr : Reads h' u d bs) (hk : ∀ b o, s.heap.get? b = some o → h'.get? b = some o) (hw : ofD d = some w) : ∃ v, RelV v u ∧ WR Z ι H w v := by
  obtain ⟨v, hv, ru⟩ : ∃ v, vs[i]? = some v ∧ RelV v u := by
    clear ed r
    induction rv generalizing i with
    | nil => simp at hu
    | cons h t ih =>
      cases i with
      | zero => simp at hu; subst hu; exact ⟨_, rfl, h⟩
      | succ i => obtain ⟨v, h1, h2⟩ := ih (by simpa using hu); exact ⟨v, by simpa using h1, h2⟩
  obtain ⟨x, hx, wx⟩ := r.get2 hv
  obtain ⟨d', hd', td⟩ := mapO_at ed hx
  obtain ⟨as, r2⟩ := Dp.reads I d' v u (by rw [k.K]; exact toD_dp hS R _ wx td) ru
  have r3 : Reads h' u d' as := PyProof.Rows.Reads.keeps hk r2
  obtain ⟨e, _⟩ := PySem.Reads.unique r3 d bs hr
  subst e
  rw [ofD_toD _ td hw]
  exact ⟨v, ru, wx⟩
theorem max_two_data {A : Around} {E : Value → Shared → Prop} {P : Program} {w : World} {a b : Value} {x y : PyData} {as : List Addr} {Q : Value → Shared → Prop} (hh : A.handled = none) (hr : ReadsAll s.heap [a, b] [x, y] as) (ha : W.AlikeAll [x, y]) (hu : A.units + 1 + PyData.depthAll [x, y] < cLine)
    (h : ∀ (i : Nat) v h' tk bs, [a, b][i]? = some v → Reads h' v (W.maxD x [y]) bs → (∀ b o, s.heap.get? b = some o → h'.get? b = some o) → Q v { s with heap := h', toks := tk }) :
    wpAny (model P w) A (call (.builtin "max") [a, b]) Q E s := by
  have hname : (toString "max" ++ toString ".loop" : String) = "max.loop" := by decide
  refine call_function_tree F.kind_max F.plain_max F.entry_max (F.args_max2 _ _) ?_
  show wpAny _ A.in1 (Builtin.Builtins.bindParams "max" ["key", "default"] 0 ⟨[], []⟩ >>= _) _ _ s
  refine wpAny_bind (wpAny_of_eq (show Builtin.Builtins.bindParams "max" ["key", "default"] 0 ⟨[], []⟩ = pure [none, none] from rfl) ?_)
  show wpAny _ A.in1 (newTuple [a, b] >>= _) _ _ s
  refine wpAny_bind (wpAny_newObj_type ?_)
  have hT : (s.heap.push { cls := .type "tuple", data := .seq #[a, b] }).IsTuple s.heap.objs.size #[a, b] := ⟨_, Heap.get?_push_size _ rfl, rfl, 0, rfl⟩
  have kp : ∀ c o, s.heap.get? c = some o → (s.heap.push { cls := .type "tuple", data := .seq #[a, b] }).get? c = some o := fun _ _ e => Heap.get?_push_of_some _ e
  have hr2 : ReadsAll (s.heap.push { cls := .type "tuple", data := .seq #[a, b] }) (#[a, b] : Array Value).toList [x, y] as := PyProof.Rows.ReadsAll.keeps kp hr
  refine wpAny_bind (W.iter_tupleW (A := A.in1) (s := { s with heap := s.heap.push { cls := .type "tuple", data := .seq #[a, b] } }) hh hT fun s₂ e Wk st hfp hw hk => ?_)
  refine wpAny_bind (wpAny_newObj_type ?_)
  have hSf : s₂.heap.objs.size ∉ [(s.heap.push { cls := .type "tuple", data := .seq #[a, b] }).objs.size, s.heap.objs.size] := fun hm => Nat.lt_irrefl _ (hfp _ hm)
  rw [hname]
  have cmp := PySem.W.cmpIn_gt (prog := P) (w := w) (A := A.in1) (s := { s with heap := s.heap.push { cls := .type "tuple", data := .seq #[a, b] } }) hr2 ha (show A.units + 1 + _ < _ from hu)
  refine wpAny_pure ⟨plainId_quiet F.plain_max_loop _, PySem.codeAny_max_loop_firstH Wk _ hw _ cmp s₂.heap.objs.size hSf (PySem.fresh_in hk) _ (show 0 < 2 by decide) (fun b o e => Heap.get?_push_of_some _ (hk b o e)) (Wk.frame 0 s₂ _ s₂.toks st (Nat.le_refl _) fun b _ o e => Heap.get?_push_of_some _ e) (Heap.get?_push_size _ rfl) fun v s' hP hm => ?_⟩
  have hm2 := PySem.Moved.drop_new (tk := s₂.toks) hm (Nat.le_refl _)
  obtain ⟨h', tk, rfl, hk'⟩ := W.moved_old e rfl hm2
  obtain ⟨bs, r, _, _, _⟩ := W.readsAll_atA hr2 _ v hP
  have e2 := (W.argBest_fold (fun p q => W.dataLt q p) PyData.none x [y] 1 (Nat.le_refl _)).2
  exact h _ v h' tk bs (by simpa using hP) (PyProof.Rows.Reads.keeps hk' (by unfold W.maxD; have e3 : List.take 1 [y] = [y] := rfl; rw [e3] at e2; rw [← e2]; exact r)) fun b o e => hk' b o (kp b o e)
theorem prim_bi (b : Bi) (ws : List Wv) (M : Mem) : Prim (biW G b ws M) := by
  unfold biW
  split <;> first
    | exact Prim.ok
    | exact Prim.ok.chk
    | exact Prim.bad
    | exact Prim.ofO
    | exact prim_newL _ _
    | (split <;> first | exact Prim.ok.chk | exact Prim.bad)
    | exact Prim.ofO.bind fun _ _ => Prim.ok
    | (split <;> first | exact Prim.ok | exact Prim.bad | exact Prim.ok.chk)
theorem biW_min1 (x : Wv) (M : Mem) : biW G .min [x] M = .ofO ((lstOf x M).bind fun ws => (mapO (toD G.S M deepD) ws).bind (bestOf false)) M := by cases x <;> rfl
theorem biW_max1 (x : Wv) (M : Mem) : biW G .max [x] M = .ofO ((lstOf x M).bind fun ws => (mapO (toD G.S M deepD) ws).bind (bestOf true)) M := by cases x <;> rfl
theorem best_list (k : XOk X Z) (hS : Z.S = G.S) {mx : Bool} {v : V} {u : Value} {w : Wv} {x : Wv} {Q : VK} (I : L2.Inv X pins σ H s) (R : RM Z ι M H) (hx : WR Z ι H x v) (ru : RelV v u)
    (e : ((lstOf x M).bind fun ws => (mapO (toD G.S M deepD) ws).bind (bestOf mx)) = some w) (h : rOut Z ι H (.ok w M) Q) : wpAny (model X.prog X.w) X.A (call (.builtin (if mx then "max" else "min")) [u]) (EP X pins σ Q) X.xe s := by
  obtain ⟨ws, e1, e⟩ := Option.bind_eq_some_iff.mp e
  obtain ⟨ds, e2, e⟩ := Option.bind_eq_some_iff.mp e
  obtain ⟨a, vs, rfl, h1, h2⟩ := lstOf_at R hx e1
  cases ru
  obtain ⟨its, rv, hl, hzz⟩ := I.list (SqL.of (K := X.K) h1)
  obtain ⟨d, r, rfl, b1, b2, b3⟩ := best_ok e
  obtain ⟨dp, hlen⟩ := mapO_dp hS R h2 e2
  obtain ⟨as, ra⟩ := Dp.readsAll I _ vs its (by rw [k.K]; exact dp) rv
  have hu : X.A.units + 1 + PyData.depthAll (d :: r) < cLine := by have := k.un; omega
  have fin : ∀ (i : Nat) v' h' tk bs, its.toArray[i]? = some v' → Reads h' v' (if mx then PySem.W.maxD d r else PySem.W.minD d r) bs → (∀ b o, s.heap.get? b = some o → h'.get? b = some o) → EP X pins σ Q v' { s with heap := h', toks := tk } := by
    intro i v' h' tk bs hv hr hk
    obtain ⟨y, ry, wy⟩ := best_rel hS k I R h2 rv e2 (by simpa using hv) hr hk b3
    exact ⟨y, H, I.kept hk, ry, h.val R wy⟩
  cases mx with
  | true => exact PySem.W.max_list_data (I.ok.hd k.calm) hl.isList (by simpa using ra) b1 hu fin
  | false => exact PySem.W.min_list_data (I.ok.hd k.calm) hl.isList (by simpa using ra) b1 hu fin
theorem cb_min (k : XOk X Z) (hS : Z.S = G.S) : CallR X (.builtin "min") (rN Z (biW G .min)) := by
  intro pins s σ H xs us Q I r h
  obtain ⟨ι, M, ws, R, wr, h⟩ := h
  cases wr with
  | nil => exact False.elim h
  | cons h1 t1 =>
    cases t1 with
    | nil =>
      rw [biW_min1] at h
      obtain ⟨w, e, h⟩ := rOut.ofO h
      obtain ⟨u, rfl, ru⟩ := vals1 r
      exact best_list (mx := false) k hS I R h1 ru e h
    | cons h2 t2 =>
      cases t2 with
      | cons h3 t3 => cases h1 <;> cases h2 <;> exact False.elim h
      | nil =>
        cases h1 with
        | int i =>
          cases h2 with
          | int j => exact call_min2 k.calm pins s σ H _ us Q I r ⟨i, j, rfl, rOut.val h R (.int _)⟩
          | _ => exact False.elim h
        | _ => exact False.elim h
theorem cb_max (k : XOk X Z) (hS : Z.S = G.S) : CallR X (.builtin "max") (rN Z (biW G .max)) := by
  intro pins s σ H xs us Q I r h
  obtain ⟨ι, M, ws, R, wr, h⟩ := h
  cases wr with
  | nil => exact False.elim h
  | cons h1 t1 =>
    cases t1 with
    | nil =>
      rw [biW_max1] at h
      obtain ⟨w, e, h⟩ := rOut.ofO h
      obtain ⟨u, rfl, ru⟩ := vals1 r
      exact best_list (mx := true) k hS I R h1 ru e h
    | cons h2 t2 =>
      cases t2 with
      | cons h3 t3 => cases h1 <;> cases h2 <;> exact False.elim h
      | nil =>
        cases h1 with
        | int i =>
          cases h2 with
          | int j => exact call_max2 k.calm pins s σ H _ us Q I r ⟨i, j, rfl, rOut.val h R (.int _)⟩
          | _ => exact False.elim h
        | tup ha ta =>
          cases h2 with
          | tup hb tb =>
            obtain ⟨w, e, hq⟩ := rOut.ofO h
            obtain ⟨ds, e2, e⟩ := Option.bind_eq_some_iff.mp e
            obtain ⟨d, rr, rfl, b1, b2, b3⟩ := best_ok e
            have wr2 := WsR.cons (WR.tup ha ta) (WsR.cons (WR.tup hb tb) WsR.nil)
            obtain ⟨dp, hlen⟩ := mapO_dp hS R wr2 e2
            obtain ⟨as, ra⟩ := Dp.readsAll I _ _ us (by rw [k.K]; exact dp) r
            have hu : X.A.units + 1 + PyData.depthAll (d :: rr) < cLine := by have := k.un; omega
            obtain ⟨u1, u2, rfl, r1, r2⟩ := vals2 r
            match rr, hlen with
            | [y], _ =>
              refine max_two_data (I.ok.hd k.calm) ra b1 hu fun i v' h' tk bs hv hr hk => ?_
              obtain ⟨y, ry, wy⟩ := best_rel hS k I R wr2 r e2 hv hr hk b3
              exact ⟨y, H, I.kept hk, ry, hq.val R wy⟩
            | [], hl => simp at hl
            | _ :: _ :: _, hl => simp at hl
          | _ => exact False.elim h
        | _ => exact False.elim h
end
end MP
end
section
set_option Elab.async false
set_option linter.all false
set_option maxRecDepth 100000
/-! MP10: dict(..), isinstance, methods of lists and dicts, stores. -/
namespace MP
open PySem PySem.Spec PyProof.Rows L2
section
variable {Z : Zt} {X : Cx} {G : Pg} {ι : List Addr} {H : Hp} {M : Mem} {pins : List (Addr × Obj)} {σ : L2.St} {s : Shared} {Wx : Wish}
/-! ### dict(..) -/
theorem pairs_rel (I : L2.Inv X pins σ H s) (k : XOk X Z) : ∀ {ws : List Wv} {vs : List V} {us : List Value} {ps : List (Wv × Wv)}, WsR Z ι H ws vs → Vals vs us → MP.pairs ws = some ps → (ps.all fun p => keyA p.1) = true →
    ∃ prs : List (Key × Value), PvR Z ι H ps prs ∧ us.length = prs.length ∧ ∀ (j : Nat) (q : Key × Value), prs[j]? = some q → ∃ (b : Addr) (u : Value), us[j]? = some (.ref b) ∧ IsTup s.heap b #[u, q.2] ∧ keyIs q.1 u = true
  | _, _, _, _, .nil, r, e, _ => by cases r; cases e; exact ⟨[], .nil, rfl, fun j q h => by simp at h⟩
  | _, _, _, _, .cons (w := w) h t, r, e, ka => by
    unfold MP.pairs mapO at e
    split at e
    · rename_i p ps' e1 e2
      cases e
      cases r with
      | cons r1 r2 =>
        rw [List.all_cons, Bool.and_eq_true] at ka
        obtain ⟨prs, i1, i2, i3⟩ := pairs_rel I k t r2 (show MP.pairs _ = some ps' from e2) ka.2
        cases h with
        | tup hs ht =>
          split at e1
          · rename_i a b heq
            cases heq
            cases e1
            obtain ⟨x, y, rfl, hx, hy⟩ := ht.two
            cases r1
            obtain ⟨its, rv, htu, _⟩ := I.tuple (by rw [k.K]; exact hs)
            obtain ⟨u1, u2, rfl, q1, q2⟩ := vals2 rv
            have ek := keyA_rel ka.1 hx
            subst ek
            refine ⟨(keyW a, u2) :: prs, .cons ⟨rfl, ka.1, y, q2, hy⟩ i1, by simp [i2], fun j q hj => ?_⟩
            cases j with
            | zero => simp at hj; subst hj; exact ⟨_, u1, rfl, by simpa using htu, kV_is (P := X.prog) (w := X.w) q1⟩
            | succ j =>
              obtain ⟨b', u', h1, h2, h3⟩ := i3 j q (by simpa using hj)
              exact ⟨b', u', by simpa using h1, h2, h3⟩
          · cases e1
        | _ => cases e1
    · cases e
theorem PvR.merged {ps : List (Wv × Wv)} {prs : List (Key × Value)} (h : PvR Z ι H ps prs) : ∀ {kvs : List (Wv × Wv)} {vs : List (Key × Value)}, PvR Z ι H kvs vs → (kvs.map (·.1)).Nodup → (kvs.all fun p => keyA p.1) = true →
    PvR Z ι H (dputs kvs ps) (merged vs prs) ∧ ((dputs kvs ps).map (·.1)).Nodup ∧ ((dputs kvs ps).all fun p => keyA p.1) = true ∧ (dputs kvs ps).length ≤ kvs.length + ps.length := by
  induction h with
  | nil => intro kvs vs h nd ka; exact ⟨h, nd, ka, Nat.le_refl _⟩
  | @cons p q ps prs h t ih =>
    intro kvs vs h2 nd ka
    obtain ⟨e1, k1, x, rx, wx⟩ := h
    have hp := h2.put k1 (u := q.2) nd rx wx
    rw [← e1] at hp
    obtain ⟨i1, i2, i3, i4⟩ := ih hp (dput_nodup nd) (dput_all ka k1)
    refine ⟨i1, i2, i3, ?_⟩
    have := dput_len kvs p.1 p.2
    simp only [List.length_cons]
    unfold dputs
    omega
theorem cb_dict (k : XOk X Z) : CallR X (.type "dict") (rN Z (biW G .dict)) := by
  intro pins s σ H xs us Q I r h
  obtain ⟨ι, M, ws, R, wr, h⟩ := h
  obtain ⟨w, v, rfl, rfl, hw⟩ := one_arg (fun ws M hn => by unfold biW; split <;> first | rfl | (rename_i z; simp_all) | simp_all) wr h
  have h2 : rOut Z ι H (match (lstOf w M).bind MP.pairs with
    | some ps => .chk ((ps.all fun p => keyA p.1) && lenOk ps.length) (.ok (.ref M.length) (M ++ [.dct false (dputs [] ps)]))
    | none => .bad) Q := h
  split at h2
  · rename_i ps e
    obtain ⟨c, h2⟩ := h2.chk
    rw [Bool.and_eq_true] at c
    obtain ⟨zs, e1, e2⟩ := Option.bind_eq_some_iff.mp e
    obtain ⟨a, vs, rfl, h1, h3⟩ := lstOf_at R hw e1
    obtain ⟨u, rfl, ru⟩ := vals1 r
    cases ru
    obtain ⟨its, rv, ⟨o, n, g1, g2, g3, g4⟩, hz⟩ := I.list (SqL.of (K := X.K) h1)
    obtain ⟨prs, p1, p2, p3⟩ := pairs_rel I k h3 rv e2 c.1
    have hl : prs.length ≤ sizeLine := by rw [← Paired.length p1]; exact of_decide_eq_true c.2
    refine L2.call_dict_pairs (I.ok.hd k.calm) g1 g2 g3 g4 (by simpa using p2) hl (fun j q hq => by simpa using p3 j q hq) fun h' tk dd hk => ?_
    obtain ⟨m1, m2, m3, m4⟩ := p1.merged (kvs := []) (vs := []) .nil List.nodup_nil rfl
    obtain ⟨o', es', ep', e1, e2, e3, e4, e5, e6⟩ := dd
    have hp : H s.heap.objs.size = none := I.hok.fresh (Nat.le_refl _)
    have ex := Ext.alloc (ho := DctO s.heap.objs.size o') ι hp
    refine ⟨.ref s.heap.objs.size, _, I.laid (a := s.heap.objs.size) (o := DctO s.heap.objs.size o') (t' := tk) hk (Nat.le_refl _) (DctR.ok_new e1), rfl, ?_⟩
    refine h2 (.ref s.heap.objs.size) _ (ι ++ [s.heap.objs.size]) ex (R.alloc hp ?_) (.ref (snoc_ix R _))
    refine ⟨_, es', ep', upd_same, e2, e3, beq_eq_false_iff_ne.mpr (Ne.symm (Nat.ne_of_lt I.big)), ?_, m2, .inl m3, ?_⟩
    · have := of_decide_eq_true c.2
      simp only [List.length_nil] at m4
      omega
    · refine pairs_back (P := X.prog) k.w.symm (fun e he => e4 e (Array.mem_toList_iff.mp he)) e5 ?_
      exact L2.Paired.mapP m1 fun p q z => ⟨z.1, z.2.1, let ⟨x, z1, z2⟩ := z.2.2; ⟨x, z1, z2.mono ex.le⟩⟩
  · exact False.elim h2
/-! ### isinstance -/
def kdT : Kd → String
  | .int => "int"
  | .bool => "bool"
  | .str => "str"
  | .tuple => "tuple"
  | .list => "list"
theorem isi_kit (I : L2.Inv X pins σ H s) (k : XOk X Z) (R : RM Z ι M H) {w : Wv} {v : V} {u : Value} {kd : Kd} {b : Bool} (hw : WR Z ι H w v) (ru : RelV v u) (e : isiW kd w M = some b) :
    ∃ (t : String) (P : Heap → Prop), PySem.W.KitX X.K u (.type t) P ∧ P s.heap ∧ u ≠ .builtin "__main__.__loader__#opaque" ∧ kitB t (kdT kd) = some b := by
  have lst : ∀ {a : Addr} {xs : List V}, SqL X.K H a xs → PySem.W.KitX X.K (.ref a) (.type "list") (fun h => ∃ o, h.get? a = some o ∧ o.cls = .type "list") ∧ (∃ o, s.heap.get? a = some o ∧ o.cls = .type "list") := fun {a xs} hq => by
    obtain ⟨its, rv, ⟨o, n, g1, g2, g3, g4⟩, hz⟩ := I.list hq
    exact ⟨PySem.W.kitx_list, o, g1, g2⟩
  cases hw with
  | non => cases ru; exact ⟨"NoneType", _, PySem.W.kitx_none, True.intro, fun z => (nomatch z), by cases kd <;> cases e <;> decide +kernel⟩
  | bl c => cases ru; exact ⟨"bool", _, PySem.W.kitx_bool, True.intro, fun z => (nomatch z), by cases kd <;> cases e <;> decide +kernel⟩
  | int i => obtain ⟨t, rfl⟩ := ru; exact ⟨"int", _, PySem.W.kitx_int, True.intro, fun z => (nomatch z), by cases kd <;> cases e <;> decide +kernel⟩
  | str x => obtain ⟨t, rfl⟩ := ru; exact ⟨"str", _, PySem.W.kitx_str, True.intro, fun z => (nomatch z), by cases kd <;> cases e <;> decide +kernel⟩
  | tup hs ht =>
    cases ru
    obtain ⟨its, rv, ⟨o, g1, g2, _⟩, _⟩ := I.tuple (by rw [k.K]; exact hs)
    exact ⟨"tuple", _, PySem.W.kitx_tuple, ⟨o, g1, g2⟩, fun z => (nomatch z), by cases kd <;> cases e <;> decide +kernel⟩
  | scr hs =>
    cases ru
    obtain ⟨g1, g2⟩ := lst (by rw [k.K]; exact hs.sq)
    exact ⟨"list", _, g1, g2, fun z => (nomatch z), by cases kd <;> cases e <;> decide +kernel⟩
  | ref hl =>
    cases ru
    rename_i l a
    cases hM : M[l]? with
    | none => cases kd <;> simp [isiW, hM] at e
    | some o =>
      cases o with
      | lst ws =>
        obtain ⟨vs, e1, e2⟩ := R.ob _ _ _ hM hl
        obtain ⟨g1, g2⟩ := lst (SqL.of (K := X.K) e1)
        exact ⟨"list", _, g1, g2, fun z => (nomatch z), by cases kd <;> simp only [isiW, hM] at e <;> cases e <;> decide +kernel⟩
      | dct z kvs =>
        obtain ⟨o, es, ep, h1, h2, h3, h4⟩ := R.ob _ _ _ hM hl
        exact ⟨"dict", _, PySem.W.kitx_dict, ⟨o, MP.Inv.dctO I h1, h2.1⟩, fun z => (nomatch z), by cases kd <;> simp only [isiW, hM] at e <;> cases e <;> decide +kernel⟩
      | ins c fs => cases kd <;> simp [isiW, hM] at e
/-- isinstance(e, T) -/
theorem se_isi (k : XOk X Z) {kd : Kd} {x : Str} {a : Expr} {f : Fv} {p q pos : Pos} (hg : Gl X "isinstance") (hm : X.mg "isinstance" = none) (hgx : Gl X x) (hmx : X.mg x = none) (hv : bootBuiltins x = some (.type (kdT kd))) (ha : PE X a (tE Z Wx f)) (hn : x ≠ "__name__") (hdb : (x == ("__debug__" : Str)) = false)
    (he : starEach [a, .Name x q] X.env = (false, eval a X.env) :: starEach [.Name x q] X.env) (he2 : starEach [.Name x q] X.env = (false, eval (.Name x q) X.env) :: starEach [] X.env) (hpl : (backTo pos (starEach [.Name x q] X.env)).any (·.1) = false) :
    PE X (.Call (.Name "isinstance" p) [a, .Name x q] [] pos) (tE Z Wx fun sw M => (f sw M).bind fun x M => .ofO ((isiW kd x M).map .bl) M) := by
  refine ⟨fun pins s σ H Q I ⟨ι, sw, M, sr, R, h⟩ => ?_⟩
  have hty : PE X (.Name x q) (tC (.ty (kdT kd))) := ⟨fun pins s σ H Q I h => ld_blt I hgx hmx hv ⟨.ty _, H, I, rfl, h⟩ hn hdb⟩
  refine wpAny_Call_Name_kw (ld_blt I hg hm (by rfl) ?_ (by decide) (by decide))
  have ht : tE Z Wx f σ H fun v H1 => ∃ ι1 M1 w b, RM Z ι1 M1 H1 ∧ WR Z ι1 H1 w v ∧ isiW kd w M1 = some b ∧ Q (.bl b) H1 := tE.seqE sr R h fun x M1 v H1 ι1 e1 R1 q1 s1 h1 => by
    obtain ⟨w, e, h1⟩ := h1.ofO
    obtain ⟨b, e2, rfl⟩ := Option.map_eq_some_iff.mp e
    exact ⟨ι1, M1, x, b, R1, q1, e2, h1.val R1 (.bl b)⟩
  have hA := (pa_cons ha (pa_cons hty pa_nil he2) he).run pos pins s σ H (fun vs H1 => ∃ v, vs = [v, .ty (kdT kd)] ∧ ∃ ι1 M1 w b, RM Z ι1 M1 H1 ∧ WR Z ι1 H1 w v ∧ isiW kd w M1 = some b ∧ Q (.bl b) H1) I ?_
  · refine PyProof.Rows.callWith_builtin1 (thn hA fun us s1 ⟨vs, H1, I1, r1, v, ev, ι1, M1, w, b, R1, q1, eb, qq⟩ => ?_) he hpl
    subst ev
    obtain ⟨u1, u2, rfl, r3, r2⟩ := vals2 r1
    cases (show u2 = Value.type (kdT kd) from r2)
    obtain ⟨t, P, g1, g2, g3, g4⟩ := isi_kit I1 k R1 q1 r3 eb
    exact PySem.W.kia_one g1 I1.kIn g2 (kit_ty g4) g3 fun tk => ⟨.bl b, H1, I1.tok tk, rfl, qq⟩
  · obtain ⟨ι0, sw0, M0, sr0, R0, h0⟩ := ht
    refine ⟨ι0, sw0, M0, sr0, R0, ?_⟩
    cases e : f sw0 M0 with
    | ok w M1 =>
      rw [e] at h0
      exact fun v H' ι' x R q => ⟨v, rfl, h0 v H' ι' x R q⟩
    | exc c M1 => rw [e] at h0; exact h0
    | bad => rw [e] at h0; exact h0
/-! ### str(tuple) -/
theorem cb_str (k : XOk X Z) (hS : Z.S = G.S) : CallR X (.type "str") (rN Z (biW G .str)) := by
  intro pins s σ H xs us Q I r h
  obtain ⟨ι, M, ws, R, wr, h⟩ := h
  obtain ⟨w, v, rfl, rfl, hw⟩ := one_arg (fun ws M hn => by unfold biW; split <;> first | rfl | (rename_i z; simp_all) | simp_all) wr h
  obtain ⟨u, rfl, ru⟩ := vals1 r
  have hw0 := hw
  cases hw with
  | tup hq ht =>
    rename_i a vs zs
    simp only [biW] at h
    split at h
    · rename_i d ed
      obtain ⟨c, h⟩ := h.chk
      rw [Bool.and_eq_true, Bool.and_eq_true, Bool.and_eq_true] at c
      obtain ⟨⟨⟨c1, c2⟩, c3⟩, c4⟩ := c
      obtain ⟨as, ra⟩ := Dp.reads I d _ _ (by rw [k.K]; exact toD_dp hS R _ hw0 ed) ru
      cases ru
      have hdd : d.depth ≤ 32 := of_decide_eq_true c3
      refine str_of_reads ra c1 (PyData.noDict_hsm (by simpa using c2)) k.gd (by have := k.un; omega) (fun _ _ e => e) (fun h' t tk hk => ?_) (of_decide_eq_true c4)
      exact ⟨.str d.shown, H, I.kept (t' := tk) hk, ⟨t, rfl⟩, h.val R (.str _)⟩
    · exact False.elim h
  | _ => exact False.elim h
/-! ### methods of built-in types -/
def bmTy : Bm → String
  | .append => "list"
  | .get => "dict"
  | .scount => "str"
  | .lcount => "list"
  | .extend => "list"
  | .insert => "list"
def bmId : Bm → String
  | .append => "list.append"
  | .get => "dict.get"
  | .scount => "str.count"
  | .lcount => "list.count"
  | .extend => "list.extend"
  | .insert => "list.insert"
def bmNm : Bm → Str
  | .append => "append"
  | .get => "get"
  | .scount => "count"
  | .lcount => "count"
  | .extend => "extend"
  | .insert => "insert"
theorem bm_type (I : L2.Inv X pins σ H s) (R : RM Z ι M H) {m : Bm} {w : Wv} {v : V} {u : Value} (hw : WR Z ι H w v) (ru : RelV v u) (e : bmT m w M = true) : s.TypeIs u (bmTy m) ∧ ∀ a, u = .ref a → ∃ ob, s.heap.get? a = some ob ∧ ob.dict = none := by
  cases hw with
  | ref hl =>
    rename_i l a
    cases ru
    cases m with
    | append =>
      simp only [bmT] at e
      split at e
      · rename_i ws hM
        obtain ⟨vs, e1, e2⟩ := R.ob _ _ _ hM hl
        exact tyV_is (X := X) I (show RelV (.ref a) (.ref a) from rfl) (.inl ⟨rfl, vs, SqL.of e1⟩)
      · cases e
    | get =>
      simp only [bmT] at e
      split at e
      · rename_i kvs hM
        have D := R.ob _ _ _ hM hl
        exact ⟨DctR.typeIs I D, DctR.noDict I D⟩
      · cases e
    | scount => cases e
    | lcount =>
      simp only [bmT] at e
      split at e
      · rename_i ws hM
        obtain ⟨vs, e1, e2⟩ := R.ob _ _ _ hM hl
        exact tyV_is (X := X) I (show RelV (.ref a) (.ref a) from rfl) (.inl ⟨rfl, vs, SqL.of e1⟩)
      · cases e
    | extend =>
      simp only [bmT] at e
      split at e
      · rename_i ws hM
        obtain ⟨vs, e1, e2⟩ := R.ob _ _ _ hM hl
        exact tyV_is (X := X) I (show RelV (.ref a) (.ref a) from rfl) (.inl ⟨rfl, vs, SqL.of e1⟩)
      · cases e
    | insert =>
      simp only [bmT] at e
      split at e
      · rename_i ws hM
        obtain ⟨vs, e1, e2⟩ := R.ob _ _ _ hM hl
        exact tyV_is (X := X) I (show RelV (.ref a) (.ref a) from rfl) (.inl ⟨rfl, vs, SqL.of e1⟩)
      · cases e
  | str z =>
    obtain ⟨t, rfl⟩ := ru
    cases m with
    | scount => exact ⟨typeIs_str _ _ _, fun a q => by cases q⟩
    | _ => cases e
  | _ => cases m <;> cases e
theorem prim_bm (m : Bm) (x : Wv) (xs : List Wv) (M : Mem) : Prim (bmW m x xs M) := by
  unfold bmW
  split
  · split
    · split
      · exact Prim.ok.chk
      · exact Prim.bad
    · exact Prim.bad
  · split
    · split
      · exact Prim.ok.chk
      · exact Prim.ok.chk
      · exact Prim.bad
    · exact Prim.bad
  · split
    · exact Prim.ok
    · exact Prim.bad
  · split
    · split
      · exact Prim.ofO
      · exact Prim.bad
    · exact Prim.bad
  · split
    · split
      · split
        · exact Prim.ok.chk
        · exact Prim.bad
      · exact Prim.bad
    · exact Prim.bad
  · split
    · split
      · exact Prim.ok.chk
      · exact Prim.bad
    · exact Prim.bad
  · exact Prim.bad
/-- what get gives: the value, or the default -/
theorem getD_rel {o : Option Wv} {ov : Option Value} {dw : Wv} {d : V} {u : Value} (h : match o with | some y => ∃ p, ov = some p ∧ ∃ x, RelV x p ∧ WR Z ι H y x | none => ov = none) (rd : RelV d u) (wd : WR Z ι H dw d) : ∃ x, RelV x (ov.getD u) ∧ WR Z ι H (o.getD dw) x := by
  cases o with
  | none => simp only at h; subst h; exact ⟨d, rd, wd⟩
  | some y => obtain ⟨p, rfl, x, h1, h2⟩ := h; exact ⟨x, h1, h2⟩
theorem DctR.get1 {a : Addr} {z : Bool} {kvs : List (Wv × Wv)} {kk : Wv} {x : V} {u : Value} {Q : Value → Shared → Prop} {E : Value → Shared → Prop} (I : L2.Inv X pins σ H s) (k : XOk X Z) (D : DctR Z ι H a z kvs) (h : keyOk kvs kk = true) (r : WR Z ι H kk x) (ru : RelV x u)
    (q : ∀ s' w' y, L2.Inv X pins σ H s' → RelV y w' → WR Z ι H ((dget kvs kk).getD .non) y → Q w' s') : wpAny (model X.prog X.w) X.A (call (.builtin "dict.get") [.ref a, u]) Q E s := by
  rcases keyOk_cases h with ⟨k1, k2⟩ | ⟨k1, k2⟩
  · obtain ⟨vs, dd, pv, hd⟩ := D.dictOf I k k2
    have ex := keyA_rel k1 r
    subst ex
    obtain ⟨y, g1, g2⟩ := getD_rel (u := .none) (pv.get k1) (show RelV .non .none from rfl) WR.non
    exact call_meetsIn PySem.F.slot_dict_get dd.typeIs PySem.F.entry_dict_get (PySem.F.args_dict_get_2 _ _) (meets_dict_get (mixKind X.prog X.w) a (kV_is ru) hd) ⟨_, dd.mapOf, q _ _ y (I.tok _) g1 g2⟩
  · obtain ⟨xs, dd, pv, hd⟩ := D.dictOfH I k k2
    obtain ⟨b, rfl⟩ := keyT_ref k1 r
    cases ru
    have g := pv.get k1
    obtain ⟨y, g1, g2⟩ := getD_rel (ov := (atKey xs (toNK kk)).map (·.2)) (o := dget kvs kk) (u := .none) (by
      cases e : dget kvs kk with
      | none => rw [e] at g; simp only at g ⊢; rw [g]; rfl
      | some y => rw [e] at g; obtain ⟨p, g, x, g1, g2⟩ := g; exact ⟨p.2, by rw [g]; rfl, x, g1, g2⟩) (show RelV .non .none from rfl) WR.non
    exact call_meetsIn PySem.F.slot_dict_get dd.typeIs PySem.F.entry_dict_get (PySem.F.args_dict_get_2 _ _) (meetsH_dict_get (nestedKind X.prog X.w) a b hd) ⟨room8 k, _, xs, keyT_is I k.K k1 r, dd, q _ _ y (I.tok _) g1 g2⟩
theorem DctR.get2 {a : Addr} {z : Bool} {kvs : List (Wv × Wv)} {kk dw : Wv} {x d : V} {u du : Value} {Q : Value → Shared → Prop} {E : Value → Shared → Prop} (I : L2.Inv X pins σ H s) (k : XOk X Z) (D : DctR Z ι H a z kvs) (h : keyOk kvs kk = true) (r : WR Z ι H kk x) (ru : RelV x u) (rd : WR Z ι H dw d) (rdu : RelV d du)
    (q : ∀ s' w' y, L2.Inv X pins σ H s' → RelV y w' → WR Z ι H ((dget kvs kk).getD dw) y → Q w' s') : wpAny (model X.prog X.w) X.A (call (.builtin "dict.get") [.ref a, u, du]) Q E s := by
  rcases keyOk_cases h with ⟨k1, k2⟩ | ⟨k1, k2⟩
  · obtain ⟨vs, dd, pv, hd⟩ := D.dictOf I k k2
    have ex := keyA_rel k1 r
    subst ex
    obtain ⟨y, g1, g2⟩ := getD_rel (u := du) (pv.get k1) rdu rd
    exact call_meetsIn PySem.F.slot_dict_get dd.typeIs PySem.F.entry_dict_get (PySem.F.args_dict_get_3 _ _ _) (meets_dict_get_default (mixKind X.prog X.w) a (kV_is ru) hd du) ⟨_, dd.mapOf, q _ _ y (I.tok _) g1 g2⟩
  · obtain ⟨xs, dd, pv, hd⟩ := D.dictOfH I k k2
    obtain ⟨b, rfl⟩ := keyT_ref k1 r
    cases ru
    have g := pv.get k1
    obtain ⟨y, g1, g2⟩ := getD_rel (ov := (atKey xs (toNK kk)).map (·.2)) (o := dget kvs kk) (u := du) (by
      cases e : dget kvs kk with
      | none => rw [e] at g; simp only at g ⊢; rw [g]; rfl
      | some y => rw [e] at g; obtain ⟨p, g, x, g1, g2⟩ := g; exact ⟨p.2, by rw [g]; rfl, x, g1, g2⟩) rdu rd
    exact call_meetsIn PySem.F.slot_dict_get dd.typeIs PySem.F.entry_dict_get (PySem.F.args_dict_get_3 _ _ _) (meetsH_dict_get_default (nestedKind X.prog X.w) a b hd du) ⟨room8 k, _, xs, keyT_is I k.K k1 r, dd, q _ _ y (I.tok _) g1 g2⟩
/-- a list that is told of, written -/
theorem lst_write {l : Nat} {a : Addr} {ws ws' : List Wv} {vs vs' : List V} (R : RM Z ι M H) (hM : M[l]? = some (.lst ws)) (hl : ι[l]? = some a) (e1 : H a = some (.lst vs)) (r : WsR Z ι H ws' vs') : Ext ι ι H (upd H a (.lst vs')) ∧ RM Z ι (M.set l (.lst ws')) (upd H a (.lst vs')) := by
  have ex : Ext ι ι H (upd H a (.lst vs')) := Ext.write R hl (fun ob φ e => by rw [e1] at e; cases e)
  exact ⟨ex, R.write hM hl e1 (fun ps z => by cases z) (fun q z => by cases z) ⟨vs', upd_same, r.mono ex.le⟩⟩
def rM (Z : Zt) (F : Wv → List Wv → Mem → Out Wv) : V → List V → Hp → VK → Prop := fun x xs H Q => ∃ ι M w ws, RM Z ι M H ∧ WR Z ι H w x ∧ WsR Z ι H ws xs ∧ rOut Z ι H (F w ws M) Q
theorem reads_strs {h : Heap} : ∀ {zs : List Wv} {vs : List V} {its : List Value} {ss : List Str}, WsR Z ι H zs vs → Vals vs its → strsW zs = some ss → ReadsAll h its (ss.map PyData.str) []
  | [], _, _, _, .nil, .nil, e => by cases e; exact .nil
  | w :: zs, _, _, _, .cons g1 g2, .cons k1 k2, e => by
    unfold strsW at e
    simp only [mapO] at e
    split at e
    · rename_i b bs hb hbs
      cases e
      have rest := reads_strs (h := h) g2 k2 (show strsW zs = some bs from hbs)
      cases g1 with
      | str y =>
        cases hb
        obtain ⟨t2, rfl⟩ := k1
        exact .cons (as := []) (.str _ _) rest
      | _ => cases hb
    · cases e
theorem mt_bm (k : XOk X Z) (m : Bm) : MtR X (bmId m) (rM Z (bmW m)) := by
  intro pins s σ H x xs v us Q I rx rxs h
  obtain ⟨ι, M, w, ws, R, hw, hws, h⟩ := h
  cases hw with
  | ref hl =>
    rename_i l a
    cases m with
    | append =>
      simp only [bmW] at h
      split at h
      · rename_i zs hM
        obtain ⟨vs, e1, e2⟩ := R.ob _ _ _ hM hl
        split at h
        · rename_i y
          obtain ⟨x, rfl, hx⟩ := hws.one
          obtain ⟨c, h⟩ := h.chk
          have hz : vs.length < sizeLine := by
            have := of_decide_eq_true c
            rw [← e2.length]
            omega
          obtain ⟨ex, R2⟩ := lst_write R hM hl e1 (e2.append (.cons hx .nil))
          exact mt_append pins s σ H _ _ v us Q I rx rxs ⟨a, vs, x, rfl, rfl, e1, hz, h .non _ ι ex R2 .non⟩
        · exact False.elim h
      · exact False.elim h
    | get =>
      simp only [bmW] at h
      split at h
      · rename_i kvs hM
        have D := R.ob _ _ _ hM hl
        cases rx
        split at h
        · obtain ⟨x, rfl, hx⟩ := hws.one
          obtain ⟨c, h⟩ := h.chk
          obtain ⟨u, rfl, ru⟩ := vals1 rxs
          exact DctR.get1 I k D c hx ru fun s' w' y I' ry wy => ⟨y, H, I', ry, h.val R wy⟩
        · obtain ⟨x, y, rfl, hx, hy⟩ := hws.two
          obtain ⟨c, h⟩ := h.chk
          obtain ⟨u, u2, rfl, ru, ru2⟩ := vals2 rxs
          exact DctR.get2 I k D c hx ru hy ru2 fun s' w' y I' ry wy => ⟨y, H, I', ry, h.val R wy⟩
        · exact False.elim h
      · exact False.elim h
    | scount => exact False.elim h
    | lcount =>
      simp only [bmW] at h
      split at h
      · rename_i zs hM
        obtain ⟨vs, e1, e2⟩ := R.ob _ _ _ hM hl
        split at h
        · rename_i z
          obtain ⟨x, rfl, hx⟩ := hws.one
          obtain ⟨u, rfl, ru⟩ := vals1 rxs
          cases hx
          obtain ⟨t, rfl⟩ := ru
          cases hs : strsW zs with
          | none => rw [hs] at h; exact False.elim h
          | some ss =>
            rw [hs] at h
            cases rx
            obtain ⟨its, rv, pl, hzz⟩ := I.list (SqL.of (K := X.K) e1)
            have rr : ReadsAll s.heap its (ss.map PyData.str) [] := reads_strs e2 rv hs
            have hpa : PyData.plainAll (ss.map PyData.str) = true := by
              clear hs h rr
              induction ss with
              | nil => rfl
              | cons y ss ih => simp only [List.map_cons, PyData.plainAll, ih, PyData.plain, Bool.and_self]
            have hdp : PyData.depthAll (ss.map PyData.str) = 0 := by
              clear hs h rr hpa
              induction ss with
              | nil => rfl
              | cons y ss ih => simp only [List.map_cons, PyData.depthAll, ih, PyData.depth]; rfl
            refine PySem.SeqAt.count_list_data (xs := ss.map PyData.str) (d := .str z) (as := []) (bs := []) pl.isList (by simpa using rr) (.str _ _) hpa rfl (by rw [hdp]; have := k.un; simp; omega) ?_
            have ec : ((ss.map PyData.str).countP fun y => PyData.eqv y (.str z)) = ss.countP fun y => decide (y = z) := by
              rw [List.countP_map]
              refine congrArg (fun f => List.countP f ss) (funext fun y => ?_)
              show PyData.eqv (.str y) (.str z) = _
              simp only [PyData.eqv]
              by_cases c : y = z
              · subst c; simp
              · simp [c]
            rw [ec]
            exact ⟨.int _, H, I.tok _, ⟨_, rfl⟩, h.val R (.int _)⟩
        · exact False.elim h
      · exact False.elim h
    | extend =>
      simp only [bmW] at h
      split at h
      · rename_i zs hM
        obtain ⟨vs, e1, e2⟩ := R.ob _ _ _ hM hl
        split at h
        · rename_i y
          obtain ⟨x, rfl, hx⟩ := hws.one
          split at h
          · rename_i us' hM2
            cases hx with
            | ref hl2 =>
              obtain ⟨vs2, e3, e4⟩ := R.ob _ _ _ hM2 hl2
              obtain ⟨c, h⟩ := h.chk
              have hz : vs.length + vs2.length ≤ sizeLine := by
                have := of_decide_eq_true c
                rw [← e2.length, ← e4.length]
                exact this
              obtain ⟨ex, R2⟩ := lst_write R hM hl e1 (e2.append e4)
              exact mt_extend pins s σ H _ _ v us Q I rx rxs ⟨a, _, vs, vs2, rfl, rfl, e1, e3, hz, h .non _ ι ex R2 .non⟩
          · exact False.elim h
        · exact False.elim h
      · exact False.elim h
    | insert =>
      simp only [bmW] at h
      split at h
      · rename_i zs hM
        obtain ⟨vs, e1, e2⟩ := R.ob _ _ _ hM hl
        split at h
        · rename_i i y
          obtain ⟨x1, x, rfl, hx1, hx⟩ := hws.two
          cases hx1
          obtain ⟨c, h⟩ := h.chk
          rw [Bool.and_eq_true, Bool.and_eq_true] at c
          obtain ⟨⟨c1, c2⟩, c3⟩ := c
          have c2 := of_decide_eq_true c2
          have c3 := of_decide_eq_true c3
          have hz : vs.length < sizeLine := by
            have := of_decide_eq_true c1
            rw [← e2.length]
            omega
          obtain ⟨ex, R2⟩ := lst_write R hM hl e1 (((e2.take i.toNat).append (.cons hx .nil)).append (e2.drop i.toNat))
          exact mt_insert pins s σ H _ _ v us Q I rx rxs ⟨a, vs, i, x, rfl, rfl, e1, hz, c2, by omega, h .non _ ι ex R2 .non⟩
        · exact False.elim h
      · exact False.elim h
  | str z =>
    cases m with
    | scount =>
      simp only [bmW] at h
      split at h
      · rename_i t
        obtain ⟨x, rfl, hx⟩ := hws.one
        cases hx
        exact mt_count pins s σ H _ _ v us Q I rx rxs ⟨z, t, rfl, rfl, h.val R (.int _)⟩
      · exact False.elim h
    | _ => exact False.elim h
  | _ => cases m <;> exact False.elim h
theorem bm_pa (m : Bm) : PlainAttrs (bmTy m) := by
  cases m
  · exact PySem.F.plainAttrs_list
  · exact PySem.F.plainAttrs_dict
  · exact PySem.F.plainAttrs_str
  · exact PySem.F.plainAttrs_list
  · exact PySem.F.plainAttrs_list
  · exact PySem.F.plainAttrs_list
theorem bm_slot (m : Bm) : Slot (bmTy m) (bmNm m) (bmId m) := by
  cases m
  · exact PySem.F.slot_list_append
  · exact PySem.F.slot_dict_get
  · exact PySem.F.slot_str_count
  · exact PySem.F.slot_list_count
  · exact PySem.F.slot_list_extend
  · exact PySem.F.slot_list_insert
theorem bm_desc (m : Bm) : typeOf (.builtin (bmId m)) = pure (.type "method_descriptor") := by
  cases m
  · exact PySem.F.type_list_append
  · exact PySem.F.type_dict_get
  · exact PySem.F.type_str_count
  · exact PySem.F.type_list_count
  · exact PySem.F.type_list_extend
  · exact PySem.F.type_list_insert
theorem se_bm (k : XOk X Z) {m : Bm} {o e : Expr} {es : List Expr} {f : Fv} {g : Sw → Mem → Out (List Wv)} {apos cpos : Pos} (ho : PE X o (tE Z Wx f)) (ha : PA X (e :: es) (tA Z Wx g))
    (hbase : attributeBase o (bmNm m) X.env (eval o X.env) = eval o X.env)
    (hfew : ((backTo cpos (starEach (e :: es) X.env)).all (fun x => !x.1) && (backToKw cpos (keywordEach [] X.env)).all (fun x => x.1.isSome)
      && decide ((e :: es).length + ([] : List Keyword).length + (if ([] : List Keyword).isEmpty then 0 else 1) < 30)) = true)
    (hline : (apos.endLine == cpos.line) = true) (hs : starEach (e :: es) X.env = (false, eval e X.env) :: starEach es X.env) (hplain : (backTo cpos (starEach es X.env)).any (·.1) = false) :
    PE X (.Call (.Attribute o (bmNm m) apos) (e :: es) [] cpos) (tE Z Wx fun sw M => (f sw M).bind fun x M => .chk (bmT m x M) ((g sw M).bind fun ws M => bmW m x ws M)) := by
  refine ⟨fun pins s σ H Q I ⟨ι, sw, M, sr, R, h⟩ => ?_⟩
  have ht : tE Z Wx f σ H fun v H1 => ∃ ι1 M1 w, RM Z ι1 M1 H1 ∧ SR Z ι1 H1 sw σ ∧ WR Z ι1 H1 w v ∧ bmT m w M1 = true ∧ eOut Z Wx σ ι1 H1 ((g sw M1).bind fun ws M => bmW m w ws M) Q := tE.seqE sr R h fun x M1 v H1 ι1 e1 R1 q1 s1 h1 => by
    obtain ⟨c, h1⟩ := h1.chk
    exact ⟨ι1, M1, x, R1, s1, q1, c, h1⟩
  refine wpAny_Call_method_late hbase hfew hline rfl (thn (ho.run pins s σ H _ I ht) fun v s1 ⟨x, H1, I1, r1, ι1, M1, w, R1, sr1, q1, ty, h1⟩ => ?_)
  obtain ⟨h3, h4⟩ := bm_type I1 R1 q1 r1 ty
  refine ⟨bmTy m, bmId m, bm_pa m, bm_slot m, bm_desc m, h3, h4, ?_⟩
  have hA := ha.run cpos pins s1 σ H1 (fun xs H2 => rM Z (bmW m) x xs H2 Q) I1 (tA.seqE sr1 R1 h1 fun ws M2 vs H2 ι2 e2 R2 q2 s2 h2 => ⟨ι2, M2, w, ws, R2, q1.mono e2.le, q2, (prim_bm _ _ _ _).out h2⟩)
  rw [hs] at hA ⊢
  refine Calls.callWith_builtin (by show (false || (backTo cpos (starEach es X.env)).any (·.1)) = false; rw [hplain] <;> rfl) (Calls.evalArgs_plain ?_)
  exact thn hA fun us s2 ⟨vs, H2, I2, r2, q2⟩ => mt_bm k m pins s2 σ H2 x vs v us Q I2 r1 r2 q2
end
end MP
end
section
set_option Elab.async false
set_option linter.all false
set_option maxRecDepth 100000
/-! MP11: the rules for expressions, by the small Python's own syntax. -/
namespace MP
open PySem PySem.Spec PyProof.Rows L2

/-- what is wished of a refusal, as the hand layer has it -/
def wxO (Z : Zt) (Wx : Wish) : WX := fun cls d σ H => d = none ∧ ∃ c, cls = .ref (Z.exc c) ∧ Wx c σ H
structure Bx (X : Cx) (Z : Zt) (Wx : Wish) (G : Pg) : Prop extends XOk X Z where
  hS : Z.S = G.S
  nd : X.N.Nodup
  tk : Takes X (wxO Z Wx)
/-- a test -/
def evT (G : Pg) (C C1 : Nat → List Wv → Mem → Out Wv) (e : Ex) (σ : Sw) (M : Mem) : Out Bool := (evE G C C1 e σ M).bind fun x M => .ofO (truW G x M) M
abbrev TEx (Z : Zt) (Wx : Wish) (G : Pg) (C C1 : Nat → List Wv → Mem → Out Wv) (e : Ex) : TE := tE Z Wx (evE G C C1 e)
abbrev TAx (Z : Zt) (Wx : Wish) (G : Pg) (C C1 : Nat → List Wv → Mem → Out Wv) (e : El) : TA := tA Z Wx (evL G C C1 e)
abbrev TTx (Z : Zt) (Wx : Wish) (G : Pg) (C C1 : Nat → List Wv → Mem → Out Wv) (e : Ex) : TT := tT Z Wx (evT G C C1 e)
/-- a name of the def -/
def visB (sc : Scope) (x : Str) : Bool := match sc.names.lookup x with
  | some .local => true
  | some .cell => true
  | some .free => true
  | _ => false
def varB (N : List Str) (sc : Scope) (i : Nat) (x : Str) : Bool := decide (N[i]? = some x) && visB sc x && !(x == ("__debug__" : Str)) && !(x == ("__classdict__" : Str))
theorem varB_ok {N : List Str} {sc : Scope} {i : Nat} {x : Str} (h : varB N sc i x = true) : N[i]? = some x ∧ Vis sc x ∧ (x == ("__debug__" : Str)) = false ∧ (x == ("__classdict__" : Str)) = false := by
  unfold varB at h
  rw [Bool.and_eq_true, Bool.and_eq_true, Bool.and_eq_true] at h
  obtain ⟨⟨⟨h1, h2⟩, h3⟩, h4⟩ := h
  refine ⟨of_decide_eq_true h1, ?_, by simpa using h3, by simpa using h4⟩
  unfold visB at h2
  split at h2
  · rename_i e; exact .inl e
  · rename_i e; exact .inr (.inl e)
  · rename_i e; exact .inr (.inr e)
  · cases h2
/-- a global name -/
def gloB (env : Env) (x : Str) : Bool := decide (env.kindOf x = some .globalImplicit) && !(x == ("__debug__" : Str)) && decide (x ≠ "__name__")
theorem gloB_ok {X : Cx} {x : Str} (h : gloB X.env x = true) : Gl X x ∧ (x == ("__debug__" : Str)) = false ∧ x ≠ "__name__" := by
  unfold gloB at h
  rw [Bool.and_eq_true, Bool.and_eq_true] at h
  exact ⟨show X.env.kindOf x = some .globalImplicit from of_decide_eq_true h.1.1, by simpa using h.1.2, of_decide_eq_true h.2⟩
section
variable {X : Cx} {Z : Zt} {Wx : Wish} {G : Pg} {C C1 : Nat → List Wv → Mem → Out Wv} {a b c e : Expr} {es : List Expr} {ea eb ec : Ex} {el : El} {pos p p2 p3 : Pos}
theorem e_var (i : Nat) {x : Str} (h : varB X.N X.env.scope i x = true := by kernel_rfl) : PE X (.Name x pos) (TEx Z Wx G C C1 (.var i)) := by
  obtain ⟨h1, h2, h3, h4⟩ := varB_ok h
  have : evE G C C1 (.var i) = fun σ M => .ofO (getV i σ) M := by funext σ M; simp only [evE]
  rw [TEx, this]
  exact se_var h1 h2 h3 h4
theorem con_eq (w : Wv) : evE G C C1 (.con w) = fun _ M => .ok w M := by funext σ M; simp only [evE]
theorem e_int (i : Int) {j : Nat} : PE X (.Constant (.int i) j pos) (TEx Z Wx G C C1 (.con (.int i))) := by
  rw [TEx, con_eq]; exact se_con pe_int fun _ _ => .int i
theorem e_str (x : Str) {j : Nat} : PE X (.Constant (.str x) j pos) (TEx Z Wx G C C1 (.con (.str x))) := by
  rw [TEx, con_eq]; exact se_con pe_str fun _ _ => .str x
theorem e_bl (x : Bool) {j : Nat} : PE X (.Constant (.bool x) j pos) (TEx Z Wx G C C1 (.con (.bl x))) := by
  rw [TEx, con_eq]; exact se_con pe_bl fun _ _ => .bl x
theorem e_non {j : Nat} : PE X (.Constant .none j pos) (TEx Z Wx G C C1 (.con .non)) := by
  rw [TEx, con_eq]; exact se_con pe_non fun _ _ => .non
/-- a constant of the module -/
theorem e_glb {x : Str} {v : V} {u : Value} {w : Wv} (hc : G.con x = some w) (hm : X.mg x = some u) (r : RelV v u) (hw : ∀ ι H, WR Z ι H w v) (h : gloB X.env x = true := by kernel_rfl) : PE X (.Name x pos) (TEx Z Wx G C C1 (.glb x)) := by
  obtain ⟨h1, h2, h3⟩ := gloB_ok h
  have : evE G C C1 (.glb x) = fun _ M => .ok w M := by funext σ M; simp only [evE, hc]; rfl
  rw [TEx, this]
  exact se_con (pe_glob h1 hm r h2) hw
theorem a_nil : PA X [] (TAx Z Wx G C C1 .nil) := by
  have : evL G C C1 .nil = fun _ M => .ok [] M := by funext σ M; simp only [evL]
  rw [TAx, this]; exact sa_nil
theorem a_cons (ha : PE X a (TEx Z Wx G C C1 ea)) (hr : PA X es (TAx Z Wx G C C1 el)) (hs : starEach (a :: es) X.env = (false, eval a X.env) :: starEach es X.env := by rfl) : PA X (a :: es) (TAx Z Wx G C C1 (.cons ea el)) := by
  have : evL G C C1 (.cons ea el) = fun sw M => (evE G C C1 ea sw M).bind fun w M => (evL G C C1 el sw M).bind fun ws M => .ok (w :: ws) M := by funext σ M; simp only [evL]
  rw [TAx, this]; exact sa_cons ha hr hs
theorem e_tup {k : Nat} (ha : PA X es (TAx Z Wx G C C1 el)) : PE X (.Tuple es k pos) (TEx Z Wx G C C1 (.tup el)) := by
  have : evE G C C1 (.tup el) = fun sw M => (evL G C C1 el sw M).bind fun ws M => .chk (lenOk ws.length) (.ok (.tup ws) M) := by funext σ M; simp only [evE]
  rw [TEx, this]; exact se_tup ha
theorem e_lst (ha : PA X es (TAx Z Wx G C C1 el)) : PE X (.List es pos) (TEx Z Wx G C C1 (.lst el)) := by
  have : evE G C C1 (.lst el) = fun sw M => (evL G C C1 el sw M).bind fun ws M => .chk (lenOk ws.length) (.ok (.ref M.length) (M ++ [.lst ws])) := by funext σ M; simp only [evE]
  rw [TEx, this]; exact se_lst ha
theorem e_dict0 : PE X (.Dict [] [] pos) (TEx Z Wx G C C1 .dict0) := by
  have : evE G C C1 .dict0 = fun _ M => .ok (.ref M.length) (M ++ [.dct false []]) := by funext σ M; simp only [evE]
  rw [TEx, this]; exact se_dict0
theorem e_bin (k : Bx X Z Wx G) (o : Op) (ha : PE X a (TEx Z Wx G C C1 ea)) (hb : PE X b (TEx Z Wx G C C1 eb)) : PE X (.BinOp a (opOf o) b pos) (TEx Z Wx G C C1 (.bin o ea eb)) := by
  have : evE G C C1 (.bin o ea eb) = fun sw M => (evE G C C1 ea sw M).bind fun x M => (evE G C C1 eb sw M).bind fun y M => binW o x y M := by funext σ M; simp only [evE]
  rw [TEx, this]; exact se_bin (prim_bin o) (op_binW k.toXOk o) ha hb
theorem e_neg (ha : PE X a (TEx Z Wx G C C1 ea)) : PE X (.UnaryOp .USub a pos) (TEx Z Wx G C C1 (.neg ea)) := by
  have : evE G C C1 (.neg ea) = fun sw M => (evE G C C1 ea sw M).bind fun x M => .ofO ((toI x).map fun i => .int (-i)) M := by funext σ M; simp only [evE]
  rw [TEx, this]; exact se_un (fun _ _ => Prim.ofO) un_negW ha
theorem cmp_mark (o : Cm) (h : (o == .in_ || o == .nin) = false) (b : Expr) : behindInMarks (cmOf o) b = false := by
  cases o <;> first | exact nomark b | cases h
theorem e_cmp (k : Bx X Z Wx G) (o : Cm) (ha : PE X a (TEx Z Wx G C C1 ea)) (hb : PE X b (TEx Z Wx G C C1 eb)) (hm : behindInMarks (cmOf o) b = false := by kernel_rfl) : PE X (.Compare a [cmOf o] [b] pos) (TEx Z Wx G C C1 (.cmp o ea eb)) := by
  have : evE G C C1 (.cmp o ea eb) = fun sw M => (evE G C C1 ea sw M).bind fun x M => (evE G C C1 eb sw M).bind fun y M => cmpW G o x y M := by funext σ M; simp only [evE]
  rw [TEx, this]; exact se_cmp (prim_cmp o) (op_cmpW k.toXOk k.hS o) ha hb hm
theorem cmpW_bl {o : Cm} {x y r : Wv} {M M' : Mem} (h : cmpW G o x y M = .ok r M') : ∃ q, r = .bl q ∧ M' = M := by
  have g : ∀ z : Option Bool, ((Out.ofO z M).bind fun b M => .ok (.bl b) M) = .ok r M' → ∃ q, r = .bl q ∧ M' = M := fun z h => by
    cases z with
    | none => cases h
    | some q => cases h; exact ⟨q, rfl, rfl⟩
  exact g _ h
/-- a op b op c -/
theorem chain_read (k : Bx X Z Wx G) (o d : Cm) {σ : L2.St} {H : Hp} {Q : VK} (h : TEx Z Wx G C C1 (.cmp2 o d ea eb ec) σ H Q) :
    tChain (r2 Z (cmpW G o)) (r2 Z (cmpW G d)) (TEx Z Wx G C C1 ea) (TEx Z Wx G C C1 eb) (TEx Z Wx G C C1 ec) σ H Q := by
  obtain ⟨ι, sw, M, s, R, h⟩ := h
  simp only [evE] at h
  refine tE.seqE s R h fun x M1 v H1 ι1 e1 R1 q1 s1 h1 => tE.seqE s1 R1 h1 fun y M2 u H2 ι2 e2 R2 q2 s2 h2 => ?_
  refine ⟨ι2, M2, x, y, R2, q1.mono e2.le, q2, ?_⟩
  cases e : cmpW G o x y M2 with
  | exc c M' => exact absurd e (prim_cmp o x y M2 c M')
  | bad => rw [e] at h2; exact False.elim h2
  | ok r M3 =>
    obtain ⟨q, rfl, rfl⟩ := cmpW_bl e
    rw [e] at h2
    have h3 : eOut Z Wx σ ι2 H2 (if q = true then (evE G C C1 ec sw M3).bind fun z M => cmpW G d y z M else .ok (.bl q) M3) Q := h2
    intro w H3 ι3 e3 R3 q3
    cases q3
    refine ⟨q, rfl, ?_⟩
    cases q with
    | true =>
      rw [if_pos rfl] at h3 ⊢
      refine tE.seqE (s2.mono e3.le) R3 (h3.shift e3) fun z M4 z' H4 ι4 e4 R4 q4 s4 h4 => ⟨ι4, M4, y, z, R4, (q2.mono e3.le).mono e4.le, q4, (prim_cmp d y z M4).out h4⟩
    | false =>
      rw [if_neg Bool.false_ne_true] at h3 ⊢
      exact (h3.shift e3).val R3 (.bl false)
theorem e_cmp2 (k : Bx X Z Wx G) (o d : Cm) (ha : PE X a (TEx Z Wx G C C1 ea)) (hb : PE X b (TEx Z Wx G C C1 eb)) (hc : PE X c (TEx Z Wx G C C1 ec)) (hm : lastMarks [cmOf o, cmOf d] [b, c] = false := by kernel_rfl) :
    PE X (.Compare a [cmOf o, cmOf d] [b, c] pos) (TEx Z Wx G C C1 (.cmp2 o d ea eb ec)) :=
  (pe_chain (op_cmpW k.toXOk k.hS o) (op_cmpW k.toXOk k.hS d) ha hb hc hm).weak fun σ H Q h => chain_read k o d h
/-! ### truth -/
theorem truW_V (k : Bx X Z Wx G) {ι : List Addr} {H : Hp} {M : Mem} {w : Wv} {x : V} {b : Bool} (R : RM Z ι M H) (wr : WR Z ι H w x) (e : truW G w M = some b) : TruV X.K x H b := by
  rw [k.K]
  cases wr with
  | non => cases e; rfl
  | bl c => cases e; rfl
  | int i => cases e; rfl
  | str y =>
    simp only [truW] at e
    split at e
    · rename_i hz
      cases e
      refine ⟨hz, ?_⟩
      cases hq : y.length <;> simp <;> omega
    · cases e
  | tup h t =>
    cases e
    refine .inr (.inl ⟨_, h, ?_⟩)
    cases t <;> rfl
  | ref h =>
    simp only [truW] at e
    split at e
    · rename_i ws hw
      cases e
      obtain ⟨vs, h1, h2⟩ := R.ob _ _ _ hw h
      refine .inl ⟨vs, SqL.of h1, ?_⟩
      cases h2 <;> rfl
    · cases e
  | scr h =>
    cases e
    refine .inl ⟨_, h.sq, ?_⟩
    rw [k.hS]
    cases G.S <;> rfl
theorem e_one {op : BoolOp} {t : TE} (h : PE X a t) : PE X (.BoolOp op [a] pos) t := pe_one h
theorem e_and (k : Bx X Z Wx G) (ha : PE X a (TEx Z Wx G C C1 ea)) (hb : PE X (.BoolOp .And (b :: es) pos) (TEx Z Wx G C C1 eb)) : PE X (.BoolOp .And (a :: b :: es) pos) (TEx Z Wx G C C1 (.and ea eb)) :=
  (pe_andT ha hb).weak fun σ H Q ⟨ι, sw, M, s, R, h⟩ => by
    simp only [evE] at h
    refine tE.seqE s R h fun x M1 v H1 ι1 e1 R1 q1 s1 h1 => ?_
    obtain ⟨q, e, h1⟩ := h1.ofOb
    refine ⟨q, truW_V k R1 q1 e, ?_⟩
    cases q with
    | true => exact ⟨ι1, sw, M1, s1, R1, h1⟩
    | false => exact h1.val R1 q1
theorem e_or (k : Bx X Z Wx G) (ha : PE X a (TEx Z Wx G C C1 ea)) (hb : PE X (.BoolOp .Or (b :: es) pos) (TEx Z Wx G C C1 eb)) : PE X (.BoolOp .Or (a :: b :: es) pos) (TEx Z Wx G C C1 (.or ea eb)) :=
  (pe_orT ha hb).weak fun σ H Q ⟨ι, sw, M, s, R, h⟩ => by
    simp only [evE] at h
    refine tE.seqE s R h fun x M1 v H1 ι1 e1 R1 q1 s1 h1 => ?_
    obtain ⟨q, e, h1⟩ := h1.ofOb
    refine ⟨q, truW_V k R1 q1 e, ?_⟩
    cases q with
    | true => exact h1.val R1 q1
    | false => exact ⟨ι1, sw, M1, s1, R1, h1⟩
theorem e_not (k : Bx X Z Wx G) (ha : PE X a (TEx Z Wx G C C1 ea)) : PE X (.UnaryOp .Not a pos) (TEx Z Wx G C C1 (.not ea)) :=
  (pe_notT ha).weak fun σ H Q ⟨ι, sw, M, s, R, h⟩ => by
    simp only [evE] at h
    refine tE.seqE s R h fun x M1 v H1 ι1 e1 R1 q1 s1 h1 => ?_
    obtain ⟨w, e, h1⟩ := h1.ofO
    obtain ⟨q, e2, rfl⟩ := Option.map_eq_some_iff.mp e
    exact ⟨q, truW_V k R1 q1 e2, h1.val R1 (.bl _)⟩
/-! ### tests -/
theorem bOut.ofO {σ : L2.St} {ι : List Addr} {H : Hp} {M : Mem} {o : Option Bool} {Q : Bool → Hp → Prop} (h : bOut Z Wx σ ι H (.ofO o M) Q) : ∃ w, o = some w ∧ bOut Z Wx σ ι H (.ok w M) Q := by
  cases o with
  | some w => exact ⟨w, rfl, h⟩
  | none => exact False.elim h
theorem t_val (k : Bx X Z Wx G) (ha : PE X a (TEx Z Wx G C C1 ea)) (he : ∀ whole, isTrue a X.env whole = (do let v ← whole; standAt a.pos; holding [v] (truthy v)) := by intro _; rfl) : PT X a (TTx Z Wx G C C1 ea) :=
  (pt_truth ha he).weak fun σ H Q ⟨ι, sw, M, s, R, h⟩ => tE.seqB s R h fun x M1 v H1 ι1 e1 R1 q1 s1 h1 => by
    obtain ⟨q, e, h1⟩ := h1.ofO
    exact ⟨q, truW_V k R1 q1 e, h1 H1 ι1 (Ext.refl _ _) R1⟩
theorem t_cmp (k : Bx X Z Wx G) (o : Cm) (ha : PE X a (TEx Z Wx G C C1 ea)) (hb : PE X b (TEx Z Wx G C C1 eb)) (hm : behindInMarks (cmOf o) b = false := by kernel_rfl) : PT X (.Compare a [cmOf o] [b] pos) (TTx Z Wx G C C1 (.cmp o ea eb)) :=
  (pt_cmpR (op_cmpW k.toXOk k.hS o) ha hb hm).weak fun σ H Q ⟨ι, sw, M, s, R, h⟩ => by
    have e : evT G C C1 (.cmp o ea eb) sw M = (evE G C C1 ea sw M).bind fun x M => (evE G C C1 eb sw M).bind fun y M => (cmpW G o x y M).bind fun r M => .ofO (truW G r M) M := by
      unfold evT
      simp only [evE]
      cases evE G C C1 ea sw M with
      | ok w M1 =>
        simp only [Out.bind_ok]
        cases evE G C C1 eb sw M1 with
        | ok w M2 => simp only [Out.bind_ok]
        | exc c M2 => rfl
        | bad => rfl
      | exc c M1 => rfl
      | bad => rfl
    rw [e] at h
    refine tE.seqB s R h fun x M1 v H1 ι1 e1 R1 q1 s1 h1 => tE.seqB s1 R1 h1 fun y M2 u H2 ι2 e2 R2 q2 s2 h2 => ⟨ι2, M2, x, y, R2, q1.mono e2.le, q2, ?_⟩
    cases e : cmpW G o x y M2 with
    | exc c M' => exact absurd e (prim_cmp o x y M2 c M')
    | bad => rw [e] at h2; exact False.elim h2
    | ok r M3 =>
      obtain ⟨q, rfl, rfl⟩ := cmpW_bl e
      rw [e] at h2
      intro w H3 ι3 e3 R3 q3
      cases q3
      exact ⟨q, rfl, (h2.shift e3) H3 ι3 (Ext.refl _ _) R3⟩
theorem t_cmp2 (k : Bx X Z Wx G) (o d : Cm) (ha : PE X a (TEx Z Wx G C C1 ea)) (hb : PE X b (TEx Z Wx G C C1 eb)) (hc : PE X c (TEx Z Wx G C C1 ec)) (hm : lastMarks [cmOf o, cmOf d] [b, c] = false := by kernel_rfl) :
    PT X (.Compare a [cmOf o, cmOf d] [b, c] pos) (TTx Z Wx G C C1 (.cmp2 o d ea eb ec)) :=
  (pt_chain (op_cmpW k.toXOk k.hS o) (op_cmpW k.toXOk k.hS d) ha hb hc hm).weak fun σ H Q ⟨ι, sw, M, s, R, h⟩ => by
    refine chain_read k o d ⟨ι, sw, M, s, R, ?_⟩
    unfold evT at h
    cases e : evE G C C1 (.cmp2 o d ea eb ec) sw M with
    | bad => rw [e] at h; exact h
    | exc c M1 => rw [e] at h; exact h
    | ok w M1 =>
      rw [e] at h
      obtain ⟨q, e2, h⟩ := bOut.ofO h
      intro v H1 ι1 e1 R1 q1
      have hw : ∃ b, w = .bl b := by
        simp only [evE] at e
        cases ex : evE G C C1 ea sw M with
        | ok x Ma =>
          rw [ex] at e
          simp only [Out.bind_ok] at e
          cases ey : evE G C C1 eb sw Ma with
          | ok y Mb =>
            rw [ey] at e
            simp only [Out.bind_ok] at e
            cases ec' : cmpW G o x y Mb with
            | ok r Mc =>
              obtain ⟨q, rfl, rfl⟩ := cmpW_bl ec'
              rw [ec'] at e
              have e : (if q = true then (evE G C C1 ec sw Mc).bind fun z M => cmpW G d y z M else .ok (.bl q) Mc) = .ok w M1 := e
              cases q with
              | true =>
                rw [if_pos rfl] at e
                cases ez : evE G C C1 ec sw Mc with
                | ok z Md => rw [ez] at e; obtain ⟨q, rfl, _⟩ := cmpW_bl e; exact ⟨q, rfl⟩
                | exc _ _ => rw [ez] at e; cases e
                | bad => rw [ez] at e; cases e
              | false => rw [if_neg Bool.false_ne_true] at e; cases e; exact ⟨_, rfl⟩
            | exc _ _ => rw [ec'] at e; cases e
            | bad => rw [ec'] at e; cases e
          | exc _ _ => rw [ey] at e; cases e
          | bad => rw [ey] at e; cases e
        | exc _ _ => rw [ex] at e; cases e
        | bad => rw [ex] at e; cases e
      obtain ⟨bb, rfl⟩ := hw
      cases q1
      cases e2
      exact ⟨_, rfl, h H1 ι1 e1 R1⟩
theorem t_one {op : BoolOp} (ha : PT X a (TTx Z Wx G C C1 ea)) : PW X (.BoolOp op [a] pos) (TTx Z Wx G C C1 ea) := by
  cases op
  · exact pw_and1 ha
  · exact pw_or1 ha
theorem evT_and (sw : Sw) (M : Mem) : evT G C C1 (.and ea eb) sw M = (evT G C C1 ea sw M).bind fun c M => if c then evT G C C1 eb sw M else .ok false M := by
  unfold evT
  simp only [evE]
  cases evE G C C1 ea sw M with
  | ok w M1 =>
    simp only [Out.bind_ok]
    cases e : truW G w M1 with
    | none => rfl
    | some q =>
      cases q with
      | true => rfl
      | false => show Out.ofO (truW G w M1) M1 = _; rw [e]; rfl
  | exc c M1 => rfl
  | bad => rfl
theorem evT_or (sw : Sw) (M : Mem) : evT G C C1 (.or ea eb) sw M = (evT G C C1 ea sw M).bind fun c M => if c then .ok true M else evT G C C1 eb sw M := by
  unfold evT
  simp only [evE]
  cases evE G C C1 ea sw M with
  | ok w M1 =>
    simp only [Out.bind_ok]
    cases e : truW G w M1 with
    | none => rfl
    | some q =>
      cases q with
      | true => show Out.ofO (truW G w M1) M1 = _; rw [e]; rfl
      | false => rfl
  | exc c M1 => rfl
  | bad => rfl
theorem evT_not (sw : Sw) (M : Mem) : evT G C C1 (.not ea) sw M = (evT G C C1 ea sw M).bind fun c M => .ok (!c) M := by
  unfold evT
  simp only [evE]
  cases evE G C C1 ea sw M with
  | ok w M1 =>
    simp only [Out.bind_ok]
    cases e : truW G w M1 with
    | none => rfl
    | some q => rfl
  | exc c M1 => rfl
  | bad => rfl
theorem t_and (ha : PT X a (TTx Z Wx G C C1 ea)) (hb : PW X (.BoolOp .And (b :: es) pos) (TTx Z Wx G C C1 eb)) : PW X (.BoolOp .And (a :: b :: es) pos) (TTx Z Wx G C C1 (.and ea eb)) :=
  (pw_and ha hb).weak fun σ H Q ⟨ι, sw, M, s, R, h⟩ => by
    rw [evT_and] at h
    refine tT.seqB s R h fun q M1 H1 ι1 e1 R1 s1 h1 => ?_
    cases q with
    | true => exact ⟨ι1, sw, M1, s1, R1, h1⟩
    | false => exact h1 H1 ι1 (Ext.refl _ _) R1
theorem t_or (ha : PT X a (TTx Z Wx G C C1 ea)) (hb : PW X (.BoolOp .Or (b :: es) pos) (TTx Z Wx G C C1 eb)) : PW X (.BoolOp .Or (a :: b :: es) pos) (TTx Z Wx G C C1 (.or ea eb)) :=
  (pw_or ha hb).weak fun σ H Q ⟨ι, sw, M, s, R, h⟩ => by
    rw [evT_or] at h
    refine tT.seqB s R h fun q M1 H1 ι1 e1 R1 s1 h1 => ?_
    cases q with
    | true => exact h1 H1 ι1 (Ext.refl _ _) R1
    | false => exact ⟨ι1, sw, M1, s1, R1, h1⟩
theorem t_w (h : PW X a (TTx Z Wx G C C1 ea)) : PT X a (TTx Z Wx G C C1 ea) := h.pt
theorem t_not (ha : PT X a (TTx Z Wx G C C1 ea)) : PT X (.UnaryOp .Not a pos) (TTx Z Wx G C C1 (.not ea)) :=
  (pt_not ha).weak fun σ H Q ⟨ι, sw, M, s, R, h⟩ => by
    rw [evT_not] at h
    exact tT.seqB s R h fun q M1 H1 ι1 e1 R1 s1 h1 => h1 H1 ι1 (Ext.refl _ _) R1
theorem e_ife (hc : PT X c (TTx Z Wx G C C1 ec)) (ha : PE X a (TEx Z Wx G C C1 ea)) (hb : PE X b (TEx Z Wx G C C1 eb)) : PE X (.IfExp c a b pos) (TEx Z Wx G C C1 (.ife ec ea eb)) :=
  (pe_ifExp hc ha hb).weak fun σ H Q ⟨ι, sw, M, s, R, h⟩ => by
    have e : evE G C C1 (.ife ec ea eb) sw M = (evT G C C1 ec sw M).bind fun c M => if c then evE G C C1 ea sw M else evE G C C1 eb sw M := by
      unfold evT
      simp only [evE]
      cases evE G C C1 ec sw M with
      | ok w M1 => rfl
      | exc c M1 => rfl
      | bad => rfl
    rw [e] at h
    refine tT.seqE s R h fun q M1 H1 ι1 e1 R1 s1 h1 => ?_
    cases q with
    | true => exact ⟨ι1, sw, M1, s1, R1, h1⟩
    | false => exact ⟨ι1, sw, M1, s1, R1, h1⟩
/-! ### subscripts -/
theorem e_sub (k : Bx X Z Wx G) (ha : PE X a (TEx Z Wx G C C1 ea)) (hb : PE X b (TEx Z Wx G C C1 eb)) (hs : PlainIx b := by intro _ _; rfl) : PE X (.Subscript a b pos) (TEx Z Wx G C C1 (.sub ea eb)) := by
  have : evE G C C1 (.sub ea eb) = fun sw M => (evE G C C1 ea sw M).bind fun x M => (evE G C C1 eb sw M).bind fun y M => subW G x y M := by funext σ M; simp only [evE]
  rw [TEx, this]; exact se_ix prim_sub (ix_subW k.toXOk k.hS) ha hb hs
abbrev evO (G : Pg) (C C1 : Nat → List Wv → Mem → Out Wv) (e : Ex) (σ : Sw) (M : Mem) : Out (Option Int) := if e.isNo then .ok none M else (evE G C C1 e σ M).bind fun y M => .ofO ((toI y).map some) M
theorem o_no : PO X none (tO Z Wx (evO G C C1 .no)) := so_none
theorem o_some (ha : PE X a (TEx Z Wx G C C1 ea)) (hn : ea.isNo = false := by rfl) : PO X (some a) (tO Z Wx (evO G C C1 ea)) := by
  have : evO G C C1 ea = fun σ M => (evE G C C1 ea σ M).bind fun y M => .ofO ((toI y).map some) M := by funext σ M; unfold evO; rw [hn]; rfl
  rw [this]; exact so_some ha
theorem e_slc (k : Bx X Z Wx G) {lo hi : Option Expr} {l h : Ex} (ha : PE X a (TEx Z Wx G C C1 ea)) (hl : PO X lo (tO Z Wx (evO G C C1 l))) (hh : PO X hi (tO Z Wx (evO G C C1 h))) : PE X (.Subscript a (.Slice lo hi none p) pos) (TEx Z Wx G C C1 (.slc ea l h)) := by
  have : evE G C C1 (.slc ea l h) = fun sw M => (evE G C C1 ea sw M).bind fun x M => (evO G C C1 l sw M).bind fun l M => (evO G C C1 h sw M).bind fun h M => slcW x l h M := by funext σ M; simp only [evE]
  rw [TEx, this]; exact se_slc k.toXOk ha hl hh
theorem e_rev (k : Bx X Z Wx G) {kk : Nat} {p1 p2 p3 : Pos} (ha : PE X a (TEx Z Wx G C C1 ea)) : PE X (.Subscript a (.Slice none none (some (.UnaryOp .USub (.Constant (.int 1) kk p1) p2)) p3) pos) (TEx Z Wx G C C1 (.srev false ea)) := by
  have : evE G C C1 (.srev false ea) = fun sw M => (evE G C C1 ea sw M).bind fun x M => revW false x M := by funext σ M; simp only [evE]
  rw [TEx, this]; exact se_rev k.toXOk ha
theorem e_down (k : Bx X Z Wx G) {kk k2 : Nat} {p0 p1 p2 p3 : Pos} (ha : PE X a (TEx Z Wx G C C1 ea)) : PE X (.Subscript a (.Slice none (some (.Constant (.int 0) k2 p0)) (some (.UnaryOp .USub (.Constant (.int 1) kk p1) p2)) p3) pos) (TEx Z Wx G C C1 (.srev true ea)) := by
  have : evE G C C1 (.srev true ea) = fun sw M => (evE G C C1 ea sw M).bind fun x M => revW true x M := by funext σ M; simp only [evE]
  rw [TEx, this]; exact se_down k.toXOk ha
/-! ### built-ins, methods, isinstance -/
def biB : Bi → Bool
  | .tuple => false
  | .int => false
  | .sset => false
  | .sorT => false
  | _ => true
def biNm : Bi → Str
  | .len => "len"
  | .all => "all"
  | .any => "any"
  | .sum => "sum"
  | .min => "min"
  | .max => "max"
  | .sorted => "sorted"
  | .abs => "abs"
  | .list => "list"
  | .dict => "dict"
  | .tuple => "tuple"
  | .str => "str"
  | .int => "int"
  | .sset => "set"
  | .sorT => "sorted"
def biV : Bi → Value
  | .len => .builtin "len"
  | .all => .builtin "all"
  | .any => .builtin "any"
  | .sum => .builtin "sum"
  | .min => .builtin "min"
  | .max => .builtin "max"
  | .sorted => .builtin "sorted"
  | .abs => .builtin "abs"
  | .list => .type "list"
  | .dict => .type "dict"
  | .tuple => .type "tuple"
  | .str => .type "str"
  | .int => .type "int"
  | .sset => .type "set"
  | .sorT => .builtin "sorted"
theorem biV_boot (o : Bi) : bootBuiltins (biNm o) = some (biV o) := by cases o <;> kernel_rfl
theorem call_bi (k : XOk X Z) (hS : Z.S = G.S) (o : Bi) (h : biB o = true) : CallR X (biV o) (rN Z (biW G o)) := by
  cases o
  · exact cb_len k hS
  · exact cb_all k
  · exact cb_any k
  · exact cb_sum k
  · exact cb_min k hS
  · exact cb_max k hS
  · exact cb_sorted k hS
  · exact cb_abs
  · exact cb_list k hS
  · exact cb_dict k
  · cases h
  · exact cb_str k hS
  all_goals cases h
theorem e_bi (k : Bx X Z Wx G) (o : Bi) (hm : X.mg (biNm o) = none) (ha : PA X (e :: es) (TAx Z Wx G C C1 el)) (ho : biB o = true := by rfl) (hg : gloB X.env (biNm o) = true := by kernel_rfl)
    (he : starEach (e :: es) X.env = (false, eval e X.env) :: starEach es X.env := by rfl) (hpl : (backTo pos (starEach es X.env)).any (·.1) = false := by rfl) : PE X (.Call (.Name (biNm o) p) (e :: es) [] pos) (TEx Z Wx G C C1 (.bi o el)) := by
  obtain ⟨h1, h2, h3⟩ := gloB_ok hg
  have : evE G C C1 (.bi o el) = fun sw M => (evL G C C1 el sw M).bind fun ws M => biW G o ws M := by funext σ M; simp only [evE]
  rw [TEx, this]
  have hb := biV_boot o
  have hc := call_bi (G := G) k.toXOk k.hS o ho
  cases o
  · exact se_callB (prim_bi _) hc h1 hm hb ha h3 h2 he hpl
  · exact se_callB (prim_bi _) hc h1 hm hb ha h3 h2 he hpl
  · exact se_callB (prim_bi _) hc h1 hm hb ha h3 h2 he hpl
  · exact se_callB (prim_bi _) hc h1 hm hb ha h3 h2 he hpl
  · exact se_callB (prim_bi _) hc h1 hm hb ha h3 h2 he hpl
  · exact se_callB (prim_bi _) hc h1 hm hb ha h3 h2 he hpl
  · exact se_callB (prim_bi _) hc h1 hm hb ha h3 h2 he hpl
  · exact se_callB (prim_bi _) hc h1 hm hb ha h3 h2 he hpl
  · exact se_callTy (prim_bi _) hc h1 hm hb ha h3 h2 he hpl
  · exact se_callTy (prim_bi _) hc h1 hm hb ha h3 h2 he hpl
  · cases ho
  · exact se_callTy (prim_bi _) hc h1 hm hb ha h3 h2 he hpl
  all_goals cases ho
def kdNm : Kd → Str
  | .int => "int"
  | .bool => "bool"
  | .str => "str"
  | .tuple => "tuple"
  | .list => "list"
theorem kd_boot (o : Kd) : bootBuiltins (kdNm o) = some (.type (kdT o)) := by cases o <;> kernel_rfl
theorem e_isi (k : Bx X Z Wx G) (o : Kd) (hm : X.mg "isinstance" = none) (hmx : X.mg (kdNm o) = none) (ha : PE X a (TEx Z Wx G C C1 ea)) (hg : gloB X.env "isinstance" = true := by kernel_rfl) (hgx : gloB X.env (kdNm o) = true := by kernel_rfl)
    (he : starEach [a, .Name (kdNm o) p2] X.env = (false, eval a X.env) :: starEach [.Name (kdNm o) p2] X.env := by rfl) (he2 : starEach [.Name (kdNm o) p2] X.env = (false, eval (.Name (kdNm o) p2) X.env) :: starEach [] X.env := by rfl) (hpl : (backTo pos (starEach [.Name (kdNm o) p2] X.env)).any (·.1) = false := by rfl) :
    PE X (.Call (.Name "isinstance" p) [a, .Name (kdNm o) p2] [] pos) (TEx Z Wx G C C1 (.isi o ea)) := by
  obtain ⟨h1, h2, h3⟩ := gloB_ok hg
  obtain ⟨g1, g2, g3⟩ := gloB_ok hgx
  have : evE G C C1 (.isi o ea) = fun sw M => (evE G C C1 ea sw M).bind fun x M => .ofO ((isiW o x M).map .bl) M := by funext σ M; simp only [evE]
  rw [TEx, this]
  exact se_isi k.toXOk h1 hm g1 hmx (kd_boot o) ha g3 g2 he he2 hpl
theorem e_bm (k : Bx X Z Wx G) (m : Bm) {apos : Pos} (ho : PE X a (TEx Z Wx G C C1 ea)) (ha : PA X (e :: es) (TAx Z Wx G C C1 el))
    (hbase : attributeBase a (bmNm m) X.env (eval a X.env) = eval a X.env := by rfl)
    (hfew : ((backTo pos (starEach (e :: es) X.env)).all (fun x => !x.1) && (backToKw pos (keywordEach [] X.env)).all (fun x => x.1.isSome)
      && decide ((e :: es).length + ([] : List Keyword).length + (if ([] : List Keyword).isEmpty then 0 else 1) < 30)) = true := by rfl)
    (hline : (apos.endLine == pos.line) = true := by rfl) (hs : starEach (e :: es) X.env = (false, eval e X.env) :: starEach es X.env := by rfl) (hplain : (backTo pos (starEach es X.env)).any (·.1) = false := by rfl) :
    PE X (.Call (.Attribute a (bmNm m) apos) (e :: es) [] pos) (TEx Z Wx G C C1 (.bm m ea el)) := by
  have : evE G C C1 (.bm m ea el) = fun sw M => (evE G C C1 ea sw M).bind fun x M => .chk (bmT m x M) ((evL G C C1 el sw M).bind fun ws M => bmW m x ws M) := by funext σ M; simp only [evE]
  rw [TEx, this]
  exact se_bm k.toXOk ho ha hbase hfew hline hs hplain
end
end MP
end
section
set_option Elab.async false
set_option linter.all false
set_option maxRecDepth 100000
/-! MP12: attributes, calls, methods, instances made. -/
namespace MP
open PySem PySem.Spec PyProof.Rows L2

/-- a def's end -/
def cOut (Z : Zt) (ι : List Addr) (H : Hp) (r : Out Wv) (Q : VK) (E : XK) : Prop := match r with
  | .ok w M => ∀ v H' ι', Ext ι ι' H H' → RM Z ι' M H' → WR Z ι' H' w v → Q v H'
  | .exc c M => ∀ H' ι', Ext ι ι' H H' → RM Z ι' M H' → E (.ref (Z.exc c)) none H'
  | .bad => False
/-- a def's promise: what the small Python reckons -/
def spI (Z : Zt) (F : List Wv → Mem → Out Wv) : Sp := fun vs H Q E => ∃ ι M ws, RM Z ι M H ∧ WsR Z ι H ws vs ∧ cOut Z ι H (F ws M) Q E
/-- a def keeps its promise where no repr is under way -/
structure FnG (P : Program) (w : World) (K : PySem.W.Frag) (mg : Str → Option Value) (base : Heap) (k : Nat) (f : Addr) (fd : FuncData) (ps : List Str) (sp : Sp) : Prop where
  ln : ∀ vs H Q E, sp vs H Q E → vs.length = ps.length
  go : ∀ (A : Around) (out : List Env) (s : Shared) (H : Hp) (ar : Args) (us : List Value) (vs : List V) (Q : VK) (E : XK), A.guards = some [] → Room k A → Env0 P w K mg base A out s H → BindsTo s fd ar (ps.zip us) → Vals vs us → sp vs H Q E → codeAny (model P w) A (.call (.ref f) ar) (CR (L2.CX P w) out P w H s Q E) s
theorem make_guards {A : Around} {C : Addr} {us : List Value} (h : A.guards = some []) : (A.under (.builtin "type.__call__" ⟨.ref C :: us, []⟩)).guards = some [] := by
  first
    | (simp [Around.under, h, Code.guards, Code.isGuard, guardIds, pushGuards]; done)
    | (unfold Around.under; simp only [h]; rfl)
/-- a callee -/
structure Cal (P : Program) (w : World) (K : PySem.W.Frag) (mg : Str → Option Value) (base : Heap) (A : Around) (Z : Zt) (F : List Wv → Mem → Out Wv) (f : Addr) (dws : List Wv) : Prop where
  ex : ∃ n fd ps ds dvs, FnG P w K mg base n f fd ps (spI Z F) ∧ Room n A ∧ Binds K fd ps ds ∧ Vals dvs ds ∧ ∀ ι H, WsR Z ι H dws dvs
/-- .. by a name of the module -/
structure CalG (P : Program) (w : World) (K : PySem.W.Frag) (mg : Str → Option Value) (base : Heap) (A : Around) (Z : Zt) (F : List Wv → Mem → Out Wv) (x : Str) (dws : List Wv) : Prop where
  ex : ∃ f, mg x = some (.ref f) ∧ PySem.W.keepIn K (.ref f) = true ∧ Cal P w K mg base A Z F f dws
section
variable {X : Cx} {Z : Zt} {Wx : Wish} {G : Pg} {C C1 : Nat → List Wv → Mem → Out Wv} {a b c e : Expr} {es : List Expr} {ea eb ec : Ex} {el : El} {pos p p2 p3 apos : Pos}
variable {pins : List (Addr × Obj)} {σ : L2.St} {H : Hp} {s : Shared} {ι : List Addr} {M : Mem} {Q : VK}
theorem FsR.look {fs : List (Str × Wv)} {vs : List (Str × V)} {f : Str} (r : FsR Z ι H fs vs) : (∀ w, fs.lookup f = some w → ∃ v, vs.lookup f = some v ∧ WR Z ι H w v) ∧ (fs.lookup f = none → vs.lookup f = none) := by
  induction r with
  | nil => exact ⟨fun w h => (by cases h), fun _ => rfl⟩
  | @cons p q ps qs h t ih =>
    obtain ⟨n1, w1⟩ := p
    obtain ⟨n2, v2⟩ := q
    obtain ⟨e, hw⟩ := h
    simp only at e hw
    subst e
    simp only [List.lookup_cons]
    cases hc : f == n1 with
    | true => exact ⟨fun w h => (by cases h; exact ⟨v2, rfl, hw⟩), fun h => (by cases h)⟩
    | false => exact ih
theorem FsR.put {fs : List (Str × Wv)} {vs : List (Str × V)} {f : Str} {w : Wv} {v : V} (r : FsR Z ι H fs vs) (hw : WR Z ι H w v) : FsR Z ι H (MP.putF f w fs) (L2.putF f v vs) := by
  induction r with
  | nil => exact .cons ⟨rfl, hw⟩ .nil
  | @cons p q ps qs h t ih =>
    obtain ⟨n1, w1⟩ := p
    obtain ⟨n2, v2⟩ := q
    obtain ⟨e, hw1⟩ := h
    simp only at e hw1
    subst e
    unfold MP.putF L2.putF
    by_cases hc : n1 = f
    · subst hc
      rw [if_pos rfl, if_pos rfl]
      exact .cons ⟨rfl, hw⟩ t
    · rw [if_neg hc, if_neg hc]
      exact .cons ⟨rfl, hw1⟩ ih
/-- the classes may have an attribute of that name -/
def AtOk (Z : Zt) (G : Pg) (f : Str) : Prop := ∀ c k, G.cls c = some k → Cls Z.K (Z.cls c) ∧ NoAttr Z.K (Z.cls c) f
theorem attr_at {x : Wv} {v : V} {f : Str} {w : Wv} {M1 : Mem} (R : RM Z ι M H) (hx : WR Z ι H x v) (h : attrW G x f M = .ok w M1) : M1 = M ∧ ∃ l c fs a dx vs u, x = .ref l ∧ v = .ref a ∧ M[l]? = some (.ins c fs) ∧ ι[l]? = some a ∧ (G.cls c).isSome = true ∧ H a = some (.ins (Z.cls c) dx vs) ∧ FsR Z ι H fs vs ∧ vs.lookup f = some u ∧ WR Z ι H w u := by
  cases hx with
  | ref hl =>
    rename_i l a
    simp only [attrW] at h
    split at h
    · rename_i c fs hM
      cases hc : (G.cls c).isSome with
      | false => rw [hc] at h; cases h
      | true =>
        rw [hc] at h
        have h : Out.ofO (fs.lookup f) M = .ok w M1 := h
        cases e : fs.lookup f with
        | none => rw [e] at h; cases h
        | some y =>
          rw [e] at h
          cases h
          obtain ⟨dx, vs, h1, h2⟩ := R.ob _ _ _ hM hl
          obtain ⟨u, g1, g2⟩ := h2.look.1 _ e
          exact ⟨rfl, l, c, fs, a, dx, vs, u, rfl, rfl, hM, hl, hc, h1, h2, g1, g2⟩
    · cases h
  | _ => cases h
theorem prim_attr (x : Wv) (f : Str) (M : Mem) : Prim (attrW G x f M) := by
  unfold attrW
  split
  · split
    · exact Prim.ofO.chk
    · exact Prim.bad
  · exact Prim.bad
theorem e_attr (k : Bx X Z Wx G) {f : Str} (hf : AtOk Z G f) (ha : PE X a (TEx Z Wx G C C1 ea)) (hb : attributeBase a f X.env (eval a X.env) = eval a X.env := by rfl) : PE X (.Attribute a f pos) (TEx Z Wx G C C1 (.attr ea f)) := by
  have : evE G C C1 (.attr ea f) = fun sw M => (evE G C C1 ea sw M).bind fun x M => attrW G x f M := by funext σ M; simp only [evE]
  rw [TEx, this]
  refine (pe_fld ha hb).weak fun σ H Q ⟨ι, sw, M, s, R, h⟩ => tE.seqE s R h fun x M1 v H1 ι1 e1 R1 q1 s1 h1 => ?_
  have h2 := (prim_attr x f M1).out h1
  cases e : attrW G x f M1 with
  | ok w M2 =>
    obtain ⟨rfl, l, c, fs, a, dx, vs, u, rfl, rfl, hM, hl, hc, h3, h4, h5, h6⟩ := attr_at R1 q1 e
    rw [e] at h2
    obtain ⟨kk, hk⟩ := Option.isSome_iff_exists.mp hc
    obtain ⟨g1, g2⟩ := hf c kk hk
    rw [← k.K] at g1 g2
    exact ⟨a, Z.cls c, dx, vs, u, rfl, h3, g1, g2, h5, h2.val R1 h6⟩
  | exc c M2 => rw [e] at h2; exact False.elim h2
  | bad => rw [e] at h2; exact False.elim h2
/-! ### calls -/
theorem run_cal (k : Bx X Z Wx G) {F : List Wv → Mem → Out Wv} {f : Addr} {fd : FuncData} {ps : List Str} {n : Nat} {args : Args} {us : List Value} {vs : List V} {ws : List Wv} {ι : List Addr}
    (Fn : FnG X.prog X.w X.K X.mg X.base n f fd ps (spI Z F)) (hr : Room n X.A) (I : L2.Inv X pins σ H s) (hb : BindsTo s fd args (ps.zip us)) (rv : Vals vs us) (R : RM Z ι M H) (wr : WsR Z ι H ws vs) (h : eOut Z Wx σ ι H (F ws M) Q) :
    codeAny (model X.prog X.w) X.A (.call (.ref f) args) (fun r s' => match r with | .ok (.ret u) => EP X pins σ Q u s' | .ok _ => False | .error e => X.xe e s') s := by
  refine codeAny_mono (Fn.go X.A X.stack s H args us vs Q (WE (wxO Z Wx) σ) k.gd hr I.env0 hb rv ⟨ι, M, ws, R, wr, ?_⟩) fun r s' hq => ?_
  · cases e : F ws M with
    | ok w M1 => rw [e] at h; exact h
    | exc c M1 => rw [e] at h; exact fun H' ι' x R => ⟨rfl, c, rfl, h H' ι' x R⟩
    | bad => rw [e] at h; exact h
  · cases r with
    | error e => exact passAt k.tk σ pins H s e s' I hq
    | ok fl =>
      cases fl with
      | ret u => exact I.after hq
      | next => exact False.elim hq
      | brk => exact False.elim hq
      | cont => exact False.elim hq
theorem call_len {F : List Wv → Mem → Out Wv} {f : Addr} {fd : FuncData} {ps : List Str} {n : Nat} {vs : List V} {ws : List Wv} {P : Program} {w : World} {K : PySem.W.Frag} {mg : Str → Option Value} {base : Heap}
    (Fn : FnG P w K mg base n f fd ps (spI Z F)) (R : RM Z ι M H) (wr : WsR Z ι H ws vs) (h : eOut Z Wx σ ι H (F ws M) Q) : vs.length = ps.length := by
  refine Fn.ln vs H (fun _ _ => True) (fun _ _ _ => True) ⟨ι, M, ws, R, wr, ?_⟩
  cases e : F ws M with
  | ok w M1 => exact fun _ _ _ _ _ _ => trivial
  | exc c M1 => exact fun _ _ _ _ => trivial
  | bad => rw [e] at h; exact h
theorem run_calD (k : Bx X Z Wx G) {F : List Wv → Mem → Out Wv} {f : Addr} {dws ws : List Wv} {us : List Value} {vs : List V} {ι : List Addr} (c : Cal X.prog X.w X.K X.mg X.base X.A Z F f dws) (I : L2.Inv X pins σ H s) (rv : Vals vs us) (R : RM Z ι M H) (wr : WsR Z ι H ws vs)
    (h : eOut Z Wx σ ι H (F (ws ++ dws) M) Q) : wpAny (model X.prog X.w) X.A (call (.ref f) us) (EP X pins σ Q) X.xe s := by
  obtain ⟨n, fd, ps, ds, dvs, Fn, hr, hb, hd, hw⟩ := c.ex
  have wr2 := wr.append (hw ι H)
  have r2 : Vals (vs ++ dvs) (us ++ ds) := rv.append hd
  have hl : (us ++ ds).length = ps.length := by rw [← r2.length]; exact call_len Fn R wr2 h
  refine wpAny_call (codeAny_mono (run_cal k Fn hr I (hb s us I.kIn hl) r2 R wr2 h) fun r s' hq => ?_)
  cases r with
  | error e => exact hq
  | ok fl => cases fl <;> exact hq
theorem e_call (k : Bx X Z Wx G) {i : Nat} {x : Str} {dws : List Wv} (c : CalG X.prog X.w X.K X.mg X.base X.A Z (C i) x dws) (ha : PA X (e :: es) (TAx Z Wx G C C1 el)) (hg : gloB X.env x = true := by kernel_rfl)
    (he : starEach (e :: es) X.env = (false, eval e X.env) :: starEach es X.env := by rfl) (hpl : (backTo pos (starEach es X.env)).any (·.1) = false := by rfl) : PE X (.Call (.Name x p) (e :: es) [] pos) (TEx Z Wx G C C1 (.call i el dws)) := by
  obtain ⟨h1, h2, h3⟩ := gloB_ok hg
  obtain ⟨f, hm, hk, cc⟩ := c.ex
  refine ⟨fun pins s σ H Q I ⟨ι, sw, M, sr, R, h⟩ => ?_⟩
  simp only [evE] at h
  refine wpAny_Call_Name_kw (ld_glob I h1 hm ?_ h2)
  refine PySem.W.callWith_K (h₀ := X.base) I.ok.mod.kin hk (thn (ha.run pos pins s σ H (fun vs H1 => ∃ ι1 M1 ws, RM Z ι1 M1 H1 ∧ WsR Z ι1 H1 ws vs ∧ eOut Z Wx σ ι1 H1 (C i (ws ++ dws) M1) Q) I (tA.seqE sr R h fun ws M1 vs H1 ι1 e1 R1 q1 s1 h1 => ⟨ι1, M1, ws, R1, q1, h1⟩)) fun us s1 ⟨vs, H1, I1, r, ι1, M1, ws, R1, q1, h1⟩ => ⟨I1.kIn, ?_⟩) he hpl
  exact run_calD k cc I1 r R1 q1 h1
/-- f(): no arguments -/
theorem e_call0 (k : Bx X Z Wx G) {i : Nat} {x : Str} {dws : List Wv} (c : CalG X.prog X.w X.K X.mg X.base X.A Z (C i) x dws) (hg : gloB X.env x = true := by kernel_rfl) : PE X (.Call (.Name x p) [] [] pos) (TEx Z Wx G C C1 (.call i .nil dws)) := by
  obtain ⟨h1, h2, h3⟩ := gloB_ok hg
  obtain ⟨f, hm, hk, cc⟩ := c.ex
  refine ⟨fun pins s σ H Q I ⟨ι, sw, M, sr, R, h⟩ => ?_⟩
  simp only [evE, evL] at h
  refine wpAny_Call_Name_kw (ld_glob I h1 hm ?_ h2)
  exact PySem.W.callWith_K0 I.kIn hk (run_calD (us := []) k cc I .nil R .nil h)
/-- one keyword, the last parameter -/
structure CalK (P : Program) (w : World) (K : PySem.W.Frag) (mg : Str → Option Value) (base : Heap) (A : Around) (Z : Zt) (F : List Wv → Mem → Out Wv) (x : Str) (m : Nat) (y : Str) : Prop where
  ex : ∃ f n fd ps, mg x = some (.ref f) ∧ PySem.W.keepIn K (.ref f) = true ∧ FnG P w K mg base n f fd ps (spI Z F) ∧ Room n A ∧ ps.length = m + 1 ∧
    ∀ (s : Shared) (us : List Value) (u : Value), K.In s.heap → us.length = m → BindsTo s fd ⟨us, [(y, u)]⟩ (ps.zip (us ++ [u]))
theorem e_callk (k : Bx X Z Wx G) {i m : Nat} {x y : Str} (c : CalK X.prog X.w X.K X.mg X.base X.A Z (C i) x m y) {kpos : Pos} (ha : PA X (e :: es) (TAx Z Wx G C C1 el)) (hk : PE X a (TEx Z Wx G C C1 ea)) (hg : gloB X.env x = true := by kernel_rfl)
    (hall : (backToKw pos (keywordEach [⟨some y, a, kpos⟩] X.env)).all (·.1.isSome) = true := by rfl) (hks : (backToKw pos (keywordEach [⟨some y, a, kpos⟩] X.env)).filterMap (·.1) = [y] := by rfl)
    (he : starEach (e :: es) X.env = (false, eval e X.env) :: starEach es X.env := by rfl)
    (hpl : ((backTo pos (starEach (e :: es) X.env)).any (·.1) || (backToKw pos (keywordEach [⟨some y, a, kpos⟩] X.env)).any (·.1.isNone)) = false := by rfl) :
    PE X (.Call (.Name x p) (e :: es) [⟨some y, a, kpos⟩] pos) (TEx Z Wx G C C1 (.callk i el ea)) := by
  obtain ⟨h1, h2, h3⟩ := gloB_ok hg
  obtain ⟨f, n, fd, ps, hm, hkp, Fn, hr, hpl', hb⟩ := c.ex
  refine ⟨fun pins s σ H Q I ⟨ι, sw, M, sr, R, h⟩ => ?_⟩
  simp only [evE] at h
  refine wpAny_Call_Name_kw (ld_glob I h1 hm ?_ h2)
  refine PySem.W.callWith_KW (h₀ := X.base) I.ok.mod.kin hkp hall (thn (ha.run pos pins s σ H (fun vs H1 => ∃ ι1 M1 ws, RM Z ι1 M1 H1 ∧ SR Z ι1 H1 sw σ ∧ WsR Z ι1 H1 ws vs ∧ eOut Z Wx σ ι1 H1 ((evE G C C1 ea sw M1).bind fun w M => C i (ws ++ [w]) M) Q) I
    (tA.seqE sr R h fun ws M1 vs H1 ι1 e1 R1 q1 s1 h1 => ⟨ι1, M1, ws, R1, s1, q1, h1⟩)) fun us s1 ⟨vs, H1, I1, r, ι1, M1, ws, R1, sr1, q1, h1⟩ => ?_) hpl he
  have pk : PK X [⟨some y, a, kpos⟩] (tCons (TEx Z Wx G C C1 ea) tNil) := pk_cons hk pk_nil
  refine thn (pk.run pos pins s1 σ H1 (fun zs H2 => ∃ z ι2 M2 w, zs = [z] ∧ RM Z ι2 M2 H2 ∧ WsR Z ι2 H2 (ws ++ [w]) (vs ++ [z]) ∧ eOut Z Wx σ ι2 H2 (C i (ws ++ [w]) M2) Q) I1
    (tE.seqE sr1 R1 h1 fun w M2 z H2 ι2 e2 R2 q2 s2 h2 => ⟨z, ι2, M2, w, rfl, R2, (q1.mono e2.le).append (.cons q2 .nil), h2⟩)) fun zs s2 ⟨zv, H2, I2, rz, z, ι2, M2, w, ez, R2, q2, h2⟩ => ⟨I2.kIn, ?_⟩
  subst ez
  obtain ⟨u, rfl, ru⟩ := vals1 rz
  rw [hks]
  have hl : (vs ++ [z]).length = ps.length := call_len Fn R2 q2 h2
  have hlm : us.length = m := by
    have := r.length
    rw [List.length_append, List.length_singleton] at hl
    omega
  refine wpAny_call (codeAny_mono (run_cal k Fn hr I2 (hb s2 us u I2.kIn hlm) (r.append (.cons ru .nil)) R2 q2 h2) fun r s' hq => ?_)
  cases r with
  | error e => exact hq
  | ok fl => cases fl <;> exact hq
/-! ### methods -/
/-- o.m(..): for each class that has it -/
def MetOk (P : Program) (w : World) (K : PySem.W.Frag) (mg : Str → Option Value) (base : Heap) (A : Around) (Z : Zt) (G : Pg) (C : Nat → List Wv → Mem → Out Wv) (m : Str) (dws : List Wv) : Prop :=
  ∀ c k i, G.cls c = some k → k.meths.lookup m = some i → ∃ f, Cls K (Z.cls c) ∧ Meth K (Z.cls c) m f ∧ Cal P w K mg base A Z (C i) f dws
theorem metW_at {x : Wv} {v : V} {m : Str} {i : Nat} (R : RM Z ι M H) (hx : WR Z ι H x v) (h : metW G m x M = some i) : ∃ c a dx vs kk, v = .ref a ∧ G.cls c = some kk ∧ kk.meths.lookup m = some i ∧ H a = some (.ins (Z.cls c) dx vs) ∧ vs.lookup m = none := by
  cases hx with
  | ref hl =>
    rename_i l a
    cases hM : M[l]? with
    | none => simp [metW, hM] at h
    | some o =>
      cases o with
      | ins c fs =>
        cases hc : G.cls c with
        | none => simp [metW, hM, hc] at h
        | some kk =>
          cases hm : kk.meths.lookup m with
          | none => simp [metW, hM, hc, hm] at h
          | some i' =>
            by_cases hn : fs.lookup m = none
            · simp [metW, hM, hc, hm, hn] at h
              subst h
              obtain ⟨dx, vs, h1, h2⟩ := R.ob _ _ _ hM hl
              exact ⟨c, a, dx, vs, kk, rfl, hc, hm, h1, h2.look.2 hn⟩
            · simp [metW, hM, hc, hm, hn] at h
      | lst ws' => simp [metW, hM] at h
      | dct ws' => simp [metW, hM] at h
  | _ => cases h
theorem e_meth {pl : Sem Bool} (k : Bx X Z Wx G) {m : Str} {dws : List Wv} (mo : MetOk X.prog X.w X.K X.mg X.base X.A Z G C m dws) (ho : PE X a (TEx Z Wx G C C1 ea)) (ha : PA X (e :: es) (TAx Z Wx G C C1 el))
    (hst : starEach (e :: es) X.env = (false, eval e X.env) :: starEach es X.env := by rfl) (hpl : (backTo pos (starEach es X.env)).any (·.1) = false := by rfl)
    (ht : eval (.Call (.Attribute a m apos) (e :: es) [] pos) X.env = (do
      let ov ← eval a X.env
      standAt apos.atName
      let (f, first) ← holding [ov] (getMethod ov m pl)
      callWith pos f first (backTo pos (starEach (e :: es) X.env)) (backToKw pos (keywordEach [] X.env))) := by rfl) :
    PE X (.Call (.Attribute a m apos) (e :: es) [] pos) (TEx Z Wx G C C1 (.meth m ea el dws)) := by
  refine ⟨fun pins s σ H Q I ⟨ι, sw, M, sr, R, h⟩ => ?_⟩
  simp only [evE] at h
  refine PySem.W.methodCall_KW (pl := pl) (thn (ho.run pins s σ H (fun v H1 => ∃ ι1 M1 x i, RM Z ι1 M1 H1 ∧ SR Z ι1 H1 sw σ ∧ WR Z ι1 H1 x v ∧ metW G m x M1 = some i ∧ eOut Z Wx σ ι1 H1 ((evL G C C1 el sw M1).bind fun ws M => C i (x :: (ws ++ dws)) M) Q) I
    (tE.seqE sr R h fun x M1 v H1 ι1 e1 R1 q1 s1 h1 => by
      obtain ⟨i, ei, h1⟩ := h1.ofOb
      exact ⟨ι1, M1, x, i, R1, s1, q1, ei, h1⟩)) fun u s1 ⟨v, H1, I1, rx, ι1, M1, x, i, R1, sr1, q1, ei, h1⟩ => ?_) ht
  obtain ⟨c, aa, dx, vs, kk, rfl, g1, g2, g3, g4⟩ := metW_at R1 q1 ei
  obtain rfl : u = Value.ref aa := rx
  obtain ⟨f, c1, c2, cc⟩ := mo c kk i g1 g2
  refine getmeth_ok I1 g3 c1 c2 g4 ?_
  refine PySem.W.callWith_K (first := [.ref aa]) (h₀ := X.base) I.ok.mod.kin c2.kp (thn (ha.run pos pins s1 σ H1 (fun vs H2 => ∃ ι2 M2 ws, RM Z ι2 M2 H2 ∧ WsR Z ι2 H2 (x :: ws) (.ref aa :: vs) ∧ eOut Z Wx σ ι2 H2 (C i (x :: ws ++ dws) M2) Q) I1
    (tA.seqE sr1 R1 h1 fun ws M2 vs H2 ι2 e2 R2 q2 s2 h2 => ⟨ι2, M2, ws, R2, .cons (q1.mono e2.le) q2, h2⟩)) fun us s2 ⟨vs, H2, I2, r, ι2, M2, ws, R2, q2, h2⟩ => ⟨I2.kIn, ?_⟩) hst hpl
  exact run_calD (us := .ref aa :: us) (vs := .ref aa :: vs) k cc I2 (.cons rfl r) R2 q2 h2
theorem e_meth0 {pl : Sem Bool} (k : Bx X Z Wx G) {m : Str} {dws : List Wv} (mo : MetOk X.prog X.w X.K X.mg X.base X.A Z G C m dws) (ho : PE X a (TEx Z Wx G C C1 ea))
    (ht : eval (.Call (.Attribute a m apos) [] [] pos) X.env = (do
      let ov ← eval a X.env
      standAt apos.atName
      let (f, first) ← holding [ov] (getMethod ov m pl)
      callWith pos f first (backTo pos (starEach [] X.env)) (backToKw pos (keywordEach [] X.env))) := by rfl) :
    PE X (.Call (.Attribute a m apos) [] [] pos) (TEx Z Wx G C C1 (.meth m ea .nil dws)) := by
  refine ⟨fun pins s σ H Q I ⟨ι, sw, M, sr, R, h⟩ => ?_⟩
  simp only [evE, evL, Out.bind_ok] at h
  refine PySem.W.methodCall_KW (pl := pl) (thn (ho.run pins s σ H (fun v H1 => ∃ ι1 M1 x i, RM Z ι1 M1 H1 ∧ WR Z ι1 H1 x v ∧ metW G m x M1 = some i ∧ eOut Z Wx σ ι1 H1 (C i (x :: ([] ++ dws)) M1) Q) I
    (tE.seqE sr R h fun x M1 v H1 ι1 e1 R1 q1 s1 h1 => by
      obtain ⟨i, ei, h1⟩ := h1.ofOb
      exact ⟨ι1, M1, x, i, R1, q1, ei, h1⟩)) fun u s1 ⟨v, H1, I1, rx, ι1, M1, x, i, R1, q1, ei, h1⟩ => ?_) ht
  obtain ⟨c, aa, dx, vs, kk, rfl, g1, g2, g3, g4⟩ := metW_at R1 q1 ei
  obtain rfl : u = Value.ref aa := rx
  obtain ⟨f, c1, c2, cc⟩ := mo c kk i g1 g2
  refine getmeth_ok I1 g3 c1 c2 g4 ?_
  exact PySem.W.callWith_K0 (first := [.ref aa]) I1.kIn c2.kp (run_calD (us := [.ref aa]) (vs := [.ref aa]) k cc I1 (.cons rfl .nil) R1 (.cons q1 .nil) h1)
/-! ### instances made -/
structure MakOk (P : Program) (w : World) (K : PySem.W.Frag) (mg : Str → Option Value) (base : Heap) (A : Around) (Z : Zt) (G : Pg) (C1 : Nat → List Wv → Mem → Out Wv) (x : Str) (c : Nat) : Prop where
  ex : ∃ kk f n fd ps, G.cls c = some kk ∧ mg x = some (.ref (Z.cls c)) ∧ Mk K (Z.cls c) f ∧ FnG P w K mg base n f fd ps (spI Z (C1 kk.init)) ∧ Room (n + 1) A ∧ Binds K fd ps []
theorem run_mak (k : Bx X Z Wx G) {x : Str} {c : Nat} {ws : List Wv} {us : List Value} {vs : List V} {ι : List Addr} (mk : MakOk X.prog X.w X.K X.mg X.base X.A Z G C1 x c) (I : L2.Inv X pins σ H s) (rv : Vals vs us) (R : RM Z ι M H) (wr : WsR Z ι H ws vs)
    (h : eOut Z Wx σ ι H (newW G C1 c ws M) Q) : wpAny (model X.prog X.w) X.A (call (.ref (Z.cls c)) us) (EP X pins σ Q) X.xe s := by
  obtain ⟨kk, f, n, fd, ps, hc, hm, mk, Fn, hr, hb⟩ := mk.ex
  have h : eOut Z Wx σ ι H ((C1 kk.init (.ref M.length :: ws) (M ++ [.ins c []])).bind fun w M' => .chk (decide (w = .non)) (.ok (.ref M.length) M')) Q := by
    unfold newW at h
    rw [hc] at h
    exact h
  -- the new instance
  have f1 : H s.heap.objs.size = none := I.hok.fresh (Nat.le_refl _)
  have f2 : H (s.heap.objs.size + 1) = none := I.hok.fresh (Nat.le_succ _)
  have ne : s.heap.objs.size + 1 ≠ s.heap.objs.size := Nat.ne_of_gt (Nat.lt_succ_self _)
  have I2 := Inv.made (C := Z.cls c) I
  have x1 : Ext ι ι H (upd H s.heap.objs.size (.own (s.heap.objs.size + 1))) := Ext.fresh ι f1
  have R1 : RM Z ι M (upd H s.heap.objs.size (.own (s.heap.objs.size + 1))) := R.fresh f1
  have f3 : upd H s.heap.objs.size (.own (s.heap.objs.size + 1)) (s.heap.objs.size + 1) = none := by rw [upd_ne ne]; exact f2
  have x2 : Ext ι (ι ++ [s.heap.objs.size + 1]) (upd H s.heap.objs.size (.own (s.heap.objs.size + 1))) (upd (upd H s.heap.objs.size (.own (s.heap.objs.size + 1))) (s.heap.objs.size + 1) (.ins (Z.cls c) s.heap.objs.size [])) := Ext.alloc ι f3
  have R2 : RM Z (ι ++ [s.heap.objs.size + 1]) (M ++ [.ins c []]) (upd (upd H s.heap.objs.size (.own (s.heap.objs.size + 1))) (s.heap.objs.size + 1) (.ins (Z.cls c) s.heap.objs.size [])) := R1.alloc f3 ⟨s.heap.objs.size, [], upd_same, .nil⟩
  have x3 := x1.trans x2
  have wr2 : WsR Z (ι ++ [s.heap.objs.size + 1]) (upd (upd H s.heap.objs.size (.own (s.heap.objs.size + 1))) (s.heap.objs.size + 1) (.ins (Z.cls c) s.heap.objs.size [])) (.ref M.length :: ws) (.ref (s.heap.objs.size + 1) :: vs) := .cons (.ref (snoc_ix R1 _)) (wr.mono x3.le)
  have r2 : Vals (V.ref (s.heap.objs.size + 1) :: vs) (Value.ref (s.heap.objs.size + 1) :: us) := .cons rfl rv
  have h2 : eOut Z Wx σ (ι ++ [s.heap.objs.size + 1]) (upd (upd H s.heap.objs.size (.own (s.heap.objs.size + 1))) (s.heap.objs.size + 1) (.ins (Z.cls c) s.heap.objs.size [])) (C1 kk.init (.ref M.length :: ws) (M ++ [.ins c []])) (fun v H2 => v = .non ∧ Q (.ref (s.heap.objs.size + 1)) H2) := by
    have h3 := h.shift x3
    cases e : C1 kk.init (.ref M.length :: ws) (M ++ [.ins c []]) with
    | ok w M3 =>
      rw [e] at h3
      obtain ⟨qn, h3⟩ := eOut.chk h3
      have qn := of_decide_eq_true qn
      subst qn
      intro v H4 ι4 x4 R4 q4
      cases q4
      exact ⟨rfl, h3 _ H4 ι4 x4 R4 (.ref (x4.le.ix _ _ (snoc_ix R1 _)))⟩
    | exc q M3 => rw [e] at h3; exact h3
    | bad => rw [e] at h3; exact h3
  have hl : (Value.ref (s.heap.objs.size + 1) :: us).length = ps.length := by rw [← r2.length]; exact call_len Fn R2 wr2 h2
  have hb2 := hb _ (Value.ref (s.heap.objs.size + 1) :: us) I2.kIn (by rw [List.append_nil]; exact hl)
  rw [List.append_nil] at hb2
  refine wpAny_call (make_map (f := f) I.kIn mk.makes mk.init (beq_iff_eq.mp mk.fn) (codeAny_mono (Fn.go _ X.stack _ _ ⟨Value.ref (s.heap.objs.size + 1) :: us, []⟩ (Value.ref (s.heap.objs.size + 1) :: us) _ (fun v H2 => v = .non ∧ Q (.ref (s.heap.objs.size + 1)) H2) (WE (wxO Z Wx) σ) (make_guards k.gd) (hr.make (Z.cls c) us [])
    (I2.env0.make (Z.cls c) us []) hb2 r2 ⟨_, _, _, R2, wr2, ?_⟩) fun r s' hq' => ?_))
  · cases e : C1 kk.init (.ref M.length :: ws) (M ++ [.ins c []]) with
    | ok w M1 => rw [e] at h2; exact h2
    | exc q M1 => rw [e] at h2; exact fun H' ι' x R => ⟨rfl, q, rfl, h2 H' ι' x R⟩
    | bad => rw [e] at h2; exact h2
  · cases r with
    | error e => exact passAt k.tk σ pins _ _ e s' I2 hq'
    | ok fl =>
      cases fl with
      | ret u =>
        obtain ⟨v, H', I3, rv, ev, q3⟩ := I2.after hq'
        subst ev
        exact ⟨rv, ⟨V.ref (s.heap.objs.size + 1), H', I3, rfl, q3⟩⟩
      | next => exact False.elim hq'
      | brk => exact False.elim hq'
      | cont => exact False.elim hq'
theorem e_new (k : Bx X Z Wx G) {x : Str} {c : Nat} (mk : MakOk X.prog X.w X.K X.mg X.base X.A Z G C1 x c) (ha : PA X (e :: es) (TAx Z Wx G C C1 el)) (hg : gloB X.env x = true := by kernel_rfl)
    (he : starEach (e :: es) X.env = (false, eval e X.env) :: starEach es X.env := by rfl) (hpl : (backTo pos (starEach es X.env)).any (·.1) = false := by rfl) : PE X (.Call (.Name x p) (e :: es) [] pos) (TEx Z Wx G C C1 (.new c el)) := by
  obtain ⟨h1, h2, h3⟩ := gloB_ok hg
  obtain ⟨kk, f, n, fd, ps, hc, hm, mk', _⟩ := mk.ex
  refine ⟨fun pins s σ H Q I ⟨ι, sw, M, sr, R, h⟩ => ?_⟩
  simp only [evE] at h
  refine wpAny_Call_Name_kw (ld_glob I h1 hm ?_ h2)
  refine PySem.W.callWith_K (h₀ := X.base) I.ok.mod.kin mk'.kp (thn (ha.run pos pins s σ H (fun vs H1 => ∃ ι1 M1 ws, RM Z ι1 M1 H1 ∧ WsR Z ι1 H1 ws vs ∧ eOut Z Wx σ ι1 H1 (newW G C1 c ws M1) Q) I (tA.seqE sr R h fun ws M1 vs H1 ι1 e1 R1 q1 s1 h1 => ⟨ι1, M1, ws, R1, q1, h1⟩)) fun us s1 ⟨vs, H1, I1, r, ι1, M1, ws, R1, q1, h1⟩ => ⟨I1.kIn, ?_⟩) he hpl
  exact run_mak k mk I1 r R1 q1 h1
theorem e_new0 (k : Bx X Z Wx G) {x : Str} {c : Nat} (mk : MakOk X.prog X.w X.K X.mg X.base X.A Z G C1 x c) (hg : gloB X.env x = true := by kernel_rfl) : PE X (.Call (.Name x p) [] [] pos) (TEx Z Wx G C C1 (.new c .nil)) := by
  obtain ⟨h1, h2, h3⟩ := gloB_ok hg
  obtain ⟨kk, f, n, fd, ps, hc, hm, mk', _⟩ := mk.ex
  refine ⟨fun pins s σ H Q I ⟨ι, sw, M, sr, R, h⟩ => ?_⟩
  simp only [evE, evL] at h
  refine wpAny_Call_Name_kw (ld_glob I h1 hm ?_ h2)
  exact PySem.W.callWith_K0 I.kIn mk'.kp (run_mak (us := []) k mk I .nil R .nil h)
end
end MP
end
section
set_option Elab.async false
set_option linter.all false
set_option maxRecDepth 100000
/-! MP13: what loops walk. -/
namespace MP
open PySem PySem.Spec PyProof.Rows L2

/-! ### a locked dict, walked -/
def ItK (d : Addr) (o : Obj) (es : Array DictEntry) : L2.It :=
  ⟨fun i H => H d = some (lkO true d o) ∧ ∃ en x, es[i]? = some en ∧ RelV x en.key, fun i H x H' => H' = H ∧ ∃ en, es[i]? = some en ∧ RelV x en.key, fun i H => H d = some (lkO true d o) ∧ es.size ≤ i⟩
def ItV (d : Addr) (o : Obj) (es : Array DictEntry) : L2.It :=
  ⟨fun i H => H d = some (lkO true d o) ∧ ∃ en x, es[i]? = some en ∧ RelV x en.val, fun i H x H' => H' = H ∧ ∃ en, es[i]? = some en ∧ RelV x en.val, fun i H => H d = some (lkO true d o) ∧ es.size ≤ i⟩
def ItI (d : Addr) (o : Obj) (es : Array DictEntry) : L2.It :=
  ⟨fun i H => H d = some (lkO true d o) ∧ ∃ en x y, es[i]? = some en ∧ RelV x en.key ∧ RelV y en.val, fun i H x H' => ∃ T en k v, es[i]? = some en ∧ RelV k en.key ∧ RelV v en.val ∧ x = .ref T ∧ H T = none ∧ H' = upd H T (.tup [k, v]), fun i H => H d = some (lkO true d o) ∧ es.size ≤ i⟩
section
variable {P : Program} {w : World} {K : PySem.W.Frag} {tg : Expr} {d : Addr} {o : Obj} {es : Array DictEntry} {ep : Nat}
theorem es_at {i : Nat} {en : DictEntry} (h : es[i]? = some en) : ∃ hi : i < es.size, es[i] = en := by
  obtain ⟨hi, e⟩ := Array.getElem?_eq_some_iff.mp h
  exact ⟨hi, e⟩
theorem turnK (it : Addr) (hx : o.ExactDict) (hod : o.data = .dict es ep) : Turn P w K tg (ItK d o es) [it] it (fun i h => h.IsKeyIter it d i es.size ep) where
  mem := by simp
  obj := fun i h st b hb => by
    have e : b = it := by simpa using hb
    subst e
    obtain ⟨oi, e, c, dd⟩ := st
    exact ⟨oi, e, fun v z => by rw [dd] at z; cases z⟩
  keep := fun i h h' st k => st.at fun oi e => k it (by simp) oi e
  item := by
    intro X hP hw hK hc i pins s σ H E I hf st hg
    subst hP hw hK
    obtain ⟨hd, en, x, hen, rx⟩ := hg
    obtain ⟨f0, f1, f2, f3, f4, f5⟩ := hf it (by simp)
    have hgd := MP.Inv.dctO I hd
    obtain ⟨hi, rfl⟩ := es_at hen
    refine wpAny_pyNext_keys_item_raw st ⟨o, hgd, hx, hod⟩ hi fun h' st' sb => ?_
    have I1 : L2.Inv X pins σ H { s with heap := h' } := I.turned (t' := s.toks) (fun b ob hb e => (sb.2 b hb).trans e) f0 f1 f3 f4 f5
    obtain ⟨oi, e, c, dd⟩ := id st'
    exact ⟨_, rfl, go_of (s := { s with heap := h' }) e c dd (by decide) ⟨x, H, I1, rx, ⟨rfl, _, hen, rx⟩, st', fun b hb => (hf b hb).1⟩⟩
  done := by
    intro X hP hw hK hc i pins s σ H E I hf st hg
    subst hP hw hK
    obtain ⟨hd, hi⟩ := hg
    obtain ⟨f0, f1, f2, f3, f4, f5⟩ := hf it (by simp)
    have hgd := MP.Inv.dctO I hd
    exact wpAny_pyNext_keys_end_raw (I.ok.hd hc) st ⟨o, hgd, hx, hod⟩ hi fun h' eb => ⟨rfl, I.turned (t' := s.toks) (fun b ob hb e => eb b ob hb e) f0 f1 f3 f4 f5⟩
  self := fun A i s Q E st h => wpAny_pyIter_keyiter st h
theorem turnV (it : Addr) (hx : o.ExactDict) (hod : o.data = .dict es ep) : Turn P w K tg (ItV d o es) [it] it (fun i h => h.IsValIter it d i es.size ep) where
  mem := by simp
  obj := fun i h st b hb => by
    have e : b = it := by simpa using hb
    subst e
    obtain ⟨oi, e, c, dd⟩ := st
    exact ⟨oi, e, fun v z => by rw [dd] at z; cases z⟩
  keep := fun i h h' st k => st.at fun oi e => k it (by simp) oi e
  item := by
    intro X hP hw hK hc i pins s σ H E I hf st hg
    subst hP hw hK
    obtain ⟨hd, en, x, hen, rx⟩ := hg
    obtain ⟨f0, f1, f2, f3, f4, f5⟩ := hf it (by simp)
    have hgd := MP.Inv.dctO I hd
    obtain ⟨hi, rfl⟩ := es_at hen
    refine wpAny_pyNext_values_item_raw st ⟨o, hgd, hx, hod⟩ hi fun h' st' sb => ?_
    have I1 : L2.Inv X pins σ H { s with heap := h' } := I.turned (t' := s.toks) (fun b ob hb e => (sb.2 b hb).trans e) f0 f1 f3 f4 f5
    obtain ⟨oi, e, c, dd⟩ := id st'
    exact ⟨_, rfl, go_of (s := { s with heap := h' }) e c dd (by decide) ⟨x, H, I1, rx, ⟨rfl, _, hen, rx⟩, st', fun b hb => (hf b hb).1⟩⟩
  done := by
    intro X hP hw hK hc i pins s σ H E I hf st hg
    subst hP hw hK
    obtain ⟨hd, hi⟩ := hg
    obtain ⟨f0, f1, f2, f3, f4, f5⟩ := hf it (by simp)
    have hgd := MP.Inv.dctO I hd
    exact wpAny_pyNext_values_end_raw (I.ok.hd hc) st ⟨o, hgd, hx, hod⟩ hi fun h' eb => ⟨rfl, I.turned (t' := s.toks) (fun b ob hb e => eb b ob hb e) f0 f1 f3 f4 f5⟩
  self := fun A i s Q E st h => wpAny_pyIter_valiter st h
theorem turnI {elts : List Expr} {kk : Nat} {tpos : Pos} (it : Addr) (hx : o.ExactDict) (hod : o.data = .dict es ep) : Turn P w K (.Tuple elts kk tpos) (ItI d o es) [it] it (fun i h => ∃ ok ov, IsItemIter h it d i es.size ep ok ov) where
  mem := by simp
  obj := fun i h st b hb => by
    have e : b = it := by simpa using hb
    subst e
    obtain ⟨ok, ov, e⟩ := st
    exact ⟨_, e, fun v z => nomatch z⟩
  keep := fun i h h' st k => let ⟨ok, ov, e⟩ := st; ⟨ok, ov, k it (by simp) _ e⟩
  item := by
    intro X hP hw hK hc i pins s σ H E I hf st hg
    subst hP hw hK
    obtain ⟨hd, en, x, y, hen, rx, ry⟩ := hg
    have hgd := MP.Inv.dctO I hd
    obtain ⟨hi, rfl⟩ := es_at hen
    obtain ⟨ok, ov, he⟩ := st
    have hlt : it < s.heap.objs.size := Heap.lt_size he
    refine wpAny_pyNext_items_item_raw he ⟨o, hgd, hx, hod⟩ hi fun h' ho hT hz hk => ?_
    refine ⟨_, rfl, wpAny_letOwnedTupleGo_items (s := { s with heap := h' }) ho fun h'' he' sb => ?_⟩
    have hT2 : h''.get? s.heap.objs.size = some { cls := .type "tuple", data := .seq #[es[i].key, es[i].val] } := (sb.2 _ (Nat.ne_of_gt hlt)).trans hT
    have new : ObjOk X.prog X.w (upd H s.heap.objs.size (.tup [x, y])) h'' s.heap.objs.size (.tup [x, y]) :=
      ⟨by show 2 ≤ sizeLine; decide, [es[i].key, es[i].val], .cons rx (.cons ry .nil), ⟨_, hT2, rfl, _, rfl⟩⟩
    have I1 : L2.Inv X pins σ (upd H s.heap.objs.size (.tup [x, y])) { s with heap := h'' } :=
      I.turnedNew (t' := s.toks) (ch := [it]) (fun b ob hb e => (sb.2 b (by simpa using hb)).trans (hk b ob (by simpa using hb) e)) hf (Nat.le_refl _) new
    refine ⟨.ref s.heap.objs.size, _, I1, rfl, ⟨_, _, x, y, hen, rx, ry, rfl, I.hok.fresh (Nat.le_refl _), rfl⟩, ⟨_, _, he'⟩, fun b hb => ?_⟩
    have e : b = it := by simpa using hb
    rw [e, upd_ne (Nat.ne_of_lt hlt)]
    exact (hf it (by simp)).1
  done := by
    intro X hP hw hK hc i pins s σ H E I hf st hg
    subst hP hw hK
    obtain ⟨hd, hi⟩ := hg
    obtain ⟨f0, f1, f2, f3, f4, f5⟩ := hf it (by simp)
    have hgd := MP.Inv.dctO I hd
    obtain ⟨ok, ov, he⟩ := st
    exact wpAny_pyNext_items_end_raw (I.ok.hd hc) he ⟨o, hgd, hx, hod⟩ hi fun h' eb => ⟨rfl, I.turned (t' := s.toks) (fun b ob hb e => eb b ob hb e) f0 f1 f3 f4 f5⟩
  self := fun A i s Q E st h => let ⟨_, _, e⟩ := st; PySem.W.kcp_self e h
end

/-! ### locks -/
/-- the heap without the lock -/
def ulH (dl : Option (Addr × Obj)) (H : Hp) : Hp := match dl with
  | none => H
  | some (d, o) => upd H d (DctO d o)
def UlOk (X : Cx) (dl : Option (Addr × Obj)) (H : Hp) : Prop := match dl with
  | none => True
  | some (d, o) => H d = some (lkO true d o) ∧ ∀ o' u', X.H_0 d ≠ some (.frz o' u')
/-- refusals out of a walk -/
def lkW (X : Cx) (Wx : Wish) : Wish := fun c σ H => ∃ dl, UlOk X dl H ∧ Wx c σ (ulH dl H)
theorem inv_ul {X : Cx} {pins : List (Addr × Obj)} {σ : L2.St} {H : Hp} {s : Shared} {dl : Option (Addr × Obj)} (I : L2.Inv X pins σ H s) (u : UlOk X dl H) : L2.Inv X pins σ (ulH dl H) s := by
  cases dl with
  | none => exact I
  | some p => exact I.unlock u.1 u.2
theorem takes_lk {X : Cx} {Z : Zt} {Wx : Wish} (tk : Takes X (wxO Z Wx)) : Takes X (wxO Z (lkW X Wx)) := fun u s' ⟨a, B, sI, pins, σ, H, cls, d, e, I, nb, up, sky, na, os, ag, dn, c, ec, dl, uo, w⟩ => by
  refine tk u s' ⟨a, B, sI, pins, σ, ulH dl H, cls, d, e, inv_ul I uo, nb, up, sky, ?_, os, ag, dn, c, ec, w⟩
  cases dl with
  | none => exact na
  | some p =>
    have ne : a ≠ p.1 := fun z => by
      have := uo.1
      rw [← z, na] at this
      cases this
    show upd H p.1 (DctO p.1 p.2) a = none
    rw [upd_ne ne]
    exact na
theorem Bx.lk {X : Cx} {Z : Zt} {Wx : Wish} {G : Pg} (k : Bx X Z Wx G) : Bx X Z (lkW X Wx) G := ⟨k.toXOk, k.hS, k.nd, takes_lk k.tk⟩
/-- which of the walked is locked -/
def LkS (X : Cx) (Z : Zt) (ι : List Addr) (H : Hp) (ps : List (Nat × Ob)) (dl : Option (Addr × Obj)) : Prop := match dl with
  | none => ∀ M, lockM ps M = M ∧ unlkM ps M = M
  | some (d, o) => ∃ l kvs, ps = [(l, .dct false kvs)] ∧ ι[l]? = some d ∧ DctR Z ι H d true kvs ∧ H d = some (lkO true d o) ∧ ∀ o' u', X.H_0 d ≠ some (.frz o' u')
/-- a walk begins: from the heap H, memory M, to the locked heap -/
structure Lk (X : Cx) (Z : Zt) (ι ι1 : List Addr) (H H1 : Hp) (M : Mem) (ps : List (Nat × Ob)) (dl : Option (Addr × Obj)) : Prop where
  ext : Ext ι ι1 H (ulH dl H1)
  rm : RM Z ι1 (lockM ps M) H1
  lk : LkS X Z ι1 H1 ps dl
section
variable {X : Cx} {Z : Zt} {ι ι1 ι2 : List Addr} {H H1 H2 : Hp} {M M2 : Mem} {ps : List (Nat × Ob)} {dl : Option (Addr × Obj)}
theorem Lk.le (L : Lk X Z ι ι1 H H1 M ps dl) : Le ι ι1 H H1 := by
  cases dl with
  | none => exact L.ext.le
  | some p =>
    obtain ⟨l, kvs, e, hl, D, hd, nf⟩ := L.lk
    refine ⟨L.ext.le.ix, fun a o h i => ?_⟩
    have := L.ext.le.imm a o h i
    have ne : a ≠ p.1 := fun z => by
      rw [z] at this
      have e2 : upd H1 p.1 (DctO p.1 p.2) p.1 = some o := this
      rw [upd_same] at e2
      cases e2
      exact lkO_noI false p.1 p.2 i
    have e2 : upd H1 p.1 (DctO p.1 p.2) a = some o := this
    rw [upd_ne ne] at e2
    exact e2
/-- .. and ends -/
theorem Lk.un (L : Lk X Z ι ι1 H H1 M ps dl) (e : Ext ι1 ι2 H1 H2) (R : RM Z ι2 M2 H2) : Ext ι ι2 H (ulH dl H2) ∧ RM Z ι2 (unlkM ps M2) (ulH dl H2) ∧ Le ι2 ι2 H2 (ulH dl H2) ∧ UlOk X dl H2 := by
  cases dl with
  | none =>
    rw [(L.lk M2).2]
    exact ⟨L.ext.trans e, R, (Ext.refl ι2 H2).le, trivial⟩
  | some p =>
    obtain ⟨d, o⟩ := p
    obtain ⟨l, kvs, ep, hl, D, hd, nf⟩ := L.lk
    have hd2 : H2 d = some (lkO true d o) := e.frz d o _ hd
    have hl2 : ι2[l]? = some d := e.le.ix l d hl
    have hlt : l < M2.length := by rw [← R.len]; exact (List.getElem?_eq_some_iff.mp hl2).1
    have hM2 : M2[l]? = some M2[l] := by simp [hlt]
    have le2 : Le ι2 ι2 H2 (upd H2 d (DctO d o)) := Le.write R hl2
    refine ⟨?_, ?_, le2, hd2, nf⟩
    · obtain ⟨κ, rfl, hκ⟩ := L.ext.pre
      obtain ⟨κ2, rfl, hκ2⟩ := e.pre
      have E := L.ext
      refine ⟨⟨κ ++ κ2, by simp, fun x hx => ?_⟩, fun x q h nt hx => ?_, fun x ob φ h => ?_, fun x h => ?_⟩
      · rcases List.mem_append.mp hx with z | z
        · exact hκ x z
        · refine E.dom x ?_
          have h1 := hκ2 x z
          have ne : x ≠ d := fun z => by rw [z] at h1; exact h1 _ hd (lkO_noT true d o)
          intro q e n
          have e : upd H1 d (DctO d o) x = some q := e
          rw [upd_ne ne] at e
          exact h1 q e n
      · have h1 : upd H1 d (DctO d o) x = some q := E.frm x q h nt hx
        show upd H2 d (DctO d o) x = some q
        by_cases hxd : x = d
        · rw [hxd, upd_same] at h1 ⊢; exact h1
        · rw [upd_ne hxd] at h1 ⊢
          refine e.frm x q h1 nt ?_
          rcases hx with z | z
          · refine .inl fun hm => ?_
            rcases List.mem_append.mp hm with y | y
            · exact z y
            · exact hκ x y q h nt
          · exact .inr z
      · have h1 : upd H1 d (DctO d o) x = some (.frz ob (.ext φ)) := E.frz x ob φ h
        show upd H2 d (DctO d o) x = some (.frz ob (.ext φ))
        by_cases hxd : x = d
        · rw [hxd, upd_same] at h1; cases h1
        · rw [upd_ne hxd] at h1 ⊢
          exact e.frz x ob φ h1
      · have h : Vac (upd H2 d (DctO d o)) x := h
        have hxd : x ≠ d := fun z => by rw [z] at h; exact h.upd_self (lkO_noT false d o)
        have h1 := e.dom x (h.upd_ne hxd)
        refine E.dom x fun q e n => ?_
        have e : upd H1 d (DctO d o) x = some q := e
        rw [upd_ne hxd] at e
        exact h1 q e n
    · rw [ep]
      show RM Z ι2 (M2.set l (.dct false kvs)) (upd H2 d (DctO d o))
      refine R.write hM2 hl2 hd2 (lkO_noT true d o) (fun q z => by cases z) ?_
      obtain ⟨o', es', ep', h1, h2, h3, h4, h5, h6, h7, h8⟩ := D
      have eo : o' = o := by rw [hd] at h1; cases h1; rfl
      subst eo
      have le12 : Le ι1 ι2 H1 (upd H2 d (DctO d o')) := ⟨fun l a h => e.le.ix l a h, fun a q h i => le2.imm a q (e.le.imm a q h i) i⟩
      exact ⟨o', es', ep', upd_same, h2, h3, h4, h5, h6, h7, L2.Paired.mapP h8 fun _ _ z => z.mono le12⟩
/-- no dict -/
theorem LkS.nil : LkS X Z ι H [] none := fun M => ⟨rfl, rfl⟩
theorem LkS.lst {l : Nat} {ws : List Wv} : LkS X Z ι H [(l, .lst ws)] none := fun M => ⟨rfl, rfl⟩
theorem LkS.old {l : Nat} {kvs : List (Wv × Wv)} : LkS X Z ι H [(l, .dct true kvs)] none := fun M => ⟨rfl, rfl⟩
theorem Lk.none (R : RM Z ι M H) (h : LkS X Z ι H ps none) : Lk X Z ι ι H H M ps none := ⟨Ext.refl ι H, by rw [(h M).1]; exact R, h⟩
/-- a dict is locked -/
theorem Lk.new {pins : List (Addr × Obj)} {σ : L2.St} {s : Shared} {l : Nat} {a : Addr} {kvs : List (Wv × Wv)} (I : L2.Inv X pins σ H s) (R : RM Z ι M H) (hM : M[l]? = some (.dct false kvs)) (hl : ι[l]? = some a) :
    ∃ o es ep, o.ExactDict ∧ o.data = .dict es ep ∧ (a == sysModules) = false ∧ L2.Inv X pins σ (upd H a (lkO true a o)) s ∧ Lk X Z ι ι H (upd H a (lkO true a o)) M [(l, .dct false kvs)] (some (a, o)) ∧ Paired (EnR Z ι (upd H a (lkO true a o))) kvs es.toList := by
  obtain ⟨o, es, ep, h1, h2, h3, h4, h5, h6, h7, h8⟩ := R.ob _ _ _ hM hl
  have h1 : H a = some (DctO a o) := h1
  obtain ⟨od, I2⟩ := I.lock h1 trivial
  have eo : od = o := by
    have q1 := MP.Inv.dctO (z := false) I h1
    have q2 := (I2.hok a _ upd_same).1
    rw [q1] at q2
    exact (Option.some.inj q2).symm
  subst eo
  have le : Le ι ι H (upd H a (lkO true a od)) := Le.write R hl
  have D : DctR Z ι (upd H a (lkO true a od)) a true kvs := ⟨od, es, ep, upd_same, h2, h3, h4, h5, h6, h7, L2.Paired.mapP h8 fun _ _ z => z.mono le⟩
  have nf := I.nofrz h1 trivial
  have back : upd (upd H a (lkO true a od)) a (DctO a od) = H := by
    funext b
    by_cases hb : b = a
    · rw [hb, upd_same, h1]
    · rw [upd_ne hb, upd_ne hb]
  refine ⟨od, es, ep, h2, h3, h4, I2, ⟨?_, ?_, l, kvs, rfl, hl, D, upd_same, nf⟩, L2.Paired.mapP h8 fun _ _ z => z.mono le⟩
  · show Ext ι ι H (upd (upd H a (lkO true a od)) a (DctO a od))
    rw [back]
    exact Ext.refl ι H
  · show RM Z ι (M.set l (.dct true kvs)) (upd H a (lkO true a od))
    exact R.write hM hl h1 (lkO_noT false a od) (fun q => dctO_noC od a q ⟨es, ep, h3⟩) D
end
end MP
end
section
set_option Elab.async false
set_option linter.all false
set_option maxRecDepth 100000
/-! MP14: iterators, targets. -/
namespace MP
open PySem PySem.Spec PyProof.Rows L2

/-- J walks the items xs, as long as ps stays -/
structure Wk (Z : Zt) (ι0 : List Addr) (H0 : Hp) (J : L2.It) (xs : List Wv) (ps : List (Nat × Ob)) : Prop where
  go : ∀ i ι H M, Ext ι0 ι H0 H → RM Z ι M H → stays ps M = true → i < xs.length → J.go i H
  yld : ∀ i ι H M x H', Ext ι0 ι H0 H → RM Z ι M H → stays ps M = true → i < xs.length → J.yld i H x H' → ∃ w, xs[i]? = some w ∧ Ext ι ι H H' ∧ RM Z ι M H' ∧ WR Z ι H' w x
  stop : ∀ ι H M, Ext ι0 ι H0 H → RM Z ι M H → stays ps M = true → J.stop xs.length H
def iOut (X : Cx) (Z : Zt) (Wx : Wish) (σ : L2.St) (ι : List Addr) (H : Hp) (r : Out (List Wv × List (Nat × Ob))) (R : L2.It → Hp → Prop) : Prop := match r with
  | .ok (xs, ps) M => ∀ J H1 ι1 dl, Lk X Z ι ι1 H H1 M ps dl → Wk Z ι1 H1 J xs ps → R J H1
  | .exc c M => ∀ H' ι', Ext ι ι' H H' → RM Z ι' M H' → Wx c σ H'
  | .bad => False
def tI (X : Cx) (Z : Zt) (Wx : Wish) (f : Sw → Mem → Out (List Wv × List (Nat × Ob))) : TI := fun σ H R => ∃ ι sw M, SR Z ι H sw σ ∧ RM Z ι M H ∧ iOut X Z Wx σ ι H (f sw M) R
theorem _root_.L2.PI.weak {X : Cx} {tg e : Expr} {t t' : TI} (h : PI X tg e t) (w : ∀ σ H Q, t' σ H Q → t σ H Q) : PI X tg e t' := ⟨fun pins s σ H R I q => h.run pins s σ H R I (w σ H R q)⟩
section
variable {X : Cx} {Z : Zt} {Wx : Wish} {G : Pg} {C C1 : Nat → List Wv → Mem → Out Wv} {a b c e tg : Expr} {es : List Expr} {ea eb ec : Ex} {el : El} {pos p p2 p3 apos : Pos}
variable {pins : List (Addr × Obj)} {σ : L2.St} {H H1 : Hp} {s : Shared} {ι ι1 : List Addr} {M : Mem} {sw : Sw}
theorem Lk.pre (x : Ext ι ι1 H H1) {ι2 : List Addr} {H2 : Hp} {ps : List (Nat × Ob)} {dl : Option (Addr × Obj)} (L : Lk X Z ι1 ι2 H1 H2 M ps dl) : Lk X Z ι ι2 H H2 M ps dl := ⟨x.trans L.ext, L.rm, L.lk⟩
theorem iOut.shift {r : Out (List Wv × List (Nat × Ob))} {R : L2.It → Hp → Prop} (x : Ext ι ι1 H H1) (h : iOut X Z Wx σ ι H r R) : iOut X Z Wx σ ι1 H1 r R := by
  cases r with
  | ok w M' => exact fun J H2 ι2 dl L W => h J H2 ι2 dl (L.pre x) W
  | exc c M' => exact fun H' ι' y R => h H' ι' (x.trans y) R
  | bad => exact h
theorem tE.seqI {f : Fv} {g : Wv → Mem → Out (List Wv × List (Nat × Ob))} {Q : L2.It → Hp → Prop} {R : VK} (s : SR Z ι H sw σ) (R0 : RM Z ι M H) (h : iOut X Z Wx σ ι H ((f sw M).bind g) Q)
    (hk : ∀ w M1 v H1 ι1, Ext ι ι1 H H1 → RM Z ι1 M1 H1 → WR Z ι1 H1 w v → SR Z ι1 H1 sw σ → iOut X Z Wx σ ι1 H1 (g w M1) Q → R v H1) : tE Z Wx f σ H R := by
  refine ⟨ι, sw, M, s, R0, ?_⟩
  cases e : f sw M with
  | ok w M1 =>
    rw [e] at h
    exact fun v H' ι' x R q => hk w M1 v H' ι' x R q (s.mono x.le) (h.shift x)
  | exc c M1 => rw [e] at h; exact h
  | bad => rw [e] at h; exact h
theorem iOut.ofO {α : Type} {o : Option α} {g : α → Mem → Out (List Wv × List (Nat × Ob))} {Q : L2.It → Hp → Prop} (h : iOut X Z Wx σ ι H ((Out.ofO o M).bind g) Q) : ∃ w, o = some w ∧ iOut X Z Wx σ ι H (g w M) Q := by
  cases o with
  | some w => exact ⟨w, rfl, h⟩
  | none => exact False.elim h
theorem iOut.ofO1 {o : Option (List Wv × List (Nat × Ob))} {Q : L2.It → Hp → Prop} (h : iOut X Z Wx σ ι H (Out.ofO o M) Q) : ∃ w, o = some w ∧ iOut X Z Wx σ ι H (.ok w M) Q := by
  cases o with
  | some w => exact ⟨w, rfl, h⟩
  | none => exact False.elim h
/-! ### the walks -/
theorem wk_tup {ws : List Wv} {vs : List V} {a : Addr} (hs : SqT Z.K H a vs) (ht : WsR Z ι H ws vs) : Wk Z ι H (Itt Z.K a) ws [] := by
  have hl := ht.length
  refine ⟨fun i ι' H' M' x R st hi => ?_, fun i ι' H' M' v H2 x R st hi y => ?_, fun ι' H' M' x R st => ?_⟩
  · exact ⟨vs, vs[i], x.le.sqT hs, by simp⟩
  · obtain ⟨rfl, y⟩ := y
    have := y vs (x.le.sqT hs)
    obtain ⟨w, h1, h2⟩ := ht.get2 this
    exact ⟨w, h1, Ext.refl _ _, R, h2.mono x.le⟩
  · exact ⟨vs, x.le.sqT hs, by omega⟩
theorem wk_scr {a : Addr} (hs : ScR Z.K H a (Z.S.map V.int)) : Wk Z ι H (Itl Z.K a) (Z.S.map .int) [] := by
  refine ⟨fun i ι' H' M' x R st hi => ?_, fun i ι' H' M' v H2 x R st hi y => ?_, fun ι' H' M' x R st => ?_⟩
  · have hi : i < (Z.S.map V.int).length := by simpa using hi
    exact ⟨_, (Z.S.map V.int)[i], (x.le.scR hs).sq, by simp⟩
  · obtain ⟨rfl, y⟩ := y
    have := y _ (x.le.scR hs).sq
    obtain ⟨w, h1, h2⟩ := (WsR.ints (Z := Z) (ι := ι') (H := H2) Z.S).get2 this
    exact ⟨w, h1, Ext.refl _ _, R, h2⟩
  · exact ⟨_, (x.le.scR hs).sq, by simp⟩
theorem wk_lst {l : Nat} {a : Addr} {ws : List Wv} (hl : ι[l]? = some a) : Wk Z ι H (Itl Z.K a) ws [(l, .lst ws)] := by
  have at_ : ∀ {ι' H' M'}, Ext ι ι' H H' → RM Z ι' M' H' → stays [(l, .lst ws)] M' = true → ∃ vs, H' a = some (.lst vs) ∧ WsR Z ι' H' ws vs := fun {ι' H' M'} x R st => by
    have hM : M'[l]? = some (.lst ws) := by simpa [stays] using st
    exact R.ob _ _ _ hM (x.le.ix _ _ hl)
  refine ⟨fun i ι' H' M' x R st hi => ?_, fun i ι' H' M' v H2 x R st hi y => ?_, fun ι' H' M' x R st => ?_⟩
  · obtain ⟨vs, h1, h2⟩ := at_ x R st
    have hi : i < vs.length := by rw [← h2.length]; exact hi
    exact ⟨vs, vs[i], SqL.of h1, by simp⟩
  · obtain ⟨vs, h1, h2⟩ := at_ x R st
    obtain ⟨rfl, y⟩ := y
    obtain ⟨w, g1, g2⟩ := h2.get2 (y vs (SqL.of h1))
    exact ⟨w, g1, Ext.refl _ _, R, g2⟩
  · obtain ⟨vs, h1, h2⟩ := at_ x R st
    exact ⟨vs, SqL.of h1, by rw [h2.length]; exact Nat.le_refl _⟩
theorem wk_str (x : Str) : Wk Z ι H (Its x) (x.cps.toList.map fun c => .str ⟨#[c]⟩) [] := by
  refine ⟨fun i ι' H' M' _ R st hi => ?_, fun i ι' H' M' v H2 _ R st hi y => ?_, fun ι' H' M' _ R st => ?_⟩
  · show i < x.cps.size
    simpa using hi
  · obtain ⟨rfl, c, h1, rfl⟩ := y
    refine ⟨.str ⟨#[c]⟩, ?_, Ext.refl _ _, R, .str _⟩
    rw [List.getElem?_map, Array.getElem?_toList, h1]
    rfl
  · show x.cps.size ≤ _
    simp
theorem wk_rng (lo : Int) (n : Nat) : Wk Z ι H (Itr lo n) ((List.range n).map fun (k : Nat) => .int (lo + (k : Int))) [] := by
  refine ⟨fun i ι' H' M' _ R st hi => ?_, fun i ι' H' M' v H2 _ R st hi y => ?_, fun ι' H' M' _ R st => ?_⟩
  · show i < n
    simpa using hi
  · obtain ⟨rfl, rfl⟩ := y
    have hi : i < n := by simpa using hi
    exact ⟨.int (lo + i), by simp [hi], Ext.refl _ _, R, .int _⟩
  · show n ≤ _
    simp
theorem paired_at {α β : Type} {P : α → β → Prop} {xs : List α} {ys : List β} (h : Paired P xs ys) : ∀ {i : Nat} {y : β}, ys[i]? = some y → ∃ x, xs[i]? = some x ∧ P x y := by
  induction h with
  | nil => intro i y e; simp at e
  | cons h t ih =>
    intro i y e
    cases i with
    | zero => simp at e; subst e; exact ⟨_, rfl, h⟩
    | succ i => obtain ⟨x, h1, h2⟩ := ih (by simpa using e); exact ⟨x, by simpa using h1, h2⟩
theorem paired_fw {α β : Type} {P : α → β → Prop} {xs : List α} {ys : List β} (h : Paired P xs ys) : ∀ {i : Nat} {x : α}, xs[i]? = some x → ∃ y, ys[i]? = some y ∧ P x y := by
  induction h with
  | nil => intro i y e; simp at e
  | cons h t ih =>
    intro i y e
    cases i with
    | zero => simp at e; subst e; exact ⟨_, rfl, h⟩
    | succ i => obtain ⟨x, h1, h2⟩ := ih (by simpa using e); exact ⟨x, by simpa using h1, h2⟩
section
variable {d : Addr} {o : Obj} {ents : Array DictEntry} {kvs : List (Wv × Wv)} {ps : List (Nat × Ob)}
theorem wk_keys (hd : H d = some (lkO true d o)) (r : Paired (EnR Z ι H) kvs ents.toList) : Wk Z ι H (ItK d o ents) (kvs.map (·.1)) ps := by
  have hl : kvs.length = ents.size := by have := Paired.length r; rw [Array.length_toList] at this; exact this
  refine ⟨fun i ι' H' M' x R st hi => ?_, fun i ι' H' M' v H2 x R st hi y => ?_, fun ι' H' M' x R st => ?_⟩
  · have hi : i < kvs.length := by simpa using hi
    obtain ⟨en, h1, kv, vv, g1, g2, g3, g4, g5⟩ := paired_fw r (List.getElem?_eq_getElem hi)
    exact ⟨x.frz d o _ hd, en, kv, by rw [← Array.getElem?_toList]; exact h1, g1⟩
  · obtain ⟨rfl, en, h1, h2⟩ := y
    obtain ⟨q, h3, kv, vv, g1, g2, g3, g4, g5⟩ := paired_at r (by rw [Array.getElem?_toList]; exact h1)
    have e : v = kv := RelV.inj h2 g1
    subst e
    exact ⟨q.1, by rw [List.getElem?_map, h3]; rfl, Ext.refl _ _, R, g2.mono x.le⟩
  · exact ⟨x.frz d o _ hd, by rw [List.length_map, hl]; exact Nat.le_refl _⟩
theorem wk_vals (hd : H d = some (lkO true d o)) (r : Paired (EnR Z ι H) kvs ents.toList) : Wk Z ι H (ItV d o ents) (kvs.map (·.2)) ps := by
  have hl : kvs.length = ents.size := by have := Paired.length r; rw [Array.length_toList] at this; exact this
  refine ⟨fun i ι' H' M' x R st hi => ?_, fun i ι' H' M' v H2 x R st hi y => ?_, fun ι' H' M' x R st => ?_⟩
  · have hi : i < kvs.length := by simpa using hi
    obtain ⟨en, h1, kv, vv, g1, g2, g3, g4, g5⟩ := paired_fw r (List.getElem?_eq_getElem hi)
    exact ⟨x.frz d o _ hd, en, vv, by rw [← Array.getElem?_toList]; exact h1, g3⟩
  · obtain ⟨rfl, en, h1, h2⟩ := y
    obtain ⟨q, h3, kv, vv, g1, g2, g3, g4, g5⟩ := paired_at r (by rw [Array.getElem?_toList]; exact h1)
    have e : v = vv := RelV.inj h2 g3
    subst e
    exact ⟨q.2, by rw [List.getElem?_map, h3]; rfl, Ext.refl _ _, R, g4.mono x.le⟩
  · exact ⟨x.frz d o _ hd, by rw [List.length_map, hl]; exact Nat.le_refl _⟩
theorem wk_items (hd : H d = some (lkO true d o)) (r : Paired (EnR Z ι H) kvs ents.toList) : Wk Z ι H (ItI d o ents) (kvs.map fun p => .tup [p.1, p.2]) ps := by
  have hl : kvs.length = ents.size := by have := Paired.length r; rw [Array.length_toList] at this; exact this
  refine ⟨fun i ι' H' M' x R st hi => ?_, fun i ι' H' M' v H2 x R st hi y => ?_, fun ι' H' M' x R st => ?_⟩
  · have hi : i < kvs.length := by simpa using hi
    obtain ⟨en, h1, kv, vv, g1, g2, g3, g4, g5⟩ := paired_fw r (List.getElem?_eq_getElem hi)
    exact ⟨x.frz d o _ hd, en, kv, vv, by rw [← Array.getElem?_toList]; exact h1, g1, g3⟩
  · obtain ⟨T, en, k, v, h1, h2, h3, rfl, hT, rfl⟩ := y
    obtain ⟨q, h4, kv, vv, g1, g2, g3, g4, g5⟩ := paired_at r (by rw [Array.getElem?_toList]; exact h1)
    have e1 : k = kv := RelV.inj h2 g1
    have e2 : v = vv := RelV.inj h3 g3
    subst e1 e2
    have ex : Ext ι' ι' H' (upd H' T (.tup [k, v])) := Ext.fresh ι' hT
    exact ⟨.tup [q.1, q.2], by rw [List.getElem?_map, h4]; rfl, ex, R.fresh hT, .tup (SqT.of upd_same) (.cons ((g2.mono x.le).mono ex.le) (.cons ((g4.mono x.le).mono ex.le) .nil))⟩
  · exact ⟨x.frz d o _ hd, by rw [List.length_map, hl]; exact Nat.le_refl _⟩
end
/-- the dict's lock, old or new -/
theorem dict_lock (k : Bx X Z Wx G) {l : Nat} {a : Addr} {z : Bool} {kvs : List (Wv × Wv)} (I : L2.Inv X pins σ H s) (R : RM Z ι M H) (hM : M[l]? = some (.dct z kvs)) (hl : ι[l]? = some a) :
    ∃ o es ep H1 dl, o.ExactDict ∧ o.data = .dict es ep ∧ (a == sysModules) = false ∧ L2.Inv X pins σ H1 s ∧ H1 a = some (lkO true a o) ∧ Lk X Z ι ι H H1 M [(l, .dct z kvs)] dl ∧ Paired (EnR Z ι H1) kvs es.toList := by
  cases z with
  | true =>
    obtain ⟨o, es, ep, h1, h2, h3, h4, h5, h6, h7, h8⟩ := R.ob _ _ _ hM hl
    exact ⟨o, es, ep, H, none, h2, h3, h4, I, h1, Lk.none R LkS.old, h8⟩
  | false =>
    obtain ⟨o, es, ep, h2, h3, h4, I2, L, r⟩ := Lk.new I R hM hl
    exact ⟨o, es, ep, _, _, h2, h3, h4, I2, upd_same, L, r⟩
theorem i_val (k : Bx X Z Wx G) (ha : PE X a (TEx Z Wx G C C1 ea)) : PI X tg a (tI X Z Wx (evI G C C1 (.val ea))) := by
  refine ⟨fun pins s σ H R I ⟨ι, sw, M, sr, R0, h⟩ => ?_⟩
  simp only [evI] at h
  refine thn (ha.run pins s σ H (fun v H1 => ∃ ι1 M1 w, RM Z ι1 M1 H1 ∧ WR Z ι1 H1 w v ∧ iOut X Z Wx σ ι1 H1 (.ofO (walkV G w M1) M1) R) I (tE.seqI sr R0 h fun w M1 v H1 ι1 e1 R1 q1 s1 h1 => ⟨ι1, M1, w, R1, q1, h1⟩)) fun v s1 ⟨x, H1, I1, rx, ι1, M1, w, R1, wr, h1⟩ => ?_
  obtain ⟨⟨xs, ps⟩, e, h1⟩ := iOut.ofO1 h1
  cases wr with
  | tup hs ht =>
    cases e
    cases rx
    obtain ⟨its, rv, pt, hz⟩ := I1.tuple (by rw [k.K]; exact hs)
    refine wpAny_pyIter_tuple (show s1.heap.IsTuple _ its.toArray from pt) (pi_one (tk := s1.toks) I1 _ (turn_tuple _ _) ⟨_, Heap.get?_push_size _ rfl, rfl, rfl⟩ (h1 _ H1 ι1 none (Lk.none R1 LkS.nil) ?_))
    have W := wk_tup hs ht
    rw [k.K]
    exact W
  | scr hs =>
    cases e
    cases rx
    obtain ⟨its, rv, pt, hz⟩ := I1.list (by rw [k.K]; exact hs.sq)
    refine wpAny_pyIter_list pt.isList (pi_one (tk := s1.toks) I1 _ (turn_list _ _) ⟨_, Heap.get?_push_size _ rfl, rfl, rfl⟩ (h1 _ H1 ι1 none (Lk.none R1 LkS.nil) ?_))
    rw [k.K, ← k.hS]
    exact wk_scr hs
  | str x =>
    cases e
    obtain ⟨t, rfl⟩ := rx
    cases ha : x.cps.all (· < 128)
    · exact wpAny_pyIter_wide ha (pi_one (tk := s1.toks) I1 _ (turn_str _ x t "str_iterator" (.inr rfl)) ⟨_, Heap.get?_push_size _ rfl, rfl, rfl⟩ (h1 _ H1 ι1 none (Lk.none R1 LkS.nil) (wk_str x)))
    · exact wpAny_pyIter_ascii ha (pi_one (tk := s1.toks) I1 _ (turn_str _ x t "str_ascii_iterator" (.inl rfl)) ⟨_, Heap.get?_push_size _ rfl, rfl, rfl⟩ (h1 _ H1 ι1 none (Lk.none R1 LkS.nil) (wk_str x)))
  | ref hl =>
    cases rx
    simp only [walkV] at e
    split at e
    · rename_i ws hM
      cases e
      obtain ⟨vs, e1, e2⟩ := R1.ob _ _ _ hM hl
      obtain ⟨its, rv, pt, hz⟩ := I1.list (SqL.of (K := X.K) e1)
      refine wpAny_pyIter_list pt.isList (pi_one (tk := s1.toks) I1 _ (turn_list _ _) ⟨_, Heap.get?_push_size _ rfl, rfl, rfl⟩ (h1 _ H1 ι1 none (Lk.none R1 LkS.lst) ?_))
      rw [k.K]
      exact wk_lst hl
    · rename_i z kvs hM
      cases e
      obtain ⟨o, es, ep, H2, dl, d1, d2, d3, I2, d4, L, r⟩ := dict_lock k I1 R1 hM hl
      have hg := MP.Inv.dctO I2 d4
      refine wpAny_pyIter_dict_raw d3 ⟨o, hg, d1, d2⟩ (pi_one (tk := s1.toks) I2 _ (turnK _ d1 d2) ⟨_, Heap.get?_push_size _ rfl, rfl, rfl⟩ (h1 _ H2 ι1 dl L (wk_keys d4 r)))
    · cases e
  | _ => cases e
theorem i_rng2 (k : Bx X Z Wx G) (hm : X.mg "range" = none) (ha : PE X a (TEx Z Wx G C C1 ea)) (hb : PE X b (TEx Z Wx G C C1 eb)) (hg : gloB X.env "range" = true := by kernel_rfl)
    (hs : starEach [a, b] X.env = [(false, eval a X.env), (false, eval b X.env)] := by rfl) (hs2 : starEach [b] X.env = [(false, eval b X.env)] := by rfl) (hs3 : starEach [a, b] X.env = (false, eval a X.env) :: starEach [b] X.env := by rfl) (hs4 : starEach [b] X.env = (false, eval b X.env) :: starEach [] X.env := by rfl) :
    PI X tg (.Call (.Name "range" p) [a, b] [] pos) (tI X Z Wx (evI G C C1 (.rng ea eb))) := by
  obtain ⟨h1, h2, h3⟩ := gloB_ok hg
  refine (pi_range2 h1 hm (a_cons ha (a_cons hb a_nil hs4) hs3) hs hs2).weak fun σ H R ⟨ι, sw, M, s, R0, h⟩ => ⟨ι, sw, M, s, R0, ?_⟩
  simp only [evI] at h
  simp only [evL]
  cases e1 : evE G C C1 ea sw M with
  | bad => rw [e1] at h; exact h
  | exc c M1 => rw [e1] at h; exact h
  | ok x M1 =>
    rw [e1] at h
    simp only [Out.bind_ok] at h ⊢
    cases e2 : evE G C C1 eb sw M1 with
    | bad => rw [e2] at h; exact h
    | exc c M2 => rw [e2] at h; exact h
    | ok y M2 =>
      rw [e2] at h
      simp only [Out.bind_ok] at h ⊢
      intro vs H' ι' x1 R1 wr
      cases hx : toI x with
      | none => simp only [hx] at h; exact False.elim h
      | some i =>
        cases hy : toI y with
        | none => simp only [hx, hy] at h; exact False.elim h
        | some j =>
          simp only [hx, hy] at h
          cases x <;> cases hx
          cases y <;> cases hy
          cases wr with
          | cons w1 t1 =>
            cases t1 with
            | cons w2 t2 =>
              cases t2
              cases w1; cases w2
              cases hc : (rngOk i && rngOk j) with
              | false => rw [hc] at h; exact False.elim h
              | true =>
                rw [hc] at h
                have h : iOut X Z Wx σ ι H (.ok (rngW i j, []) M2) R := h
                rw [Bool.and_eq_true] at hc
                unfold rngOk at hc
                rw [Bool.and_eq_true, Bool.and_eq_true, decide_eq_true_eq, decide_eq_true_eq, decide_eq_true_eq, decide_eq_true_eq] at hc
                refine ⟨i, j, rfl, ⟨by omega, by omega, by omega, by omega⟩, h _ H' ι' none ((Lk.none R1 LkS.nil).pre x1) (wk_rng i _)⟩
theorem i_rng1 (k : Bx X Z Wx G) (hm : X.mg "range" = none) (hb : PE X b (TEx Z Wx G C C1 eb)) (hg : gloB X.env "range" = true := by kernel_rfl)
    (hs2 : starEach [b] X.env = [(false, eval b X.env)] := by rfl) (hs4 : starEach [b] X.env = (false, eval b X.env) :: starEach [] X.env := by rfl) :
    PI X tg (.Call (.Name "range" p) [b] [] pos) (tI X Z Wx (evI G C C1 (.rng (.con (.int 0)) eb))) := by
  obtain ⟨h1, h2, h3⟩ := gloB_ok hg
  refine (pi_range1 h1 hm (a_cons hb a_nil hs4) hs2).weak fun σ H R ⟨ι, sw, M, s, R0, h⟩ => ⟨ι, sw, M, s, R0, ?_⟩
  simp only [evI, evE, Out.bind_ok] at h
  simp only [evL]
  cases e2 : evE G C C1 eb sw M with
  | bad => rw [e2] at h; exact h
  | exc c M2 => rw [e2] at h; exact h
  | ok y M2 =>
    rw [e2] at h
    simp only [Out.bind_ok] at h ⊢
    intro vs H' ι' x1 R1 wr
    cases hy : toI y with
    | none => simp only [show toI (Wv.int 0) = some 0 from rfl, hy] at h; exact False.elim h
    | some j =>
      simp only [show toI (Wv.int 0) = some 0 from rfl, hy] at h
      cases y <;> cases hy
      cases wr with
      | cons w1 t1 =>
        cases t1
        cases w1
        cases hc : (rngOk 0 && rngOk j) with
        | false => rw [hc] at h; exact False.elim h
        | true =>
          rw [hc] at h
          have h : iOut X Z Wx σ ι H (.ok (rngW 0 j, []) M2) R := h
          rw [Bool.and_eq_true] at hc
          unfold rngOk at hc
          rw [Bool.and_eq_true, Bool.and_eq_true, decide_eq_true_eq, decide_eq_true_eq, decide_eq_true_eq, decide_eq_true_eq] at hc
          refine ⟨j, rfl, by omega, by omega, h _ H' ι' none ((Lk.none R1 LkS.nil).pre x1) ?_⟩
          have W := wk_rng (Z := Z) (ι := ι') (H := H') 0 (j - 0).toNat
          rw [Int.sub_zero] at W
          unfold rngW
          rw [Int.sub_zero]
          exact W
theorem itmW_at {w : Wv} {v : V} {r : List (Wv × Wv) × List (Nat × Ob)} (wr : WR Z ι H w v) (e : itmW w M = some r) : ∃ l a z kvs, v = .ref a ∧ ι[l]? = some a ∧ M[l]? = some (.dct z kvs) ∧ r = (kvs, [(l, .dct z kvs)]) := by
  cases wr with
  | ref hl =>
    rename_i l a
    simp only [itmW] at e
    split at e
    · rename_i z kvs hM
      cases e
      exact ⟨l, a, z, kvs, rfl, hl, hM, rfl⟩
    · cases e
  | _ => cases e
theorem i_items {elts : List Expr} {kk : Nat} {tpos cpos : Pos} (k : Bx X Z Wx G) (ha : PE X a (TEx Z Wx G C C1 ea)) (hbase : attributeBase a "items" X.env (eval a X.env) = eval a X.env := by rfl) (hline : (apos.endLine == cpos.line) = true := by rfl) :
    PI X (.Tuple elts kk tpos) (.Call (.Attribute a "items" apos) [] [] cpos) (tI X Z Wx (evI G C C1 (.items ea))) := by
  refine ⟨fun pins s σ H R I ⟨ι, sw, M, sr, R0, h⟩ => ?_⟩
  simp only [evI] at h
  refine wpAny_Call_method (T := "dict") (id := "dict.items") hbase rfl hline F.plainAttrs_dict F.slot_dict_items F.type_dict_items (thn (ha.run pins s σ H (fun v H1 => ∃ ι1 M1 w r, RM Z ι1 M1 H1 ∧ WR Z ι1 H1 w v ∧ itmW w M1 = some r ∧ iOut X Z Wx σ ι1 H1 (.ok (r.1.map fun p => .tup [p.1, p.2], r.2) M1) R) I
    (tE.seqI sr R0 h fun w M1 v H1 ι1 e1 R1 q1 s1 h1 => by
      obtain ⟨r, e, h1⟩ := iOut.ofO h1
      exact ⟨ι1, M1, w, r, R1, q1, e, h1⟩)) fun v s1 ⟨x, H1, I1, rx, ι1, M1, w, r, R1, wr, e, h1⟩ => ?_)
  obtain ⟨l, d, z, kvs, rfl, hl, hM, rfl⟩ := itmW_at wr e
  cases rx
  obtain ⟨o, es, ep, H2, dl, d1, d2, d3, I2, d4, L, r⟩ := dict_lock k I1 R1 hM hl
  have hg := MP.Inv.dctO I2 d4
  have hm : s1.heap.DictRaw d es ep := ⟨o, hg, d1, d2⟩
  refine ⟨hm.typeIs, fun b q => by cases q; exact ⟨o, hg, d1.2.1⟩, ?_⟩
  have I3 : L2.Inv X pins σ H2 { s1 with heap := s1.heap.push { cls := .type "dict_items", data := .fields #[.ref d] } } := I2.kept (t' := s1.toks) fun b ob q => Heap.get?_push_of_some _ q
  have fin : wpAny (model X.prog X.w) X.A (pyIter (.ref s1.heap.objs.size)) (PIE X pins σ (.Tuple elts kk tpos) R) X.xe { s1 with heap := s1.heap.push { cls := .type "dict_items", data := .fields #[.ref d] } } :=
    wpAny_pyIter_items_raw (d := d) ⟨_, Heap.get?_push_size _ rfl, rfl, rfl⟩ (hm.push _) (pi_one (tk := s1.toks) I3 _ (turnI _ d1 d2) ⟨.none, .none, Heap.get?_push_size _ rfl⟩ (h1 _ H2 ι1 dl L (wk_items d4 r)))
  show wpAny _ _ (callWith cpos (.builtin "dict.items") [.ref d] [] []) _ X.xe s1
  exact method_meetsIn F.slot_dict_items F.entry_dict_items rfl (PySem.evalArgs_none ⟨rfl, hm.typeIs, F.args_dict_items_1 _, _, meets_dict_items_raw d d3, ⟨es, ep, hm⟩, fin⟩)
theorem i_vals {cpos : Pos} (k : Bx X Z Wx G) (ha : PE X a (TEx Z Wx G C C1 ea)) (hbase : attributeBase a "values" X.env (eval a X.env) = eval a X.env := by rfl) (hline : (apos.endLine == cpos.line) = true := by rfl) :
    PI X tg (.Call (.Attribute a "values" apos) [] [] cpos) (tI X Z Wx (evI G C C1 (.vals ea))) := by
  refine ⟨fun pins s σ H R I ⟨ι, sw, M, sr, R0, h⟩ => ?_⟩
  simp only [evI] at h
  refine wpAny_Call_method (T := "dict") (id := "dict.values") hbase rfl hline F.plainAttrs_dict F.slot_dict_values F.type_dict_values (thn (ha.run pins s σ H (fun v H1 => ∃ ι1 M1 w r, RM Z ι1 M1 H1 ∧ WR Z ι1 H1 w v ∧ itmW w M1 = some r ∧ iOut X Z Wx σ ι1 H1 (.ok (r.1.map fun p => p.2, r.2) M1) R) I
    (tE.seqI sr R0 h fun w M1 v H1 ι1 e1 R1 q1 s1 h1 => by
      obtain ⟨r, e, h1⟩ := iOut.ofO h1
      exact ⟨ι1, M1, w, r, R1, q1, e, h1⟩)) fun v s1 ⟨x, H1, I1, rx, ι1, M1, w, r, R1, wr, e, h1⟩ => ?_)
  obtain ⟨l, d, z, kvs, rfl, hl, hM, rfl⟩ := itmW_at wr e
  cases rx
  obtain ⟨o, es, ep, H2, dl, d1, d2, d3, I2, d4, L, r⟩ := dict_lock k I1 R1 hM hl
  have hg := MP.Inv.dctO I2 d4
  have hm : s1.heap.DictRaw d es ep := ⟨o, hg, d1, d2⟩
  refine ⟨hm.typeIs, fun b q => by cases q; exact ⟨o, hg, d1.2.1⟩, ?_⟩
  have I3 : L2.Inv X pins σ H2 { s1 with heap := s1.heap.push { cls := .type "dict_values", data := .fields #[.ref d] } } := I2.kept (t' := s1.toks) fun b ob q => Heap.get?_push_of_some _ q
  have fin : wpAny (model X.prog X.w) X.A (pyIter (.ref s1.heap.objs.size)) (PIE X pins σ tg R) X.xe { s1 with heap := s1.heap.push { cls := .type "dict_values", data := .fields #[.ref d] } } :=
    wpAny_pyIter_values_raw (d := d) ⟨_, Heap.get?_push_size _ rfl, rfl, rfl⟩ (hm.push _) (pi_one (tk := s1.toks) I3 _ (turnV _ d1 d2) ⟨_, Heap.get?_push_size _ rfl, rfl, rfl⟩ (h1 _ H2 ι1 dl L (wk_vals d4 r)))
  show wpAny _ _ (callWith cpos (.builtin "dict.values") [.ref d] [] []) _ X.xe s1
  exact method_meetsIn F.slot_dict_values F.entry_dict_values rfl (PySem.evalArgs_none ⟨rfl, hm.typeIs, F.args_dict_values_1 _, _, meets_dict_values_raw d d3, ⟨es, ep, hm⟩, fin⟩)
/-! ### targets -/
theorem wipe_set0 (σ : L2.St) (i : Nat) (x : Option V) : ∀ vs : List Nat, (wipe (σ.set i x) vs).set i none = (wipe σ vs).set i none
  | [] => by simp [wipe, List.set_set]
  | v :: vs => by
    unfold wipe
    by_cases h : v = i
    · subst h
      rw [List.set_set, List.set_set, wipe_set0 σ v x vs]
    · rw [List.set_comm _ _ h, wipe_set0 σ i x vs, List.set_comm _ _ (Ne.symm h)]
theorem wipe_set {σ : L2.St} {i : Nat} : ∀ {vs : List Nat}, i ∈ vs → ∀ x : Option V, wipe (σ.set i x) vs = wipe σ vs
  | [], h, _ => by cases h
  | v :: vs, h, x => by
    unfold wipe
    by_cases e : i = v
    · subst e
      exact wipe_set0 σ i x vs
    · rw [wipe_set (List.mem_of_ne_of_mem e h) x]
def setsV : List Nat → List V → L2.St → L2.St
  | i :: is, v :: vs, σ => setsV is vs (σ.set i (some v))
  | _, _, σ => σ
/-- a target's reading -/
def gT (K : PySem.W.Frag) (t : Tg) : TG := match t with
  | .nm i => gName i
  | .tup is => fun v σ H Q => ∃ a vs, v = .ref a ∧ SqT K H a vs ∧ vs.length = is.length ∧ Q (setsV is vs σ) H
theorem tgW_rel {t : Tg} {w : Wv} {v : V} {τ : Sw} (hs : SR Z ι H sw σ) (wr : WR Z ι H w v) (e : tgW t w sw = some τ) {Q : L2.St → Hp → Prop} (h : ∀ σ', SR Z ι H τ σ' → (∀ vs, (∀ i ∈ t.slots, i ∈ vs) → wipe σ' vs = wipe σ vs) → Q σ' H) : gT Z.K t v σ H Q := by
  cases t with
  | nm i =>
    simp only [tgW] at e
    cases e
    refine h _ (hs.set wr i) fun vs hv => ?_
    exact wipe_set (hv i (by simp [Tg.slots])) _
  | tup is =>
    cases wr with
    | tup hsq ht =>
      simp only [tgW] at e
      rename_i ws vs a
      have go : ∀ (is : List Nat) (ws : List Wv) (vs : List V) (sw τ : Sw) (σ : L2.St), SR Z ι H sw σ → WsR Z ι H ws vs → setAll is ws sw = some τ → vs.length = is.length ∧ SR Z ι H τ (setsV is vs σ) ∧ ∀ us, (∀ i ∈ is, i ∈ us) → wipe (setsV is vs σ) us = wipe σ us := by
        intro is
        induction is with
        | nil =>
          intro ws vs sw τ σ hs ht e
          cases ht with
          | nil => simp only [setAll] at e; cases e; exact ⟨rfl, hs, fun us _ => rfl⟩
          | cons _ _ => simp [setAll] at e
        | cons i is ih =>
          intro ws vs sw τ σ hs ht e
          cases ht with
          | nil => simp [setAll] at e
          | cons h1 t1 =>
            simp only [setAll] at e
            obtain ⟨a1, a2, a3⟩ := ih _ _ _ _ _ (hs.set h1 i) t1 e
            refine ⟨by simp [a1], a2, fun us hu => ?_⟩
            show wipe (setsV is _ (σ.set i _)) us = _
            rw [a3 us fun j hj => hu j (List.mem_cons_of_mem _ hj)]
            exact wipe_set (hu i List.mem_cons_self) _
      obtain ⟨a1, a2, a3⟩ := go is ws vs sw τ σ hs ht e
      exact ⟨a, vs, rfl, hsq, a1, h _ a2 a3⟩
    | _ => cases e
end
end MP
end
section
set_option Elab.async false
set_option linter.all false
set_option maxRecDepth 100000
/-! MP15: targets, comprehensions. -/
namespace MP
open PySem PySem.Spec PyProof.Rows L2

theorem Out.bind_assoc {α β γ : Type} (x : Out α) (f : α → Mem → Out β) (g : β → Mem → Out γ) : (x.bind f).bind g = x.bind fun a M => (f a M).bind g := by
  cases x <;> rfl
theorem Out.bind_okE {α β : Type} {x : Out α} {f : α → Mem → Out β} {b : β} {M' : Mem} (h : x.bind f = .ok b M') : ∃ a M, x = .ok a M ∧ f a M = .ok b M' := by
  cases x with
  | ok a M => exact ⟨a, M, rfl, h⟩
  | exc c M => cases h
  | bad => cases h
theorem Out.chk_okE {α : Type} {q : Bool} {x : Out α} {b : α} {M' : Mem} (h : Out.chk q x = .ok b M') : q = true ∧ x = .ok b M' := by
  cases q with
  | true => exact ⟨rfl, h⟩
  | false => cases h
theorem Out.ofO_okE {α : Type} {o : Option α} {M M' : Mem} {b : α} (h : Out.ofO o M = .ok b M') : o = some b ∧ M = M' := by
  cases o with
  | none => cases h
  | some a => cases h; exact ⟨rfl, rfl⟩
/-- no refusal is wished for -/
def Wf : Wish := fun _ _ _ => False
/-! ### targets -/
def stoB (N : List Str) (sc : Scope) (fn : Str → Bool) (i : Nat) (x : Str) : Bool := decide (N[i]? = some x) && match sc.names.lookup x with
  | some .local => true
  | some .cell => fn x
  | _ => false
section
variable {X : Cx} {Z : Zt} {Wx : Wish} {G : Pg} {C C1 : Nat → List Wv → Mem → Out Wv} {a b c e tg iter elt : Expr} {es : List Expr} {ea eb ec ee : Ex} {el : El} {it : MP.It} {pos p p2 p3 apos : Pos}
variable {pins : List (Addr × Obj)} {σ : L2.St} {H H1 H2 : Hp} {s : Shared} {ι ι1 ι2 : List Addr} {M : Mem} {sw : Sw}
theorem stoB_ok {i : Nat} {x : Str} (h : stoB X.N X.env.scope X.fn i x = true) : X.N[i]? = some x ∧ Loc X.env.scope x ∧ (X.fn x = true ∨ X.env.scope.names.lookup x = some .local) := by
  unfold stoB at h
  rw [Bool.and_eq_true] at h
  refine ⟨of_decide_eq_true h.1, ?_⟩
  have h2 := h.2
  split at h2
  · rename_i e; exact ⟨.inl e, .inr e⟩
  · rename_i e; exact ⟨.inr e, .inl h2⟩
  · cases h2
theorem g_nm (nd : X.N.Nodup) (K : PySem.W.Frag) (i : Nat) {x : Str} (h : stoB X.N X.env.scope X.fn i x = true := by kernel_rfl) : PG X (.Name x pos) (gT K (.nm i)) := by
  obtain ⟨h1, h2, h3⟩ := stoB_ok h
  exact pg_name nd h1 h2 h3
/-- several names -/
def gSet (is : List Nat) : TGs := fun vs σ H Q => vs.length = is.length ∧ Q (setsV is vs σ) H
theorem _root_.L2.PGs.weak {ts : List Expr} {t t' : TGs} (h : PGs X ts t) (w : ∀ v σ H Q, t' v σ H Q → t v σ H Q) : PGs X ts t' := ⟨fun pins s σ H vs us Q I r q => h.run pins s σ H vs us Q I r (w vs σ H Q q)⟩
theorem gs_nil : PGs X [] (gSet []) := pgs_nil.weak fun v σ H Q ⟨h1, h2⟩ => by
  cases v with
  | nil => exact ⟨rfl, h2⟩
  | cons _ _ => cases h1
theorem gs_cons (nd : X.N.Nodup) (i : Nat) {x : Str} {is : List Nat} (hr : PGs X es (gSet is)) (h : stoB X.N X.env.scope X.fn i x = true := by kernel_rfl)
    (hs : (assignEach (.Name x pos :: es) X.env).map (·.2) = assign (.Name x pos) X.env :: (assignEach es X.env).map (·.2) := by rfl) : PGs X (.Name x pos :: es) (gSet (i :: is)) := by
  obtain ⟨h1, h2, h3⟩ := stoB_ok h
  refine (pgs_cons (pg_name nd h1 h2 h3) hr hs).weak fun v σ H Q ⟨q1, q2⟩ => ?_
  cases v with
  | nil => cases q1
  | cons v vs => exact ⟨v, vs, rfl, by simpa using q1, q2⟩
theorem g_tup (hc : X.calm = true) {k : Nat} {is : List Nat} {K : PySem.W.Frag} (hK : X.K = K) (hr : PGs X es (gSet is)) (hn : (assignEach es X.env).length = is.length := by rfl) (hst : (assignEach es X.env).findIdx? (·.1) = none := by rfl) : PG X (.Tuple es k pos) (gT K (.tup is)) := by
  have h := pg_tup (n := is.length) (k := k) (pos := pos) hc hr hn hst
  refine ⟨fun pins s σ H v u Q I r ⟨a, vs, e, hq, hl, q⟩ => h.run pins s σ H v u Q I r ⟨a, vs, e, by rw [hK]; exact hq, hl, hl, q⟩⟩
/-! ### blocks -/
theorem Bx.blk (k : Bx X Z Wx G) (s : Shared) (H : Hp) (scope : Scope) (ce : Env) (fp : List Addr) : Bx (X.blk s H scope ce fp) Z Wf G :=
  ⟨⟨k.K, k.P, k.w, k.calm, k.un, k.gd⟩, k.hS, k.nd, fun u s' ⟨a, B, sI, pins, σ, H, cls, d, e, I, nb, up, sky, na, os, ag, dn, c, ec, w⟩ => False.elim w⟩
/-- an end behind a walk -/
theorem pe_unl {t : TE} (h : PE X e t) : PE X e (fun σ H Q => t σ H fun v H' => ∃ dl, UlOk X dl H' ∧ Q v (ulH dl H')) :=
  ⟨fun pins s σ H Q I hw => thn (h.run pins s σ H _ I hw) fun u s' ⟨v, H', I', r, dl, uo, q⟩ => ⟨v, _, inv_ul I' uo, r, q⟩⟩
/-- an object that is not told of is written -/
theorem Ext.side (e : Ext ι ι1 H H1) {D : Addr} {ho : HO} (hD : H D = none) (nt : NoT ho := by intro ps z; cases z) : Ext ι ι1 H (upd H1 D ho) :=
  ⟨e.pre, fun a o h nt hx => by rw [upd_ne (ne_of_none h hD)]; exact e.frm a o h nt hx, fun a ob φ h => by rw [upd_ne (ne_of_none h hD)]; exact e.frz a ob φ h, fun a h => by
    by_cases q : a = D
    · rw [q]; exact Vac.of hD
    · exact e.dom a (h.upd_ne q)⟩
theorem Le.side {D : Addr} {h0 ho : HO} (hD : H D = some h0) (ni : ¬ Imm h0) : Le ι ι H (upd H D ho) := ⟨fun _ _ h => h, fun a o h i => by
  have ne : a ≠ D := fun z => by rw [z, hD] at h; cases h; exact ni i
  rw [upd_ne ne]; exact h⟩
theorem RM.side (R : RM Z ι M H) {D : Addr} {h0 ho : HO} (hn : D ∉ ι) (hD : H D = some h0) (ni : ¬ Imm h0) (nt : NoT h0) (nc : ∀ q, h0 ≠ LamX.CodeO D q) : RM Z ι M (upd H D ho) :=
  ⟨R.len, R.nd, fun l o a h1 h2 => (R.ob l o a h1 h2).mono (Le.side hD ni) fun z q _ => by
    have ne : a ≠ D := fun z => hn (by rw [← z]; exact List.mem_of_getElem? h2)
    rw [upd_ne ne]; exact q, tabs_write R.tab hD nt nc⟩
theorem notin_ext (e : Ext ι ι1 H H1) {D : Addr} {h0 : HO} (hn : D ∉ ι) (hD : H D = some h0) (nt : NoT h0 := by intro ps z; cases z) : D ∉ ι1 := fun hm => by
  obtain ⟨κ, rfl, hκ⟩ := e.pre
  rcases List.mem_append.mp hm with z | z
  · exact hn z
  · exact hκ D z h0 hD nt
theorem ul_ne {dl : Option (Addr × Obj)} {D : Addr} {h0 : HO} (uo : UlOk X dl H) (hD : H D = some h0) (hf : ∀ o, h0 ≠ lkO true D o) : ulH dl H D = some h0 := by
  cases dl with
  | none => exact hD
  | some q =>
    have ne : D ≠ q.1 := fun z => by
      have := uo.1
      rw [← z, hD] at this
      cases this
      exact hf q.2 rfl
    show upd H q.1 (DctO q.1 q.2) D = _
    rw [upd_ne ne]
    exact hD
/-! ### list comprehensions -/
theorem wipe_idem (σ : L2.St) : ∀ vs : List Nat, wipe (wipe σ vs) vs = wipe σ vs
  | [] => rfl
  | v :: vs => by
    show (wipe ((wipe σ vs).set v none) vs).set v none = (wipe σ vs).set v none
    rw [wipe_set0, wipe_idem σ vs]
theorem ifs_none : PTs X [] (TTx Z Wf G C C1 (.con (.bl true))) := ⟨fun pins s σ H Q I ⟨ι, sw, M, sr, R, h⟩ => pts_nil.run pins s σ H Q I (by
  have e : evT G C C1 (.con (.bl true)) sw M = .ok true M := by unfold evT; simp only [evE]; rfl
  rw [e] at h
  exact h H ι (Ext.refl _ _) R)⟩
theorem ifs_one (h : PT X c (TTx Z Wf G C C1 ec)) : PTs X [c] (TTx Z Wf G C C1 ec) := pts_one h
/-- a reading of a value that can't be refused, when its reckoning is known -/
theorem tE_ok {f : Fv} {R : VK} {w : Wv} {M1 : Mem} (s : SR Z ι H sw σ) (R0 : RM Z ι M H) (e : f sw M = .ok w M1) (hk : ∀ v H1 ι1, Ext ι ι1 H H1 → RM Z ι1 M1 H1 → WR Z ι1 H1 w v → SR Z ι1 H1 sw σ → R v H1) : tE Z Wx f σ H R :=
  ⟨ι, sw, M, s, R0, by rw [e]; exact fun v H' ι' x R q => hk v H' ι' x R q (s.mono x.le)⟩
theorem tT_ok {f : Sw → Mem → Out Bool} {R : Bool → Hp → Prop} {w : Bool} {M1 : Mem} (s : SR Z ι H sw σ) (R0 : RM Z ι M H) (e : f sw M = .ok w M1) (hk : ∀ H1 ι1, Ext ι ι1 H H1 → RM Z ι1 M1 H1 → SR Z ι1 H1 sw σ → R w H1) : tT Z Wx f σ H R :=
  ⟨ι, sw, M, s, R0, by rw [e]; exact fun H' ι' x R => hk H' ι' x R (s.mono x.le)⟩
theorem lc_read {t : Tg} {Q : VK} (h : TEx Z Wx G C C1 (.lc ee t it ec) σ H Q) : tLc (tI X Z Wx (evI G C C1 it)) (gT Z.K t) (TTx Z Wf G C C1 ec) (TEx Z Wf G C C1 ee) t.slots σ H fun v H' => ∃ dl, UlOk X dl H' ∧ Q v (ulH dl H') := by
  obtain ⟨ι, sw, M, s, R0, h⟩ := h
  refine ⟨ι, sw, M, s, R0, ?_⟩
  simp only [evE] at h
  cases e : evI G C C1 it sw M with
  | bad => rw [e] at h; exact h
  | exc c M1 => rw [e] at h; exact h
  | ok r M1 =>
    obtain ⟨xs, ps⟩ := r
    rw [e] at h
    intro J H1 ι1 dl L W D hD
    simp only [Out.bind_ok] at h
    cases e3 : lcGo G t (evE G C C1 ec) (evE G C C1 ee) ps xs (wipeW sw t.slots) [] (lockM ps M1) with
    | bad => rw [e3] at h; exact False.elim h
    | exc c M3 => rw [e3] at h; exact False.elim h
    | ok ws3 M3 =>
      rw [e3] at h
      have h : eOut Z Wx σ ι H (.ok (.ref (unlkM ps M3).length) (unlkM ps M3 ++ [.lst ws3])) Q := h
      refine ⟨fun i m H2 => m = xs.length - i ∧ i ≤ xs.length ∧ ∃ ι2 M2 acc accV, H2 D = some (.lst accV) ∧ D ∉ ι2 ∧ RM Z ι2 M2 H2 ∧ Ext ι1 ι2 H1 H2 ∧ WsR Z ι2 H2 acc accV ∧ lcGo G t (evE G C C1 ec) (evE G C C1 ee) ps (xs.drop i) (wipeW sw t.slots) acc M2 = .ok ws3 M3,
        ⟨xs.length, by simp, Nat.zero_le _, ι1, lockM ps M1, [], [], upd_same, L.rm.notin hD, L.rm.fresh hD, Ext.fresh ι1 hD, .nil, by simpa using e3⟩, ?_⟩
      rintro i m H2 ⟨rfl, hi, ι2, M2, acc, accV, hD2, nD, R2, x2, wacc, e2⟩
      have ss : SR Z ι2 H2 (wipeW sw t.slots) (wipe σ t.slots) := ((s.mono L.le).mono x2.le).wipe _
      have nt : NoT (.lst accV) := fun ps z => by cases z
      have ni : ∀ l : List V, ¬ Imm (.lst l) := fun l z => by rcases z with ⟨_, z⟩ | ⟨_, _, z, _⟩ <;> cases z
      by_cases hlt : i < xs.length
      · refine .inr ?_
        rw [List.drop_eq_getElem_cons hlt] at e2
        simp only [lcGo] at e2
        obtain ⟨st, e2⟩ := Out.chk_okE e2
        refine ⟨W.go i ι2 H2 M2 x2 R2 st hlt, fun H' => xs.length - (i + 1) = xs.length - (i + 1) ∧ i + 1 ≤ xs.length ∧ ∃ ι2 M2 acc accV, H' D = some (.lst accV) ∧ D ∉ ι2 ∧ RM Z ι2 M2 H' ∧ Ext ι1 ι2 H1 H' ∧ WsR Z ι2 H' acc accV ∧ lcGo G t (evE G C C1 ec) (evE G C C1 ee) ps (xs.drop (i + 1)) (wipeW sw t.slots) acc M2 = .ok ws3 M3,
          fun H' q => ⟨xs.length - (i + 1), by omega, q⟩, fun v H' y => ?_⟩
        obtain ⟨w, hw, x3, R3, wr⟩ := W.yld i ι2 H2 M2 v H' x2 R2 st hlt y
        have ew : xs[i] = w := by rw [List.getElem?_eq_getElem hlt] at hw; exact Option.some.inj hw
        rw [ew] at e2
        cases et : tgW t w (wipeW sw t.slots) with
        | none => rw [et] at e2; cases e2
        | some τ =>
          rw [et] at e2
          simp only at e2
          refine tgW_rel (ss.mono x3.le) wr et fun σ' sr' wp => ⟨?_, ?_⟩
          · have := wp t.slots (fun _ z => z)
            rw [this]
            exact wipe_idem σ t.slots
          · rw [← Out.bind_assoc] at e2
            obtain ⟨q, M4, e4, e2⟩ := Out.bind_okE e2
            have x13 := x2.trans x3
            have hD3 : H' D = some (.lst accV) := x3.frm D _ hD2 nt (.inl nD)
            refine tT_ok sr' R3 (show evT G C C1 ec τ M2 = .ok q M4 from e4) fun H4 ι4 x4 R4 s4 => ?_
            have hD4 : H4 D = some (.lst accV) := x4.frm D _ hD3 nt (.inl nD)
            have nD4 := notin_ext x4 nD hD3
            cases q with
            | false =>
              rw [if_neg Bool.false_ne_true] at e2 ⊢
              exact ⟨rfl, hlt, ι4, M4, acc, accV, hD4, nD4, R4, x13.trans x4, (wacc.mono x3.le).mono x4.le, e2⟩
            | true =>
              rw [if_pos rfl] at e2 ⊢
              obtain ⟨y, M5, e5, e2⟩ := Out.bind_okE e2
              obtain ⟨zl, e2⟩ := Out.chk_okE e2
              refine tE_ok s4 R4 e5 fun yv H5 ι5 x5 R5 wy s5 => ?_
              have hD5 : H5 D = some (.lst accV) := x5.frm D _ hD4 nt (.inl nD4)
              have nD5 := notin_ext x5 nD4 hD4
              have wacc5 := ((wacc.mono x3.le).mono x4.le).mono x5.le
              have zl := of_decide_eq_true zl
              have le6 : Le ι5 ι5 H5 (upd H5 D (.lst (accV ++ [yv]))) := Le.side hD5 (ni _)
              refine ⟨accV, hD5, by rw [← wacc5.length]; omega, rfl, hlt, ι5, M5, acc ++ [y], accV ++ [yv], upd_same, nD5, R5.side nD5 hD5 (ni _) nt (fun q z => by cases z), ((x13.trans x4).trans x5).side hD, (wacc5.append (.cons wy .nil)).mono le6, e2⟩
      · have ei : i = xs.length := by omega
        subst ei
        rw [List.drop_length] at e2
        simp only [lcGo] at e2
        obtain ⟨st, e2⟩ := Out.chk_okE e2
        cases e2
        refine .inl ⟨W.stop ι2 H2 M3 x2 R2 st, dl, ?_⟩
        obtain ⟨u1, u2, u3, u4⟩ := L.un x2 R2
        refine ⟨u4, ?_⟩
        have hDu : ulH dl H2 D = some (.lst accV) := ul_ne u4 hD2 fun o z => by cases z
        have hD0 : Vac H D := by
          refine L.ext.dom D (Vac.of ?_)
          cases dl with
          | none => exact hD
          | some q =>
            have ne : D ≠ q.1 := fun z => by
              obtain ⟨l, kvs, _, _, _, hd, _⟩ := L.lk
              rw [← z, hD] at hd
              cases hd
            show upd H1 q.1 (DctO q.1 q.2) D = none
            rw [upd_ne ne]
            exact hD
        refine h (.ref D) _ (ι2 ++ [D]) (Ext.told hD0 u1 nD) (u2.tell nD ⟨accV, hDu, (wacc.mono u3).mono (Le.grow ι2 [D] _)⟩) (.ref (snoc_ix u2 D))
theorem e_lc (k : Bx X Z Wx G) {t : Tg} {ifs : List Expr} {scope : Scope} {own : List (Str × Nat)} (hi : PI X tg iter (tI X Z Wx (evI G C C1 it))) (ok : BlkOk X.N X.env.scope scope own) (ho : own.map (·.2) = t.slots)
    (hg : ∀ (s : Shared) (H : Hp) (Cc : Addr) (cl : List (Str × Addr)) (fp : List Addr), PG (X.blk s H scope (compEnvC scope cl Cc X.env) fp) tg (gT Z.K t))
    (ht : ∀ (s : Shared) (H : Hp) (Cc : Addr) (cl : List (Str × Addr)) (fp : List Addr), PTs (X.blk s H scope (compEnvC scope cl Cc X.env) fp) ifs (TTx Z Wf G C C1 ec))
    (he : ∀ (s : Shared) (H : Hp) (Cc : Addr) (cl : List (Str × Addr)) (fp : List Addr), PE (X.blk s H scope (compEnvC scope cl Cc X.env) fp) elt (TEx Z Wf G C C1 ee)) (hs : ∀ x, foldedSetIterable iter X.env x = pure x := by intro _; rfl) :
    PE X (.ListComp elt [⟨tg, iter, ifs, 0⟩] scope pos) (TEx Z Wx G C C1 (.lc ee t it ec)) :=
  (pe_unl (pe_lc k.calm k.nd hi ok hg ht he hs)).weak fun σ H Q h => by rw [ho]; exact lc_read h
/-- name = [..] on one line -/
theorem s_setLc (k : Bx X Z Wx G) {t : Tg} {i : Nat} {y : Str} {py spos : Pos} {ifs : List Expr} {scope : Scope} {own : List (Str × Nat)} (hy : X.N[i]? = some y) (hyl : X.env.scope.names.lookup y = some .local)
    (hsw : swapsWith (.ListComp elt [⟨tg, iter, ifs, 0⟩] scope pos) (some (.Name y py)) spos.line X.env = pure true) (hi : PI X tg iter (tI X Z Wx (evI G C C1 it))) (ok : BlkOk X.N X.env.scope scope own) (ho : own.map (·.2) = t.slots)
    (hg : ∀ (s : Shared) (H : Hp) (Cc : Addr) (cl : List (Str × Addr)) (fp : List Addr), PG (X.blk s H scope (compEnvC scope cl Cc X.env) fp) tg (gT Z.K t))
    (ht : ∀ (s : Shared) (H : Hp) (Cc : Addr) (cl : List (Str × Addr)) (fp : List Addr), PTs (X.blk s H scope (compEnvC scope cl Cc X.env) fp) ifs (TTx Z Wf G C C1 ec))
    (he : ∀ (s : Shared) (H : Hp) (Cc : Addr) (cl : List (Str × Addr)) (fp : List Addr), PE (X.blk s H scope (compEnvC scope cl Cc X.env) fp) elt (TEx Z Wf G C C1 ee)) (hs : ∀ x, foldedSetIterable iter X.env x = pure x := by intro _; rfl) :
    PS X (.Assign [.Name y py] (.ListComp elt [⟨tg, iter, ifs, 0⟩] scope pos) spos) (tAsg (TEx Z Wx G C C1 (.lc ee t it ec)) (gName i)) := by
  have h0 := ps_setLc (spos := spos) (py := py) (pos := pos) k.calm k.nd hy hyl hsw hi ok hg ht he hs
  refine ⟨fun pins s σ H D I h => ?_⟩
  have h : TEx Z Wx G C C1 (.lc ee t it ec) σ H fun x H1 => gName i x σ H1 D.nx := h
  have h2 := lc_read (X := X) h
  rw [← ho] at h2
  refine thn (h0.run pins s σ H ⟨fun σ' H' => ∃ dl, UlOk X dl H' ∧ D.nx σ' (ulH dl H'), D.rt, D.bk, D.ct⟩ I h2) fun f s1 q => ?_
  cases f with
  | next => obtain ⟨σ', H', I2, dl, uo, q⟩ := q; exact ⟨σ', _, inv_ul I2 uo, q⟩
  | brk => exact q
  | cont => exact q
  | ret v => exact q
/-! ### dict comprehensions -/
theorem DctR.dictSet {D : Addr} {kvs : List (Wv × Wv)} {kk vv : Wv} {x y : V} {u w' : Value} {Q : Unit → Shared → Prop} {E : Value → Shared → Prop} (I : L2.Inv X pins σ H s) (k : XOk X Z) (nD : D ∉ ι) (Dd : DctR Z ι H D false kvs) (h : keyOk kvs kk = true) (hz : kvs.length + 1 ≤ sizeLine)
    (r : WR Z ι H kk x) (ru : RelV x u) (ry : WR Z ι H vv y) (rw' : RelV y w')
    (q : ∀ s' o', L2.Inv X pins σ (upd H D (DctO D o')) s' → DctR Z ι (upd H D (DctO D o')) D false (dput kvs kk vv) → Q () s') : wpAny (model X.prog X.w) X.A (PySem.dictSet D u w') Q E s := by
  obtain ⟨o, es, ep, h1, h2, h3, h4, h5, h6, h7, h8⟩ := id Dd
  have h1 : H D = some (DctO D o) := h1
  have hlen : (dput kvs kk vv).length ≤ sizeLine := by have := dput_len kvs kk vv; omega
  have hmut : Mut (H D) := by rw [h1]; exact True.intro
  have le : ∀ o', Le ι ι H (upd H D (DctO D o')) := fun o' => Le.side h1 (lkO_noI false D o)
  rcases keyOk_cases h with ⟨k1, k2⟩ | ⟨k1, k2⟩
  · obtain ⟨vs, dd, pv, hd⟩ := Dd.dictOf I k k2
    have ex := keyA_rel k1 r
    subst ex
    have hz2 : vs.length ≤ sizeLine := by rw [← Paired.length pv]; omega
    refine wpAny_dictSet_pairs (hsz := hz2) (kV_is ru) dd fun h' dd' hs => ?_
    obtain ⟨o', es', ep', e1, e2, e3, e4, e5, e6⟩ := dd'
    refine q _ o' (d_write I hmut hs ⟨o', e1⟩ (DctR.ok_new e1)) ⟨o', es', ep', upd_same, e2, e3, hd, hlen, dput_nodup h6, .inl (dput_all k2 k1), ?_⟩
    refine pairs_back (P := X.prog) k.w.symm (fun e he => e4 e (Array.mem_toList_iff.mp he)) e5 ?_
    exact L2.Paired.mapP (pv.put k1 h6 rw' ry) fun p q z => ⟨z.1, z.2.1, let ⟨x, z1, z2⟩ := z.2.2; ⟨x, z1, z2.mono (le o')⟩⟩
  · obtain ⟨xs, dd, pv, hd⟩ := Dd.dictOfH I k k2
    obtain ⟨b, rfl⟩ := keyT_ref k1 r
    cases ru
    have hz2 : xs.length ≤ sizeLine := by rw [← Paired.length pv]; omega
    refine wpAny_dictSet_heap (hsz := hz2) (by show X.A.units + 8 < cLine; have := k.un; omega) (keyT_is I k.K k1 r) dd fun h' dd' hs => ?_
    obtain ⟨o', es', ep', e1, e2, e3, e4, e5, e6⟩ := dd'
    refine q _ o' (d_write I hmut hs ⟨o', e1⟩ (DctR.ok_new e1)) ⟨o', es', ep', upd_same, e2, e3, hd, hlen, dput_nodup h6, .inr (dput_all k2 k1), ?_⟩
    refine pairs_backT (P := X.prog) k.w.symm e4 ?_
    exact L2.Paired.mapP (pv.put k1 h6 r rw' ry) fun p q z => ⟨z.1, z.2.1, z.2.2.1.mono (le o'), let ⟨x, z1, z2⟩ := z.2.2.2; ⟨x, z1, z2.mono (le o')⟩⟩
/-- the new dict's object -/
abbrev empO : Obj := { cls := .type "dict", data := .dict #[] }
/-- a pair is put -/
def DStep (X : Cx) (D : Addr) (y z : V) (σ : L2.St) (H : Hp) (Nx : Hp → Prop) : Prop :=
  ∀ (pins : List (Addr × Obj)) (s : Shared) (u r : Value) (Q : Unit → Shared → Prop) (E : Value → Shared → Prop), L2.Inv X pins σ H s → RelV y u → RelV z r → (∀ s' H', L2.Inv X pins σ H' s' → Nx H' → Q () s') → wpAny (model X.prog X.w) X.A (PySem.dictSet D u r) Q E s
def tDcW (X : Cx) (scope : Scope) (wi : TI) (g : TG) (tt : TT) (tk tv : TE) (vs : List Nat) : TE := fun σ H Q => wi σ H fun J H1 => ∀ D, H1 D = none → (D == sysModules) = false → ∃ W : Nat → Nat → Hp → Prop, (∃ m, W 0 m (upd H1 D (DctO D empO))) ∧ ∀ i m H, W i m H →
  (J.stop i H ∧ Q (.ref D) H) ∨ (J.go i H ∧ ∃ Nx : Hp → Prop, (∀ H', Nx H' → ∃ m', m' < m ∧ W (i + 1) m' H') ∧ ∀ x H', J.yld i H x H' → g x (wipe σ vs) H' fun σ2 H2 => wipe σ2 vs = wipe σ vs ∧ tt σ2 H2 fun b H3 =>
    if b = true then tk σ2 H3 fun y H4 => tv σ2 H4 fun z H5 => ∀ s0 H0 Cc cl fp, DStep (X.blk s0 H0 scope (compEnvC scope cl Cc X.env) fp) D y z σ2 H5 Nx else Nx H3)
theorem dcW_core {Q : VK} {kx vx : Expr} {ifs : List Expr} {scope : Scope} {own : List (Str × Nat)} {pos' : Pos} {wi : TI} {g : TG} {tt : TT} {tk tv : TE} {use : Option (Value → Sem Unit)} {Qf : Value → Shared → Prop}
    (hc : X.calm = true) (hN : X.N.Nodup) (I : L2.Inv X pins σ H s) (hi : PI X tg iter wi) (ok : BlkOk X.N X.env.scope scope own)
    (hg : ∀ (s : Shared) (H : Hp) (C : Addr) (cl : List (Str × Addr)) (fp : List Addr), PG (X.blk s H scope (compEnvC scope cl C X.env) fp) tg g) (ht : ∀ (s : Shared) (H : Hp) (C : Addr) (cl : List (Str × Addr)) (fp : List Addr), PTs (X.blk s H scope (compEnvC scope cl C X.env) fp) ifs tt)
    (hk : ∀ (s : Shared) (H : Hp) (C : Addr) (cl : List (Str × Addr)) (fp : List Addr), PE (X.blk s H scope (compEnvC scope cl C X.env) fp) kx tk)
    (he : ∀ (s : Shared) (H : Hp) (C : Addr) (cl : List (Str × Addr)) (fp : List Addr), PE (X.blk s H scope (compEnvC scope cl C X.env) fp) vx tv) (hs : ∀ x, foldedSetIterable iter X.env x = pure x)
    (h : tDcW X scope wi g tt tk tv (own.map (·.2)) σ H Q)
    (hRR : ∀ D C s' m H', L2.Inv X pins σ H' s' → Q (.ref D) H' → s'.heap.Ns C m → FpOk X pins H' C → compPost (model X.prog X.w) X.A X.xe use Qf (.ref D) C (.ok .next) s') :
    wpAny (model X.prog X.w) X.A (comprehension (.DictComp kx vx [⟨tg, iter, ifs, 0⟩] scope pos) scope X.env pos' newDict false (eval iter X.env) use) Qf X.xe s := by
  have hfree : ∀ y ∈ scope.names, y.2 = .free → ∃ c, X.env.cells.lookup y.1 = some c := fun y hy e => by
    rcases ok.free y hy e with k | k
    · exact I.ok.has _ (.inl k)
    · exact I.ok.has _ (.inr k)
  refine wpAny_comprehension_free (use := use) rfl hs (closure_ok hfree) ok.kind (fun y hy e => by rw [ok.uniq y hy, e])
    (thn (hi.run pins s σ H _ I h) fun xv s1 hx => thn hx fun itv s2 h2 => ?_)
  obtain ⟨it, fp, tn, J, H2, e, I2, T, st2, f2, q⟩ := h2
  subst e
  refine wpAny_newObj_type (newEnv_comp ?_)
  have hDn : H2 s2.heap.objs.size = none := I2.hok.fresh (Nat.le_refl _)
  obtain ⟨W, ⟨m0, w0⟩, turn⟩ := q s2.heap.objs.size hDn (beq_eq_false_iff_ne.mpr (Ne.symm (Nat.ne_of_lt I2.big)))
  have e1 : (s2.heap.push empO).get? s2.heap.objs.size = some empO := Heap.get?_push_size _ rfl
  have I3 : L2.Inv X pins σ (upd H2 s2.heap.objs.size (DctO s2.heap.objs.size empO)) { s2 with heap := s2.heap.push empO } :=
    I2.laid (t' := s2.toks) (fun b o e => Heap.get?_push_of_some _ e) (Nat.le_refl _) (DctR.ok_new e1)
  have sz : ∀ b ∈ fp, b < s2.heap.objs.size := fun b hb => by
    obtain ⟨o, e, _⟩ := T.obj _ _ st2 b hb
    exact Heap.lt_size e
  generalize hD : s2.heap.objs.size = D at hDn w0 turn I3 sz ⊢
  generalize hs3 : ({ s2 with heap := s2.heap.push empO } : Shared) = s3 at I3
  have h3 : s3.heap = s2.heap.push empO := by rw [← hs3]
  have f3 : ∀ b ∈ fp, FpOk X pins (upd H2 D (DctO D empO)) b ∧ b < s3.heap.objs.size := fun b hb => by
    have hlt := sz b hb
    refine ⟨⟨?_, (f2 b hb).2⟩, by rw [h3, Heap.size_push, hD]; exact Nat.lt_succ_of_lt hlt⟩
    rw [upd_ne (Nat.ne_of_lt hlt)]
    exact (f2 b hb).1
  have st3 : tn 0 s3.heap := T.keep _ _ _ st2 fun b _ o e => by rw [h3]; exact Heap.get?_push_of_some _ e
  have I4 := block_start I3 ok hN f3
  have pg := hg s3 (upd H2 D (DctO D empO)) s3.heap.objs.size (cellsFrom (s3.heap.objs.size + 1) scope.names (cloFrom X.env.cells scope.names [])) fp
  have pt := ht s3 (upd H2 D (DctO D empO)) s3.heap.objs.size (cellsFrom (s3.heap.objs.size + 1) scope.names (cloFrom X.env.cells scope.names [])) fp
  have pk := hk s3 (upd H2 D (DctO D empO)) s3.heap.objs.size (cellsFrom (s3.heap.objs.size + 1) scope.names (cloFrom X.env.cells scope.names [])) fp
  have pe := he s3 (upd H2 D (DctO D empO)) s3.heap.objs.size (cellsFrom (s3.heap.objs.size + 1) scope.names (cloFrom X.env.cells scope.names [])) fp
  have pd : ∀ {y z : V} {σ2 : L2.St} {H5 : Hp} {Nx : Hp → Prop}, (∀ s0 H0 Cc cl fp, DStep (X.blk s0 H0 scope (compEnvC scope cl Cc X.env) fp) D y z σ2 H5 Nx) → DStep (X.blk s3 (upd H2 D (DctO D empO)) scope (compEnvC scope (cellsFrom (s3.heap.objs.size + 1) scope.names (cloFrom X.env.cells scope.names [])) s3.heap.objs.size X.env) fp) D y z σ2 H5 Nx := fun h => h _ _ _ _ _
  show codeAny _ _ (.compStart (.DictComp kx vx [⟨tg, iter, ifs, 0⟩] scope pos) 0 (.ref it) (.ref D) (compEnvC scope (cellsFrom (s3.heap.objs.size + 1) scope.names (cloFrom X.env.cells scope.names [])) s3.heap.objs.size X.env)) (compPost (model X.prog X.w) X.A X.xe use Qf (.ref D) s3.heap.objs.size) { s3 with heap := pushCells (s3.heap.push { cls := .type "dict", data := .dict #[] }) scope.names }
  have nfp : ∀ b ∈ fp, (upd H2 D (DctO D empO)) b = none := fun b hb => (f3 b hb).1.1
  generalize hce : compEnvC scope (cellsFrom (s3.heap.objs.size + 1) scope.names (cloFrom X.env.cells scope.names [])) s3.heap.objs.size X.env = ce at I4 pg pt pk pe pd ⊢
  have cL : ce.locals = s3.heap.objs.size := by subst hce; rfl
  generalize hH3 : upd H2 D (DctO D empO) = H3 at I3 I4 pg pt pk pe pd w0 nfp f3
  generalize hs4 : ({ s3 with heap := pushCells (s3.heap.push { cls := .type "dict", data := .dict #[] }) scope.names } : Shared) = s4 at I4 ⊢
  have st4 : tn 0 s4.heap := T.keep _ _ _ st3 fun b _ o e => by rw [← hs4]; exact pushCells_keeps _ _ _ _ (Heap.get?_push_of_some _ e)
  have stat : ∀ {σ' : L2.St} {H' : Hp} {s' : Shared}, L2.Inv (X.blk s3 H3 scope ce fp) [] σ' H' s' → (∀ b ∈ fp, H' b = none) → ∀ b ∈ fp, FpOk (X.blk s3 H3 scope ce fp) [] H' b := fun {σ' H' s'} I' hn b hb =>
    ⟨hn b hb, (I'.ok.exf b hb).1, I'.ok.exfs b hb, .inl hb, fun x c e => (I'.ok.exf b hb).2 x c e, fun p hp => absurd (show p ∈ ([] : List (Addr × Obj)) ++ [] from hp) (by simp)⟩
  have loop : codeAny (model X.prog X.w) X.A (.compLoop (.DictComp kx vx [⟨tg, iter, ifs, 0⟩] scope pos) 0 (.ref it) (.ref D) ce) (compPost (model X.prog X.w) X.A X.xe use Qf (.ref D) s3.heap.objs.size) s4 := by
    refine compLoop_anyD (fun n s' => ∃ i H', L2.Inv (X.blk s3 H3 scope ce fp) [] (wipe σ (own.map (·.2))) H' s' ∧ tn i s'.heap ∧ (∀ b ∈ fp, H' b = none) ∧ W i n H') ?_ m0 ⟨0, H3, I4, st4, nfp, w0⟩
    rintro n s5 ⟨i, H5, I5, st5, n5, w5⟩
    rcases turn i n H5 w5 with ⟨stop, qq⟩ | ⟨go, Nx, hNx, step⟩
    · refine thnF (T.done (X.blk s3 H3 scope ce fp) rfl rfl rfl hc i [] s5 _ H5 (fun _ _ => False) I5 (stat I5 n5) st5 stop) fun r s6 ⟨hr, I6⟩ => ?_
      subst hr
      have I7 : L2.Inv X pins σ H5 s6 := I3.call' (ch := fp) I6.os I6.base I6.hok I6.bare fun b hb => ⟨(f3 b hb).1.2.2.2.1, (f3 b hb).1.2.1, (f3 b hb).1.2.2.2.2.1, (f3 b hb).1.2.2.2.2.2⟩
      have nC : H5 s3.heap.objs.size = none := by
        have z : H5 ce.locals = none := I6.free
        rw [cL] at z
        exact z
      obtain ⟨m, hn, _⟩ := I6.loc
      have hn : s6.heap.Ns ce.locals m := hn
      rw [cL] at hn
      exact hRR D s3.heap.objs.size s6 m H5 I7 qq hn (I3.fpOk (Nat.le_refl _) nC)
    · refine thnF (T.item (X.blk s3 H3 scope ce fp) rfl rfl rfl hc i [] s5 _ H5 (fun _ _ => False) I5 (stat I5 n5) st5 go) fun r s6 ⟨u, hr, h6⟩ => ?_
      subst hr
      refine thnF h6 fun _ s7 ⟨x, H7, I7, r7, y7, st7, n7⟩ => ?_
      refine thnF (pg.run _ s7 _ H7 x u _ (I7.pinned (stat I7 n7) (T.obj _ _ st7)) r7 (step x H7 y7)) fun _ s8 ⟨σ8, H8, I8, hw8, q8⟩ => ?_
      refine thnF (pt.run _ s8 σ8 H8 _ I8 q8) fun b s9 ⟨H9, I9, q9⟩ => ?_
      have fin : ∀ {s' : Shared} {H' : Hp}, L2.Inv (X.blk s3 H3 scope ce fp) ([] ++ pinsAt fp s7.heap) σ8 H' s' → Nx H' → ∃ m, m < n ∧ ∃ i H', L2.Inv (X.blk s3 H3 scope ce fp) [] (wipe σ (own.map (·.2))) H' s' ∧ tn i s'.heap ∧ (∀ b ∈ fp, H' b = none) ∧ W i m H' := fun {s' H'} I' nx => by
        obtain ⟨m', hm, w'⟩ := hNx H' nx
        have pin' : ∀ b ∈ fp, ∀ o, s7.heap.get? b = some o → s'.heap.get? b = some o ∧ H' b = none := fun b hb o e =>
          let z := I'.pin (b, o) (List.mem_append_right _ (List.mem_append_right _ (mem_pinsAt hb e)))
          ⟨z.1, z.2.1⟩
        have hl : (wipe σ (own.map (·.2))).length = σ8.length := by rw [← hw8, wipe_length]
        refine ⟨m', hm, i + 1, H', (I'.unpinned (pins := [])).weak hl (fun j v e => ?_), T.keep _ _ _ st7 fun b hb o e => (pin' b hb o e).1, fun b hb => ?_, w'⟩
        · rw [← hw8] at e
          exact (wipe_some e).1
        · obtain ⟨o, e, _⟩ := T.obj _ _ st7 b hb
          exact (pin' b hb o e).2
      cases b with
      | false =>
        simp only [Bool.false_eq_true, if_false] at q9 ⊢
        exact fin I9 q9
      | true =>
        simp only [if_true] at q9 ⊢
        refine thnF (pk.run _ s9 σ8 H9 _ I9 q9) fun z s10 ⟨yk, H10, I10, r10, q10⟩ => ?_
        refine thnF (pe.run _ s10 σ8 H10 _ I10 q10) fun z2 s11 ⟨yv, H11, I11, r11, dstep⟩ => ?_
        exact pd dstep _ s11 z z2 _ _ I11 r10 r11 fun s12 H12 I12 nx => fin I12 nx
  exact codeAny_compStart_dict loop (T.self X.A 0 _ _ _ st4 loop)
end
end MP
end
section
set_option Elab.async false
set_option linter.all false
set_option maxRecDepth 100000
/-! MP16: dict comprehensions, two loops in one comprehension. -/
namespace MP
open PySem PySem.Spec PyProof.Rows L2
section
variable {X : Cx} {Z : Zt} {Wx : Wish} {G : Pg} {C C1 : Nat → List Wv → Mem → Out Wv} {a b c e tg iter elt : Expr} {es : List Expr} {ea eb ec ee ek ev : Ex} {el : El} {it : MP.It} {pos p p2 p3 apos : Pos}
variable {pins : List (Addr × Obj)} {σ : L2.St} {H H1 H2 : Hp} {s : Shared} {ι ι1 ι2 : List Addr} {M : Mem} {sw : Sw}
theorem dct_frm (x : Ext ι ι1 H H1) {D : Addr} {kvs : List (Wv × Wv)} (nD : D ∉ ι) (Dd : DctR Z ι H D false kvs) : DctR Z ι1 H1 D false kvs ∧ D ∉ ι1 := by
  obtain ⟨o, es, ep, h1, h2, h3, h4, h5, h6, h7, h8⟩ := Dd
  exact ⟨⟨o, es, ep, x.frm D _ h1 (lkO_noT false D o) (.inl nD), h2, h3, h4, h5, h6, h7, L2.Paired.mapP h8 fun _ _ z => z.mono x.le⟩, notin_ext x nD h1 (lkO_noT false D o)⟩
theorem DctR.mono {D : Addr} {kvs : List (Wv × Wv)} {z : Bool} (Dd : DctR Z ι H D z kvs) (le : Le ι ι1 H H1) (h : ∀ ho, H D = some ho → H1 D = some ho) : DctR Z ι1 H1 D z kvs := by
  obtain ⟨o, es, ep, h1, h2, h3, h4, h5, h6, h7, h8⟩ := Dd
  exact ⟨o, es, ep, h _ h1, h2, h3, h4, h5, h6, h7, L2.Paired.mapP h8 fun _ _ z => z.mono le⟩
theorem dc_read (k : Bx X Z Wx G) {t : Tg} {scope : Scope} {Q : VK} (h : TEx Z Wx G C C1 (.dc ek ev t it ec) σ H Q) : tDcW X scope (tI X Z Wx (evI G C C1 it)) (gT Z.K t) (TTx Z Wf G C C1 ec) (TEx Z Wf G C C1 ek) (TEx Z Wf G C C1 ev) t.slots σ H fun v H' => ∃ dl, UlOk X dl H' ∧ Q v (ulH dl H') := by
  obtain ⟨ι, sw, M, s, R0, h⟩ := h
  refine ⟨ι, sw, M, s, R0, ?_⟩
  simp only [evE] at h
  cases e : evI G C C1 it sw M with
  | bad => rw [e] at h; exact h
  | exc c M1 => rw [e] at h; exact h
  | ok r M1 =>
    obtain ⟨xs, ps⟩ := r
    rw [e] at h
    intro J H1 ι1 dl L W D hD hsys
    simp only [Out.bind_ok] at h
    cases e3 : dcGo G t (evE G C C1 ec) (evE G C C1 ek) (evE G C C1 ev) ps xs (wipeW sw t.slots) [] (lockM ps M1) with
    | bad => rw [e3] at h; exact False.elim h
    | exc c M3 => rw [e3] at h; exact False.elim h
    | ok kv3 M3 =>
      rw [e3] at h
      have h : eOut Z Wx σ ι H (.ok (.ref (unlkM ps M3).length) (unlkM ps M3 ++ [.dct false kv3])) Q := h
      refine ⟨fun i m H2 => m = xs.length - i ∧ i ≤ xs.length ∧ ∃ ι2 M2 acc, DctR Z ι2 H2 D false acc ∧ D ∉ ι2 ∧ RM Z ι2 M2 H2 ∧ Ext ι1 ι2 H1 H2 ∧ dcGo G t (evE G C C1 ec) (evE G C C1 ek) (evE G C C1 ev) ps (xs.drop i) (wipeW sw t.slots) acc M2 = .ok kv3 M3,
        ⟨xs.length, by simp, Nat.zero_le _, ι1, lockM ps M1, [], ⟨empO, #[], 0, upd_same, ⟨rfl, rfl, rfl⟩, rfl, hsys, Nat.zero_le _, List.nodup_nil, .inl rfl, .nil⟩, L.rm.notin hD, L.rm.fresh hD, Ext.fresh ι1 hD, by simpa using e3⟩, ?_⟩
      rintro i m H2 ⟨rfl, hi, ι2, M2, acc, hD2, nD, R2, x2, e2⟩
      have ss : SR Z ι2 H2 (wipeW sw t.slots) (wipe σ t.slots) := ((s.mono L.le).mono x2.le).wipe _
      by_cases hlt : i < xs.length
      · refine .inr ?_
        rw [List.drop_eq_getElem_cons hlt] at e2
        simp only [dcGo] at e2
        obtain ⟨st, e2⟩ := Out.chk_okE e2
        refine ⟨W.go i ι2 H2 M2 x2 R2 st hlt, fun H' => xs.length - (i + 1) = xs.length - (i + 1) ∧ i + 1 ≤ xs.length ∧ ∃ ι2 M2 acc, DctR Z ι2 H' D false acc ∧ D ∉ ι2 ∧ RM Z ι2 M2 H' ∧ Ext ι1 ι2 H1 H' ∧ dcGo G t (evE G C C1 ec) (evE G C C1 ek) (evE G C C1 ev) ps (xs.drop (i + 1)) (wipeW sw t.slots) acc M2 = .ok kv3 M3,
          fun H' q => ⟨xs.length - (i + 1), by omega, q⟩, fun v H' y => ?_⟩
        obtain ⟨w, hw, x3, R3, wr⟩ := W.yld i ι2 H2 M2 v H' x2 R2 st hlt y
        have ew : xs[i] = w := by rw [List.getElem?_eq_getElem hlt] at hw; exact Option.some.inj hw
        rw [ew] at e2
        cases et : tgW t w (wipeW sw t.slots) with
        | none => rw [et] at e2; cases e2
        | some τ =>
          rw [et] at e2
          simp only at e2
          refine tgW_rel (ss.mono x3.le) wr et fun σ' sr' wp => ⟨?_, ?_⟩
          · have := wp t.slots (fun _ z => z)
            rw [this]
            exact wipe_idem σ t.slots
          · rw [← Out.bind_assoc] at e2
            obtain ⟨q, M4, e4, e2⟩ := Out.bind_okE e2
            have x13 := x2.trans x3
            obtain ⟨hD3, nD3⟩ := dct_frm x3 nD hD2
            refine tT_ok sr' R3 (show evT G C C1 ec τ M2 = .ok q M4 from e4) fun H4 ι4 x4 R4 s4 => ?_
            obtain ⟨hD4, nD4⟩ := dct_frm x4 nD3 hD3
            cases q with
            | false =>
              rw [if_neg Bool.false_ne_true] at e2 ⊢
              exact ⟨rfl, hlt, ι4, M4, acc, hD4, nD4, R4, x13.trans x4, e2⟩
            | true =>
              rw [if_pos rfl] at e2 ⊢
              obtain ⟨y, M5, e5, e2⟩ := Out.bind_okE e2
              obtain ⟨z, M6, e6, e2⟩ := Out.bind_okE e2
              obtain ⟨zl, e2⟩ := Out.chk_okE e2
              rw [Bool.and_eq_true] at zl
              refine tE_ok s4 R4 e5 fun yv H5 ι5 x5 R5 wy s5 => ?_
              obtain ⟨hD5, nD5⟩ := dct_frm x5 nD4 hD4
              refine tE_ok s5 R5 e6 fun zv H6 ι6 x6 R6 wz s6 => ?_
              obtain ⟨hD6, nD6⟩ := dct_frm x6 nD5 hD5
              intro s0 H0 Cc cl fp pins s u r Q' E I7 ry rz fin
              obtain ⟨o6, es6, ep6, h61, h62⟩ := id hD6
              refine DctR.dictSet (X := X.blk s0 H0 scope (compEnvC scope cl Cc X.env) fp) I7 (k.blk s0 H0 scope _ fp).toXOk nD6 hD6 zl.1 (of_decide_eq_true zl.2) (wy.mono x6.le) ry wz rz fun s8 o' I8 D8 => fin s8 _ I8 ⟨rfl, hlt, ι6, M6, dput acc y z, D8, nD6, R6.side nD6 h61 (lkO_noI false D o6) (lkO_noT false D o6) (fun q => dctO_noC o6 D q ⟨es6, ep6, h62.2.1⟩), (((x13.trans x4).trans x5).trans x6).side hD, e2⟩
      · have ei : i = xs.length := by omega
        subst ei
        rw [List.drop_length] at e2
        simp only [dcGo] at e2
        obtain ⟨st, e2⟩ := Out.chk_okE e2
        cases e2
        refine .inl ⟨W.stop ι2 H2 M3 x2 R2 st, dl, ?_⟩
        obtain ⟨u1, u2, u3, u4⟩ := L.un x2 R2
        refine ⟨u4, ?_⟩
        have hD0 : Vac H D := by
          refine L.ext.dom D (Vac.of ?_)
          cases dl with
          | none => exact hD
          | some q =>
            have ne : D ≠ q.1 := fun z => by
              obtain ⟨l, kvs, _, _, _, hd, _⟩ := L.lk
              rw [← z, hD] at hd
              cases hd
            show upd H1 q.1 (DctO q.1 q.2) D = none
            rw [upd_ne ne]
            exact hD
        obtain ⟨o6, es6, ep6, h61, h62⟩ := id hD2
        have hDu : ulH dl H2 D = some (DctO D o6) := ul_ne u4 h61 fun o z => by cases z
        refine h (.ref D) _ (ι2 ++ [D]) (Ext.told hD0 u1 nD) (u2.tell nD ?_) (.ref (snoc_ix u2 D))
        exact (DctR.mono hD2 u3 (fun ho q => by rw [h61] at q; cases q; exact hDu)).mono (Le.grow ι2 [D] _) fun _ q => q
theorem e_dc (k : Bx X Z Wx G) {t : Tg} {kx vx : Expr} {ifs : List Expr} {scope : Scope} {own : List (Str × Nat)} (hi : PI X tg iter (tI X Z Wx (evI G C C1 it))) (ok : BlkOk X.N X.env.scope scope own) (ho : own.map (·.2) = t.slots)
    (hg : ∀ (s : Shared) (H : Hp) (Cc : Addr) (cl : List (Str × Addr)) (fp : List Addr), PG (X.blk s H scope (compEnvC scope cl Cc X.env) fp) tg (gT Z.K t))
    (ht : ∀ (s : Shared) (H : Hp) (Cc : Addr) (cl : List (Str × Addr)) (fp : List Addr), PTs (X.blk s H scope (compEnvC scope cl Cc X.env) fp) ifs (TTx Z Wf G C C1 ec))
    (hk : ∀ (s : Shared) (H : Hp) (Cc : Addr) (cl : List (Str × Addr)) (fp : List Addr), PE (X.blk s H scope (compEnvC scope cl Cc X.env) fp) kx (TEx Z Wf G C C1 ek))
    (he : ∀ (s : Shared) (H : Hp) (Cc : Addr) (cl : List (Str × Addr)) (fp : List Addr), PE (X.blk s H scope (compEnvC scope cl Cc X.env) fp) vx (TEx Z Wf G C C1 ev)) (hs : ∀ x, foldedSetIterable iter X.env x = pure x := by intro _; rfl) :
    PE X (.DictComp kx vx [⟨tg, iter, ifs, 0⟩] scope pos) (TEx Z Wx G C C1 (.dc ek ev t it ec)) := by
  refine (pe_unl (t := tDcW X scope (tI X Z Wx (evI G C C1 it)) (gT Z.K t) (TTx Z Wf G C C1 ec) (TEx Z Wf G C C1 ek) (TEx Z Wf G C C1 ev) (own.map (·.2))) ⟨fun pins s σ H Q I h => ?_⟩).weak fun σ H Q h => by rw [ho]; exact dc_read k h
  rw [arm_eval_DictComp]
  refine dcW_core k.calm k.nd I hi ok hg ht hk he hs h fun D C s' m H' I' q hn f => ⟨m, hn, fun h'' sb => ?_⟩
  obtain ⟨f0, f1, f2, f3, f4, f5⟩ := f
  exact ⟨.ref D, H', I'.turned (t' := s'.toks) (fun b o hb e => (sb.2 b hb).trans e) f0 f1 f3 f4 f5, rfl, q⟩
/-- name = {..} on one line -/
theorem s_setDc (k : Bx X Z Wx G) {t : Tg} {i : Nat} {y : Str} {py spos : Pos} {kx vx : Expr} {ifs : List Expr} {scope : Scope} {own : List (Str × Nat)} (hy : X.N[i]? = some y) (hyl : X.env.scope.names.lookup y = some .local)
    (hsw : swapsWith (.DictComp kx vx [⟨tg, iter, ifs, 0⟩] scope pos) (some (.Name y py)) spos.line X.env = pure true) (hi : PI X tg iter (tI X Z Wx (evI G C C1 it))) (ok : BlkOk X.N X.env.scope scope own) (ho : own.map (·.2) = t.slots)
    (hg : ∀ (s : Shared) (H : Hp) (Cc : Addr) (cl : List (Str × Addr)) (fp : List Addr), PG (X.blk s H scope (compEnvC scope cl Cc X.env) fp) tg (gT Z.K t))
    (ht : ∀ (s : Shared) (H : Hp) (Cc : Addr) (cl : List (Str × Addr)) (fp : List Addr), PTs (X.blk s H scope (compEnvC scope cl Cc X.env) fp) ifs (TTx Z Wf G C C1 ec))
    (hk : ∀ (s : Shared) (H : Hp) (Cc : Addr) (cl : List (Str × Addr)) (fp : List Addr), PE (X.blk s H scope (compEnvC scope cl Cc X.env) fp) kx (TEx Z Wf G C C1 ek))
    (he : ∀ (s : Shared) (H : Hp) (Cc : Addr) (cl : List (Str × Addr)) (fp : List Addr), PE (X.blk s H scope (compEnvC scope cl Cc X.env) fp) vx (TEx Z Wf G C C1 ev)) (hs : ∀ x, foldedSetIterable iter X.env x = pure x := by intro _; rfl) :
    PS X (.Assign [.Name y py] (.DictComp kx vx [⟨tg, iter, ifs, 0⟩] scope pos) spos) (tAsg (TEx Z Wx G C C1 (.dc ek ev t it ec)) (gName i)) := by
  refine ⟨fun pins s σ H D I h => ?_⟩
  have h : TEx Z Wx G C C1 (.dc ek ev t it ec) σ H fun x H1 => gName i x σ H1 D.nx := h
  have h2 := dc_read k (scope := scope) h
  rw [← ho] at h2
  rw [exec_Assign_Name_used _ _ _ _ hsw]
  refine wpAny_bind (wpAny_standAt (wpAny_bind ?_))
  show wpAny _ X.A (do let _ ← comprehension (.DictComp kx vx [⟨tg, iter, ifs, 0⟩] scope pos) scope X.env (firstIterPos [⟨tg, iter, ifs, 0⟩] pos) newDict false (eval iter X.env) (some (assign (.Name y py) X.env))) _ _ s
  refine wpAny_bind (thn (dcW_core (Qf := fun _ s' => SP X pins D .next s') k.calm k.nd I hi ok hg ht hk he hs h2 fun L Cc s' m H' I' q hn f => ?_) fun _ s' hq => wpAny_pure (wpAny_pure hq))
  obtain ⟨dl, uo, q⟩ := q
  show wpAny _ _ (assign (.Name y py) X.env (.ref L)) _ _ _
  refine wpAny_assign_Name (store_ok2 (v := V.ref L) I' k.nd hy (.inl hyl) rfl (fun s2 I2 ⟨a, sb, ha⟩ => ?_) (.inr hyl))
  obtain ⟨f0, f1, f2, f3, f4, f5⟩ := f
  have haC : Cc ≠ a := by
    rcases ha with z | z
    · rw [z]; exact f1
    · exact fun e => f4 y a z e.symm
  refine ⟨m, hn.sameBut sb haC, fun h3 sb3 => ?_⟩
  exact ⟨_, _, inv_ul (I2.turned (t' := s2.toks) (fun b o hb e => (sb3.2 b hb).trans e) f0 f1 f3 f4 f5) uo, q⟩
end
end MP
end
section
set_option Elab.async false
set_option linter.all false
set_option maxRecDepth 100000
/-! MP17: statements. -/
namespace MP
open PySem PySem.Spec PyProof.Rows L2
abbrev TSx (Z : Zt) (Wx : Wish) (G : Pg) (C C1 : Nat → List Wv → Mem → Out Wv) (n : Nat) (s : MP.St) : TS := tS Z Wx (evS G C C1 n s)
abbrev TSl (Z : Zt) (Wx : Wish) (G : Pg) (C C1 : Nat → List Wv → Mem → Out Wv) (n : Nat) (s : Sl) : TS := tS Z Wx (evSl G C C1 n s)
section
variable {X : Cx} {Z : Zt} {Wx : Wish} {G : Pg} {C C1 : Nat → List Wv → Mem → Out Wv} {fu : Nat} {a b c e tg iter elt : Expr} {es : List Expr} {ea eb ec ee : Ex} {el : El} {it : MP.It} {pos p p2 p3 apos : Pos} {st : Stmt} {rest : List Stmt} {ss : MP.St} {sl sl2 : Sl}
variable {pins : List (Addr × Obj)} {σ : L2.St} {H H1 H2 : Hp} {s : Shared} {ι ι1 ι2 : List Addr} {M : Mem} {sw : Sw}
theorem sOut.ofOb {α : Type} {o : Option α} {g : α → Mem → Out (Fl × Sw)} {D : Ends} (h : sOut Z Wx ι H ((Out.ofO o M).bind g) D) : ∃ w, o = some w ∧ sOut Z Wx ι H (g w M) D := by
  cases o with
  | some w => exact ⟨w, rfl, h⟩
  | none => exact False.elim h
theorem sOut.nx {D : Ends} (h : sOut Z Wx ι H (.ok (.nx, sw) M) D) (R : RM Z ι M H) (q : SR Z ι H sw σ) : D.nx σ H := h σ H ι (Ext.refl _ _) R q
theorem ss_nil : PSs X [] (TSl Z Wx G C C1 fu .nil) := by
  refine ⟨fun pins s σ H D I ⟨ι, sw, M, sr, R, h⟩ => pss_nil.run pins s σ H D I ?_⟩
  simp only [evSl] at h
  exact h.nx R sr
theorem ss_cons (h1 : PS X st (TSx Z Wx G C C1 fu ss)) (h2 : PSs X rest (TSl Z Wx G C C1 fu sl)) : PSs X (st :: rest) (TSl Z Wx G C C1 fu (.cons ss sl)) := by
  refine (pss_cons h1 h2).weak fun D σ H ⟨ι, sw, M, sr, R, h⟩ => ⟨ι, sw, M, sr, R, ?_⟩
  simp only [evSl] at h
  cases e : evS G C C1 fu ss sw M with
  | bad => rw [e] at h; exact h
  | exc c M1 => rw [e] at h; exact h
  | ok q M1 =>
    obtain ⟨f, sw1⟩ := q
    rw [e] at h
    intro σ' H' ι' x R1 s1
    cases f with
    | nx => exact ⟨ι', sw1, M1, s1, R1, sOut.shift x h⟩
    | brk => exact h σ' H' ι' x R1 s1
    | ct => exact h σ' H' ι' x R1 s1
    | ret w => exact h σ' H' ι' x R1 s1
theorem s_asg (k : Bx X Z Wx G) {t : Tg} (he : PE X e (TEx Z Wx G C C1 ee)) (hg : PG X tg (gT Z.K t)) (hs : swapsWithSole [tg] e pos.line X.env = pure false := by rfl) (hw : swappedStores [tg] e X.env = pure none := by rfl)
    (h1 : (assignEach [tg] X.env).map (·.2) = [assign tg X.env] := by rfl) : PS X (.Assign [tg] e pos) (TSx Z Wx G C C1 fu (.asg t ee)) := by
  refine (ps_asg he hg hs hw h1).weak fun D σ H ⟨ι, sw, M, sr, R, h⟩ => ?_
  simp only [evS] at h
  refine tE.seqS sr R h fun x M1 v H1 ι1 e1 R1 q1 s1 h1 => ?_
  obtain ⟨τ, et, h1⟩ := h1.ofOb
  exact tgW_rel s1 q1 et fun σ' sr' _ => h1.nx R1 sr'
/-- from a reading of name = value -/
theorem s_set {i : Nat} (h : PS X st (tAsg (TEx Z Wx G C C1 ee) (gName i))) : PS X st (TSx Z Wx G C C1 fu (.asg (.nm i) ee)) := by
  refine h.weak fun D σ H ⟨ι, sw, M, sr, R, h⟩ => ?_
  simp only [evS] at h
  refine tE.seqS sr R h fun x M1 v H1 ι1 e1 R1 q1 s1 h1 => ?_
  obtain ⟨τ, et, h1⟩ := h1.ofOb
  simp only [tgW] at et
  cases et
  exact h1.nx R1 (s1.set q1 i)
/-- a, b = x, y -/
theorem s_par (k : Bx X Z Wx G) (i j : Nat) {x y : Str} {px py pt pt2 : Pos} {kt k2 : Nat} (ha : PA X [a, b] (TAx Z Wx G C C1 el)) (hi : stoB X.N X.env.scope X.fn i x = true := by kernel_rfl) (hj : stoB X.N X.env.scope X.fn j y = true := by kernel_rfl) (hij : i ≠ j := by decide)
    (hx : X.env.scope.names.lookup x = some .local := by rfl) (hy : X.env.scope.names.lookup y = some .local := by rfl)
    (hw : swappedStores [.Tuple [.Name x px, .Name y py] kt pt] (.Tuple [a, b] k2 pt2) X.env = pure (some [x, y]) := by rfl)
    (hs : swapsWithSole [.Tuple [.Name x px, .Name y py] kt pt] (.Tuple [a, b] k2 pt2) pos.line X.env = pure false := by rfl) :
    PS X (.Assign [.Tuple [.Name x px, .Name y py] kt pt] (.Tuple [a, b] k2 pt2) pos) (TSx Z Wx G C C1 fu (.asg (.tup [i, j]) (.tup el))) := by
  obtain ⟨h1, _⟩ := stoB_ok hi
  obtain ⟨h2, _⟩ := stoB_ok hj
  refine (ps_par k.calm k.nd h1 h2 hij hx hy ha hw hs).weak fun D σ H ⟨ι, sw, M, sr, R, h⟩ => ⟨ι, sw, M, sr, R, ?_⟩
  simp only [evS, evE] at h
  cases e : evL G C C1 el sw M with
  | bad => rw [e] at h; exact h
  | exc c M1 => rw [e] at h; exact fun H' ι' x R => h σ H' ι' x R
  | ok ws M1 =>
    rw [e] at h
    simp only [Out.bind_ok] at h
    intro vs H' ι' x1 R1 wr
    cases hl : lenOk ws.length with
    | false => rw [hl] at h; exact False.elim h
    | true =>
      rw [hl] at h
      have h : sOut Z Wx ι H ((Out.ofO (tgW (.tup [i, j]) (.tup ws) sw) M1).bind fun σ M => .ok (.nx, σ) M) D := h
      obtain ⟨τ, et, h⟩ := h.ofOb
      cases wr with
      | nil => simp [tgW, setAll] at et
      | cons w1 t1 =>
        cases t1 with
        | nil => simp [tgW, setAll] at et
        | cons w2 t2 =>
          cases t2 with
          | cons _ _ => simp [tgW, setAll] at et
          | nil =>
            simp only [tgW, setAll] at et
            cases et
            exact ⟨_, _, rfl, h _ H' ι' x1 R1 (((sr.mono x1.le).set w1 i).set w2 j)⟩
theorem ins_write {l c : Nat} {a dx : Addr} {fs : List (Str × Wv)} {vs : List (Str × V)} {f : Str} {w : Wv} {v : V} (R : RM Z ι M H) (hM : M[l]? = some (.ins c fs)) (hl : ι[l]? = some a) (h1 : H a = some (.ins (Z.cls c) dx vs)) (h2 : FsR Z ι H fs vs) (hw : WR Z ι H w v) :
    Ext ι ι H (upd H a (.ins (Z.cls c) dx (L2.putF f v vs))) ∧ RM Z ι (M.set l (.ins c (MP.putF f w fs))) (upd H a (.ins (Z.cls c) dx (L2.putF f v vs))) := by
  have ex : Ext ι ι H (upd H a (.ins (Z.cls c) dx (L2.putF f v vs))) := Ext.write R hl (fun ob φ e => by rw [h1] at e; cases e)
  exact ⟨ex, R.write hM hl h1 (fun ps z => by cases z) (fun q z => by cases z) ⟨dx, _, upd_same, (h2.put hw).mono ex.le⟩⟩
theorem setA_at {o : Wv} {ov : V} {f : Str} {w : Wv} {v : V} {D : Ends} (R : RM Z ι M H) (ho : WR Z ι H o ov) (hw : WR Z ι H w v) (sr : SR Z ι H sw σ) (h : sOut Z Wx ι H ((setA G o f w M).bind fun _ M => .ok (.nx, sw) M) D) :
    ∃ l c fs a dx vs, o = .ref l ∧ ov = .ref a ∧ M[l]? = some (.ins c fs) ∧ ι[l]? = some a ∧ (G.cls c).isSome = true ∧ H a = some (.ins (Z.cls c) dx vs) ∧ FsR Z ι H fs vs ∧ vs.length < 1000 ∧ D.nx σ (upd H a (.ins (Z.cls c) dx (L2.putF f v vs))) := by
  cases ho with
  | ref hl =>
    rename_i l a
    unfold setA at h
    simp only at h
    split at h
    · rename_i c fs hM
      cases hc : ((G.cls c).isSome && decide (fs.length < 1000)) with
      | false => rw [hc] at h; exact False.elim h
      | true =>
        rw [hc] at h
        rw [Bool.and_eq_true] at hc
        obtain ⟨dx, vs, h1, h2⟩ := R.ob _ _ _ hM hl
        have h : sOut Z Wx ι H (.ok (.nx, sw) (M.set l (.ins c (MP.putF f w fs)))) D := h
        obtain ⟨ex, R2⟩ := ins_write (f := f) R hM hl h1 h2 hw
        refine ⟨l, c, fs, a, dx, vs, rfl, rfl, hM, hl, hc.1, h1, h2, ?_, h _ _ ι ex R2 (sr.mono ex.le)⟩
        have := of_decide_eq_true hc.2
        rw [← Paired.length h2]
        exact this
    · exact False.elim h
  | _ => exact False.elim h
theorem s_asgA (k : Bx X Z Wx G) {f : Str} {pos' : Pos} (hf : AtOk Z G f) (ha : PE X a (TEx Z Wx G C C1 ea)) (hv : PE X e (TEx Z Wx G C C1 ee)) (hs : swapsWith e (some (.Attribute a f pos')) pos.line X.env = pure false := by rfl) :
    PS X (.Assign [.Attribute a f pos'] e pos) (TSx Z Wx G C C1 fu (.asgA ea f ee)) := by
  refine (ps_fld ha hv hs).weak fun D σ H ⟨ι, sw, M, sr, R, h⟩ => ?_
  simp only [evS] at h
  refine tE.seqS sr R h fun x M1 v H1 ι1 e1 R1 q1 s1 h1 => tE.seqS s1 R1 h1 fun y M2 u H2 ι2 e2 R2 q2 s2 h2 => ?_
  obtain ⟨l, c, fs, aa, dx, vs, rfl, rfl, hM, hl, hc, g1, g2, g3, g4⟩ := setA_at R2 q2 (q1.mono e2.le) s2 h2
  obtain ⟨kk, hk⟩ := Option.isSome_iff_exists.mp hc
  obtain ⟨c1, c2⟩ := hf c kk hk
  rw [← k.K] at c1 c2
  exact ⟨aa, Z.cls c, dx, vs, rfl, g1, c1, c2, g3, g4⟩
/-- o[i] = v -/
theorem set_ok (k : XOk X Z) : PSet X (fun o i v H Q => ∃ ι M wo wi wv, RM Z ι M H ∧ WR Z ι H wo o ∧ WR Z ι H wi i ∧ WR Z ι H wv v ∧ ∃ M', setW wo wi wv M = .ok () M' ∧ ∀ H', Ext ι ι H H' → RM Z ι M' H' → Q H') := by
  intro pins s σ H o i v ov iv u Q I ro ri rv ⟨ι, M, wo, wi, wv, R, h1, h2, h3, M', e, q⟩
  cases h1 with
  | ref hl =>
    rename_i l a
    cases ro
    simp only [setW] at e
    split at e
    · rename_i ws hM
      obtain ⟨vs, g1, g2⟩ := R.ob _ _ _ hM hl
      split at e
      · rename_i j
        cases h2
        have hlen := g2.length
        have fin : ∀ n : Nat, L2.ixN vs.length j = some n → M' = M.set l (.lst (ws.set n wv)) → wpAny (model X.prog X.w) X.A (setItem (.ref a) iv u) (fun _ s' => ∃ H', L2.Inv X pins σ H' s' ∧ Q H') X.xe s := fun n hn eM => by
          subst eM
          obtain ⟨ex, R2⟩ := lst_write R hM hl g1 (g2.set h3 n)
          exact set_list pins s σ H (.ref a) _ v (.ref a) iv u Q I (show RelV (.ref a) (.ref a) from rfl) ri rv ⟨a, vs, j, n, rfl, rfl, g1, hn, q _ ex R2⟩
        by_cases h0 : 0 ≤ j
        · rw [if_pos h0] at e
          split at e
          · rename_i hlt
            cases e
            refine fin j.toNat ?_ rfl
            unfold L2.ixN
            rw [if_pos h0, if_pos (by omega)]
          · cases e
        · rw [if_neg h0] at e
          split at e
          · rename_i hge
            cases e
            refine fin (j + ws.length).toNat ?_ rfl
            unfold L2.ixN
            rw [if_neg h0, if_pos (by rw [← hlen]; exact hge), hlen]
          · cases e
      · cases e
    · rename_i kvs hM
      obtain ⟨c, e⟩ := Out.chk_okE e
      rw [Bool.and_eq_true] at c
      cases e
      have D := R.ob _ _ _ hM hl
      refine DctR.setItem I k R hl D c.1 (of_decide_eq_true c.2) h2 ri h3 rv fun s' o' I' D' ex => ⟨_, I', q _ ex ?_⟩
      obtain ⟨o, es, ep, g1, g2, g3, _⟩ := id D
      exact R.write hM hl g1 (lkO_noT false a o) (fun q => dctO_noC o a q ⟨es, ep, g3⟩) D'
    · cases e
  | _ => cases e
theorem s_asgS (k : Bx X Z Wx G) {ps : Pos} (ho : PE X a (TEx Z Wx G C C1 ea)) (hi : PE X b (TEx Z Wx G C C1 eb)) (hv : PE X e (TEx Z Wx G C C1 ee))
    (ha : ∀ v, assign (.Subscript a b ps) X.env v = (do
      let ov ← holding [v] (eval a X.env)
      let iv ← holding [v, ov] (eval b X.env)
      standAt ps
      holding [v, ov, iv] (setItem ov iv v)
      release [v, ov, iv] []) := by intro _; rfl) (hs : swapsWithSole [.Subscript a b ps] e pos.line X.env = pure false := by rfl) (hw : swappedStores [.Subscript a b ps] e X.env = pure none := by rfl)
    (h1 : (assignEach [.Subscript a b ps] X.env).map (·.2) = [assign (.Subscript a b ps) X.env] := by rfl) : PS X (.Assign [.Subscript a b ps] e pos) (TSx Z Wx G C C1 fu (.asgS ea eb ee)) := by
  refine (ps_asg hv (pg_sub ho hi (set_ok k.toXOk) ha) hs hw h1).weak fun D σ H ⟨ι, sw, M, sr, R, h⟩ => ?_
  simp only [evS] at h
  refine tE.seqS sr R h fun x M1 v H1 ι1 e1 R1 q1 s1 h1 => tE.seqS s1 R1 h1 fun y M2 u H2 ι2 e2 R2 q2 s2 h2 => tE.seqS s2 R2 h2 fun z M3 t H3 ι3 e3 R3 q3 s3 h3 => ?_
  cases e : setW y z x M3 with
  | bad => rw [e] at h3; exact False.elim h3
  | exc c M4 =>
    exfalso
    unfold setW at e
    split at e
    · split at e
      · split at e
        · split at e
          · split at e <;> cases e
          · split at e <;> cases e
        · cases e
      · rename_i kvs _
        cases hc : (keyOk kvs z && lenOk (kvs.length + 1)) <;> rw [hc] at e <;> cases e
      · cases e
    · cases e
  | ok q M4 =>
    rw [e] at h3
    exact ⟨ι3, M3, y, z, x, R3, q2.mono e3.le, q3, (q1.mono e2.le).mono e3.le, M4, e, fun H' ex R4 => h3 σ H' ι3 ex R4 (s3.mono ex.le)⟩
/-! ### augmented -/
def augOf : Op → Bool
  | .add => true
  | .sub => true
  | _ => false
theorem ip_aug (o : Op) (ho : augOf o = true) : PIp X (opOf o) (r2 Z (augW o)) := by
  intro pins s σ H x y v u Q I rx ry ⟨ι, M, wa, wb, R, ha, hb, h⟩
  cases o <;> first | cases ho | skip
  · cases ha with
    | int i =>
      cases hb with
      | int j => exact ip_add pins s σ H _ _ v u Q I rx ry ⟨i, j, rfl, rfl, rOut.val h R (.int _)⟩
      | _ => exact False.elim h
    | _ => exact False.elim h
  · cases ha with
    | int i =>
      cases hb with
      | int j => exact ip_sub pins s σ H _ _ v u Q I rx ry ⟨i, j, rfl, rfl, rOut.val h R (.int _)⟩
      | _ => exact False.elim h
    | _ => exact False.elim h
theorem prim_aug (o : Op) (x y : Wv) (M : Mem) : Prim (augW o x y M) := by
  unfold augW
  split <;> first | exact Prim.ok | exact Prim.bad
theorem s_aug (k : Bx X Z Wx G) (i : Nat) (o : Op) {x : Str} {pos' : Pos} (he : PE X e (TEx Z Wx G C C1 ee)) (ho : augOf o = true := by rfl) (hi : stoB X.N X.env.scope X.fn i x = true := by kernel_rfl) : PS X (.AugAssign (.Name x pos') (opOf o) e pos) (TSx Z Wx G C C1 fu (.aug i o ee)) := by
  obtain ⟨h1, h2, h3⟩ := stoB_ok hi
  refine (ps_aug k.nd h1 h2 he (ip_aug (Z := Z) o ho) h3).weak fun D σ H ⟨ι, sw, M, sr, R, h⟩ => ?_
  simp only [evS] at h
  obtain ⟨x, ex, h⟩ := h.ofOb
  unfold getV at ex
  cases q : sw[i]? with
  | none => rw [q] at ex; cases ex
  | some y =>
    rw [q] at ex
    cases y with
    | none => cases ex
    | some w =>
      cases ex
      obtain ⟨v, g1, g2⟩ := sr.get i x q
      refine ⟨v, g1, tE.seqS sr R h fun y M1 u H1 ι1 e1 R1 q1 s1 h1 => ⟨ι1, M1, x, y, R1, g2.mono e1.le, q1, ?_⟩⟩
      cases e : augW o x y M1 with
      | bad => rw [e] at h1; exact h1
      | exc c M2 => exact absurd e (prim_aug o x y M1 c M2)
      | ok z M2 =>
        rw [e] at h1
        exact fun zv H2 ι2 e2 R2 q2 => sOut.nx (sOut.shift e2 h1) R2 ((s1.mono e2.le).set q2 i)
theorem s_augA (k : Bx X Z Wx G) {f : Str} (o : Op) {tpos : Pos} (hf : AtOk Z G f) (ha : PE X a (TEx Z Wx G C C1 ea)) (he : PE X e (TEx Z Wx G C C1 ee)) (ho : augOf o = true := by rfl) : PS X (.AugAssign (.Attribute a f tpos) (opOf o) e pos) (TSx Z Wx G C C1 fu (.augA ea f o ee)) := by
  refine (ps_fldaug ha he (ip_aug (Z := Z) o ho)).weak fun D σ H ⟨ι, sw, M, sr, R, h⟩ => ?_
  simp only [evS] at h
  refine tE.seqS sr R h fun y M1 v H1 ι1 e1 R1 q1 s1 h1 => ?_
  cases e2 : attrW G y f M1 with
  | bad => rw [e2] at h1; exact False.elim h1
  | exc c M2 => exact absurd e2 (prim_attr y f M1 c M2)
  | ok x M2 =>
    rw [e2] at h1
    obtain ⟨rfl, l, c, fs, aa, dx, vs, u, rfl, rfl, hM, hl, hc, h3, h4, h5, h6⟩ := attr_at R1 q1 e2
    obtain ⟨kk, hk⟩ := Option.isSome_iff_exists.mp hc
    obtain ⟨g1, g2⟩ := hf c kk hk
    rw [← k.K] at g1 g2
    refine ⟨aa, Z.cls c, dx, vs, u, rfl, h3, g1, g2, h5, tE.seqS s1 R1 h1 fun z M3 zv H3 ι3 e3 R3 q3 s3 h7 => ⟨ι3, M3, x, z, R3, h6.mono e3.le, q3, ?_⟩⟩
    cases e4 : augW o x z M3 with
    | bad => rw [e4] at h7; exact h7
    | exc c M4 => exact absurd e4 (prim_aug o x z M3 c M4)
    | ok r M4 =>
      rw [e4] at h7
      simp only [Out.bind_ok] at h7
      cases hq : decide (clsAt (.ref l) M4 = clsAt (.ref l) M2) with
      | false => rw [hq] at h7; exact False.elim h7
      | true =>
        rw [hq] at h7
        have h7 : sOut Z Wx ι3 H3 ((setA G (.ref l) f r M4).bind fun _ M => .ok (.nx, sw) M) D := h7
        have hq := of_decide_eq_true hq
        intro rv H5 ι5 e5 R5 q5
        obtain ⟨l', c', fs', a', dx', vs', el, ea', hM', hl', hc', h1', h2', h3', h4'⟩ := setA_at R5 ((q1.mono e3.le).mono e5.le) q5 (s3.mono e5.le) (sOut.shift e5 h7)
        cases el
        cases ea'
        have hcls : c' = c := by
          simp only [clsAt, hM, hM'] at hq
          exact Option.some.inj hq
        subst hcls
        exact ⟨dx', vs', h1', h3', h4'⟩
/-! ### plain statements -/
theorem s_ex (he : PE X e (TEx Z Wx G C C1 ee)) (hs : swapsWith e none pos.line X.env = pure false := by rfl) : PS X (.Expr e pos) (TSx Z Wx G C C1 fu (.ex ee)) :=
  (ps_expr he hs).weak fun D σ H ⟨ι, sw, M, sr, R, h⟩ => by
    simp only [evS] at h
    exact tE.seqS sr R h fun x M1 v H1 ι1 e1 R1 q1 s1 h1 => h1.nx R1 s1
theorem s_ret (he : PE X e (TEx Z Wx G C C1 ee)) : PS X (.Return (some e) pos) (TSx Z Wx G C C1 fu (.ret ee)) :=
  (ps_ret he).weak fun D σ H ⟨ι, sw, M, sr, R, h⟩ => by
    simp only [evS] at h
    exact tE.seqS sr R h fun x M1 v H1 ι1 e1 R1 q1 s1 h1 => h1 σ H1 ι1 (Ext.refl _ _) R1 s1 v q1
theorem s_retN : PS X (.Return none pos) (TSx Z Wx G C C1 fu .retN) :=
  ps_retN.weak fun D σ H ⟨ι, sw, M, sr, R, h⟩ => by
    simp only [evS] at h
    exact h σ H ι (Ext.refl _ _) R sr .non .non
theorem s_pass : PS X (.Pass pos) (TSx Z Wx G C C1 fu .pass) :=
  ps_pass.weak fun D σ H ⟨ι, sw, M, sr, R, h⟩ => by
    simp only [evS] at h
    exact h.nx R sr
theorem s_brk : PS X (.Break pos) (TSx Z Wx G C C1 fu .brk) :=
  ps_break.weak fun D σ H ⟨ι, sw, M, sr, R, h⟩ => by
    simp only [evS] at h
    exact h σ H ι (Ext.refl _ _) R sr
theorem s_cont : PS X (.Continue pos) (TSx Z Wx G C C1 fu .cont) :=
  ps_continue.weak fun D σ H ⟨ι, sw, M, sr, R, h⟩ => by
    simp only [evS] at h
    exact h σ H ι (Ext.refl _ _) R sr
theorem evT_bind {β : Type} (g : Bool → Mem → Out β) : ((evE G C C1 ec sw M).bind fun x M => (Out.ofO (truW G x M) M).bind g) = (evT G C C1 ec sw M).bind g := by
  unfold evT
  rw [Out.bind_assoc]
theorem s_if {th el : List Stmt} (hc : PT X c (TTx Z Wx G C C1 ec)) (ha : PSs X th (TSl Z Wx G C C1 fu sl)) (hb : PSs X el (TSl Z Wx G C C1 fu sl2)) : PS X (.If c th el pos) (TSx Z Wx G C C1 fu (.ifs ec sl sl2)) :=
  (ps_if hc ha hb).weak fun D σ H ⟨ι, sw, M, sr, R, h⟩ => by
    simp only [evS] at h
    rw [evT_bind] at h
    refine tT.seqS sr R h fun q M1 H1 ι1 e1 R1 s1 h1 => ?_
    cases q with
    | true => exact ⟨ι1, sw, M1, s1, R1, h1⟩
    | false => exact ⟨ι1, sw, M1, s1, R1, h1⟩
theorem s_whl (po : PassesOwn (model X.prog X.w) X.A X.env X.xe) {body : List Stmt} (hc : PT X c (TTx Z Wx G C C1 ec)) (hb : PSs X body (TSl Z Wx G C C1 fu sl)) : PS X (.While c body [] pos) (TSx Z Wx G C C1 fu (.whl ec sl)) :=
  (ps_while po hc hb).weak fun D σ H ⟨ι, sw, M, sr, R, h⟩ => by
    simp only [evS] at h
    refine ⟨fun m σ2 H2 => ∃ ι2 sw2 M2, SR Z ι2 H2 sw2 σ2 ∧ RM Z ι2 M2 H2 ∧ sOut Z Wx ι2 H2 (whlGo G (evE G C C1 ec) (evSl G C C1 fu sl) m sw2 M2) D, ⟨fu, ι, sw, M, sr, R, h⟩, ?_⟩
    rintro m σ2 H2 ⟨ι2, sw2, M2, s2, R2, h2⟩
    cases m with
    | zero => exact False.elim h2
    | succ m =>
      simp only [whlGo] at h2
      rw [evT_bind] at h2
      refine tT.seqS s2 R2 h2 fun q M3 H3 ι3 e3 R3 s3 h3 => ?_
      cases q with
      | false =>
        rw [if_neg Bool.false_ne_true] at h3 ⊢
        exact h3.nx R3 s3
      | true =>
        rw [if_pos rfl] at h3 ⊢
        refine ⟨fun σ' H' => ∃ ι2 sw2 M2, SR Z ι2 H' sw2 σ' ∧ RM Z ι2 M2 H' ∧ sOut Z Wx ι2 H' (whlGo G (evE G C C1 ec) (evSl G C C1 fu sl) m sw2 M2) D, fun σ' H' q => ⟨m, Nat.lt_succ_self _, q⟩, ι3, sw2, M3, s3, R3, ?_⟩
        cases e : evSl G C C1 fu sl sw2 M3 with
        | bad => rw [e] at h3; exact h3
        | exc c M4 => rw [e] at h3; exact h3
        | ok q M4 =>
          obtain ⟨f, sw4⟩ := q
          rw [e] at h3
          intro σ' H' ι' x R4 s4
          cases f with
          | nx => exact ⟨ι', sw4, M4, s4, R4, sOut.shift x h3⟩
          | ct => exact ⟨ι', sw4, M4, s4, R4, sOut.shift x h3⟩
          | brk => exact h3 σ' H' ι' x R4 s4
          | ret w => exact h3 σ' H' ι' x R4 s4
theorem s_for (k : Bx X Z Wx G) (po : PassesOwn (model X.prog X.w) X.A X.env X.xe) {t : Tg} {body : List Stmt} (hi : PI X tg iter (tI X Z Wx (evI G C C1 it))) (hg : PG X tg (gT Z.K t)) (hb : PSs X body (TSl Z (lkW X Wx) G C C1 fu sl))
    (hs : ∀ x, foldedSetIterable iter X.env x = pure x := by intro _; rfl) : PS X (.For tg iter body [] pos) (TSx Z Wx G C C1 fu (.for_ t it sl)) := by
  have h0 := ps_for (pos := pos) po k.calm hi hg hb hs
  refine ⟨fun pins s σ H D I ⟨ι, sw, M, sr, R, h⟩ => ?_⟩
  simp only [evS] at h
  refine thn (h0.run pins s σ H ⟨fun σ' H' => ∃ dl, UlOk X dl H' ∧ D.nx σ' (ulH dl H'), fun v H' => ∃ dl, UlOk X dl H' ∧ D.rt v (ulH dl H'), fun _ _ => False, fun _ _ => False⟩ I ⟨ι, sw, M, sr, R, ?_⟩) fun f s1 q => ?_
  · cases e : evI G C C1 it sw M with
    | bad => rw [e] at h; exact h
    | exc c M1 => rw [e] at h; exact fun H' ι' x R => h σ H' ι' x R
    | ok r M1 =>
      obtain ⟨xs, ps⟩ := r
      rw [e] at h
      intro J H1 ι1 dl L W
      simp only [Out.bind_ok] at h
      generalize hres : forGo t (evSl G C C1 fu sl) ps xs sw (lockM ps M1) = res at h
      have nb : res ≠ .bad := fun z => by rw [z] at h; exact h
      refine ⟨fun i m σ2 H2 => m = xs.length - i ∧ i ≤ xs.length ∧ ∃ ι2 sw2 M2, SR Z ι2 H2 sw2 σ2 ∧ RM Z ι2 M2 H2 ∧ Ext ι1 ι2 H1 H2 ∧ forGo t (evSl G C C1 fu sl) ps (xs.drop i) sw2 M2 = res,
        ⟨xs.length, by simp, Nat.zero_le _, ι1, sw, lockM ps M1, sr.mono L.le, L.rm, Ext.refl _ _, by simpa using hres⟩, ?_⟩
      rintro i m σ2 H2 ⟨rfl, hi2, ι2, sw2, M2, s2, R2, x2, e2⟩
      by_cases hlt : i < xs.length
      · refine .inr ?_
        rw [List.drop_eq_getElem_cons hlt] at e2
        simp only [forGo] at e2
        cases st : stays ps M2 with
        | false => rw [st] at e2; exact absurd e2.symm nb
        | true =>
          rw [st] at e2
          simp only [Out.chk] at e2
          refine ⟨W.go i ι2 H2 M2 x2 R2 st hlt, fun σ' H' => xs.length - (i + 1) = xs.length - (i + 1) ∧ i + 1 ≤ xs.length ∧ ∃ ι2 sw2 M2, SR Z ι2 H' sw2 σ' ∧ RM Z ι2 M2 H' ∧ Ext ι1 ι2 H1 H' ∧ forGo t (evSl G C C1 fu sl) ps (xs.drop (i + 1)) sw2 M2 = res,
            fun σ' H' q => ⟨xs.length - (i + 1), by omega, q⟩, fun v H' y => ?_⟩
          obtain ⟨w, hw, x3, R3, wr⟩ := W.yld i ι2 H2 M2 v H' x2 R2 st hlt y
          have ew : xs[i] = w := by rw [List.getElem?_eq_getElem hlt] at hw; exact Option.some.inj hw
          rw [ew] at e2
          cases et : tgW t w sw2 with
          | none => rw [et] at e2; exact absurd e2.symm nb
          | some τ =>
            rw [et] at e2
            simp only at e2
            refine tgW_rel (s2.mono x3.le) wr et fun σ' sr' wp => ⟨ι2, τ, M2, sr', R3, ?_⟩
            have x13 := x2.trans x3
            cases e5 : evSl G C C1 fu sl τ M2 with
            | bad => rw [e5] at e2; exact absurd e2.symm nb
            | exc c M4 =>
              rw [e5] at e2
              have e2 : res = .exc c M4 := e2.symm
              rw [e2] at h
              intro σ4 H4 ι4 x4 R4
              obtain ⟨u1, u2, u3, u4⟩ := L.un (x13.trans x4) R4
              exact ⟨dl, u4, h σ4 _ ι4 u1 u2⟩
            | ok q M4 =>
              obtain ⟨f, sw4⟩ := q
              rw [e5] at e2
              intro σ4 H4 ι4 x4 R4 s4
              have x14 := x13.trans x4
              cases f with
              | nx => exact ⟨rfl, hlt, ι4, sw4, M4, s4, R4, x14, e2⟩
              | ct => exact ⟨rfl, hlt, ι4, sw4, M4, s4, R4, x14, e2⟩
              | brk =>
                have e2 : res = .ok (.nx, sw4) M4 := e2.symm
                rw [e2] at h
                obtain ⟨u1, u2, u3, u4⟩ := L.un x14 R4
                exact ⟨dl, u4, h σ4 _ ι4 u1 u2 (s4.mono u3)⟩
              | ret w =>
                have e2 : res = .ok (.ret w, sw4) M4 := e2.symm
                rw [e2] at h
                obtain ⟨u1, u2, u3, u4⟩ := L.un x14 R4
                exact fun v hv => ⟨dl, u4, h σ4 _ ι4 u1 u2 (s4.mono u3) v (hv.mono u3)⟩
      · have ei : i = xs.length := by omega
        subst ei
        rw [List.drop_length] at e2
        simp only [forGo] at e2
        cases st : stays ps M2 with
        | false => rw [st] at e2; exact absurd e2.symm nb
        | true =>
          rw [st] at e2
          have e2 : res = .ok (.nx, sw2) M2 := e2.symm
          rw [e2] at h
          obtain ⟨u1, u2, u3, u4⟩ := L.un x2 R2
          exact .inl ⟨W.stop ι2 H2 M2 x2 R2 st, dl, u4, h σ2 _ ι2 u1 u2 (s2.mono u3)⟩
  · cases f with
    | next => obtain ⟨σ', H', I2, dl, uo, q⟩ := q; exact ⟨σ', _, inv_ul I2 uo, q⟩
    | brk => obtain ⟨σ', H', I2, q⟩ := q; exact False.elim q
    | cont => obtain ⟨σ', H', I2, q⟩ := q; exact False.elim q
    | ret v => obtain ⟨x, σ', H', I2, r, dl, uo, q⟩ := q; exact ⟨x, σ', _, inv_ul I2 uo, r, q⟩
/-- an own class of errors -/
structure ExOk (K : PySem.W.Frag) (mg : Str → Option Value) (x : Str) (C : Addr) : Prop where
  mg : mg x = some (.ref C)
  ex : PySem.W.excIn K C [.type "ValueError", .type "Exception", .type "BaseException", .type "object"] "ValueError.__new__" = true
  kp : PySem.W.keepIn K (.ref C) = true
  sub : PySem.W.subIn K (.ref C) (.type "BaseException") = some true
  ty : PySem.W.typeIn K (.ref C) = some (.type "type")
theorem s_raise (k : Bx X Z Wx G) (cc : Nat) {x m : Str} {j : Nat} (E : ExOk X.K X.mg x (Z.exc cc)) (hg : gloB X.env x = true := by kernel_rfl) : PS X (.Raise (some (.Call (.Name x p) [.Constant (.str m) j p2] [] p3)) none pos) (TSx Z Wx G C C1 fu (.raise cc)) := by
  obtain ⟨h1, h2, h3⟩ := gloB_ok hg
  refine (ps_raise k.calm k.tk (pmk_own PySem.F.excBase_ValueError E.ex E.mg E.kp (raises_own E.sub E.ty) h1 h2)).weak fun D σ H ⟨ι, sw, M, sr, R, h⟩ => ?_
  simp only [evS] at h
  exact ⟨rfl, cc, rfl, h σ H ι (Ext.refl _ _) R⟩
end
end MP
end
section
set_option Elab.async false
set_option linter.all false
set_option maxRecDepth 100000
/-! MP18: sorted(xs, key=lambda x: ..), the key reckoned by data. -/
namespace MP
open PySem PySem.Spec PyProof.Rows L2
mutual
theorem noL_nil {h : Heap} : ∀ {d : PyData} {u : Value} {as : List Addr}, noL d = true → Reads h u d as → as = []
  | .none, _, _, _, r => by cases r; rfl
  | .bool _, _, _, _, r => by cases r; rfl
  | .int _, _, _, _, r => by cases r; rfl
  | .str _, _, _, _, r => by cases r; rfl
  | .tuple xs, _, _, n, r => by
    cases r with
    | tuple h1 h2 h3 h4 => exact noLs_nil (by simpa [noL] using n) h4
  | .list _, _, _, n, r => by simp [noL] at n
  | .dict _, _, _, n, r => by simp [noL] at n
theorem noLs_nil {h : Heap} : ∀ {ds : List PyData} {us : List Value} {as : List Addr}, noLs ds = true → ReadsAll h us ds as → as = []
  | [], _, _, _, r => by cases r; rfl
  | d :: ds, _, _, n, r => by
    cases r with
    | cons h1 h2 =>
      rw [noLs, Bool.and_eq_true] at n
      rw [noL_nil n.1 h1, noLs_nil n.2 h2]
      rfl
end
/-- the body of the lambda, at a value that reads as D: what it gives reads as the key's data -/
def KB (x : Str) (scope : Scope) (e : Expr) (k : Ke) : Prop :=
  ∀ (P : Program) (w : World) (A : Around) (E : Value → Shared → Prop) (env : Env) (s : Shared) (m : Str → Option Value) (u : Value) (D d : PyData) (Q : Value → Shared → Prop), env.scope = scope → scope.kind = .function → scope.names.lookup x = some .local →
    s.heap.Ns env.locals m → m x = some u → Reads s.heap u D [] → keyD k D = some d →
    (∀ h' tk r, (∀ b o, s.heap.get? b = some o → h'.get? b = some o) → Reads h' r d [] → Q r { s with heap := h', toks := tk }) → wpAny (model P w) A (eval e env) Q E s
theorem kb_v {x : Str} {scope : Scope} {pos : Pos} (hd : (x == ("__debug__" : Str)) = false := by decide) : KB x scope (.Name x pos) .v := by
  intro P w A E env s m u D d Q he hk hl hn hm hr ek h
  cases ek
  refine wpAny_Name (wpAny_loadName_local (by rw [he]; exact hk) (show env.scope.names.lookup x = some .local by rw [he]; exact hl) hn hm ?_) hd
  exact h s.heap s.toks u (fun _ _ q => q) hr
theorem reads_items {h : Heap} {us : List Value} {ds : List PyData} (r : ReadsAll h us ds []) : ∀ {i : Nat} {d : PyData}, ds[i]? = some d → ∃ u, us[i]? = some u ∧ Reads h u d [] := by
  intro i d hd
  induction ds generalizing us i with
  | nil => simp at hd
  | cons x xs ih =>
    generalize ha : ([] : List Addr) = as at r
    cases r with
    | cons h1 h2 =>
      rename_i v vs as bs
      have ha2 : as = [] ∧ bs = [] := by
        cases as with
        | nil => exact ⟨rfl, by simpa using ha.symm⟩
        | cons _ _ => simp at ha
      obtain ⟨rfl, rfl⟩ := ha2
      cases i with
      | zero => simp at hd; subst hd; exact ⟨v, rfl, h1⟩
      | succ i => obtain ⟨u, e1, e2⟩ := ih h2 (by simpa using hd); exact ⟨u, by simpa using e1, e2⟩
theorem seq_ix {i n : Nat} (h : i < n) : seqIndex? (i : Int) n = some i := by
  unfold seqIndex?
  simp
  omega
theorem kb_sub {x : Str} {scope : Scope} {e : Expr} {k : Ke} (i : Nat) {j : Nat} {pos p : Pos} (hi : i < 1000) (he : KB x scope e k) : KB x scope (.Subscript e (.Constant (.int (i : Int)) j p) pos) (.sub k i) := by
  intro P w A E env s m u D d Q hs hk hl hn hm hr ek h
  simp only [keyD] at ek
  split at ek
  · rename_i xs e1
    refine Subscript_ (he P w A E env s m u D (.tuple xs) _ hs hk hl hn hm hr e1 fun h' tk r kp rr => ?_)
    refine wpAny_Constant_int ?_
    cases rr with
    | tuple g1 g2 g3 g4 =>
      rename_i a o vs n
      obtain ⟨v, e2, rv⟩ := reads_items g4 ek
      have hlt : i < vs.size := by
        have := (List.getElem?_eq_some_iff.mp e2).1
        simpa using this
      have fin : Q v { s with heap := h', toks := tk + 1 } := h h' (tk + 1) v kp rv
      refine subscriptTail_builtinR (x := v) (T := "tuple") ⟨o, g1, g2⟩ slot_tuple_getitem.lookup ?_
      exact getItem_tuple (j := i) (Q := fun r s' => r = v ∧ Q r s') ⟨o, g1, g2, n, g3⟩ (by omega) (by omega) (seq_ix hlt) (by rw [← Array.getElem?_toList]; exact e2) ⟨rfl, fin⟩
  · cases ek
theorem kb_tup {x : Str} {scope : Scope} {e f : Expr} {k l : Ke} {j : Nat} {pos : Pos} (he : KB x scope e k) (hf : KB x scope f l) (h1 : ∀ env, starEach [e, f] env = [(false, eval e env), (false, eval f env)] := by intro _; rfl) : KB x scope (.Tuple [e, f] j pos) (.tup k l) := by
  intro P w A E env s m u D d Q hs hk hl hn hm hr ek h
  simp only [keyD] at ek
  split at ek
  · rename_i a b e1 e2
    cases ek
    refine wpAny_Tuple_spliced ?_
    rw [h1]
    show wpAny _ _ (spliced ((false, eval e env) :: backTo pos [(false, eval f env)])) _ _ s
    refine Calls.spliced_cons (he P w A E env s m u D a _ hs hk hl hn hm hr e1 fun h' tk r kp rr => ?_)
    show wpAny _ _ (spliced ((false, eval f env) :: backTo pos [])) _ _ _
    refine Calls.spliced_cons (hf P w A E env { s with heap := h', toks := tk } m u D b _ hs hk hl (hn.keeps kp) hm (PyProof.Rows.Reads.keeps kp hr) e2 fun h2 tk2 r2 kp2 rr2 => ?_)
    refine Calls.spliced_nil ⟨by show 2 ≤ sizeLine; decide, ?_⟩
    refine h _ tk2 (.ref h2.objs.size) (fun b o q => Heap.get?_push_of_some _ (kp2 b o (kp b o q))) ?_
    have r1 := PyProof.Rows.Reads.keeps (fun b o q => Heap.get?_push_of_some { cls := .type "tuple", data := .seq [r, r2].toArray } (kp2 b o q)) rr
    have r2' := PyProof.Rows.Reads.keeps (fun b o q => Heap.get?_push_of_some { cls := .type "tuple", data := .seq [r, r2].toArray } q) rr2
    exact .tuple (Heap.get?_push_size _ rfl) rfl rfl (.cons r1 (.cons r2' .nil))
  · cases ek
/-- the lambda called -/
theorem lam_turn {P : Program} {w : World} {A : Around} {s : Shared} {f c' : Addr} {q x : Str} {params : Arguments} {body : Expr} {scope : Scope} {pm ctv u : Value} {k : Ke} {D d : PyData} {E : Value → Shared → Prop} (hroom : A.depth < recursionLimit)
    (ho : s.heap.get? f = some (PySem.W.kla_obj "<lambda>" q params body scope [] pm c' ctv)) (hcd : s.heap.CodeRec (.ref c') q) (hlim : s.heap.NoLimit) (hco : scope.isCoroutine = false) (hgen : scope.isGenerator = false) (hkind : scope.kind = .function) (hcell : ∀ y ∈ scope.names, y.2 ≠ .cell) (hx : scope.names.lookup x = some .local)
    (hbind : bindArgs (PySem.W.kla_fn "<lambda>" q params body scope [] pm (.ref c') ctv) ⟨[u], []⟩ = pure [(x, u)]) (kb : KB x scope body k) (hr : Reads s.heap u D []) (hd : keyD k D = some d) :
    wpAny (model P w) A (call (.ref f) [u]) (PySem.W.KeyPure d s) E s := by
  refine wpAny_call (PySem.W.kla_callFunE hroom ho rfl hco hgen rfl hcd ?_)
  rw [hbind]
  refine wpAny_pure (wpAny_newFunctionEnv hcell (fun y hy => by rw [List.mem_singleton.mp hy]; exact hx) (fun h₁ hns hsb => ⟨hlim.fresh _ hsb, ?_⟩) hkind)
  have kp : ∀ b o, s.heap.get? b = some o → h₁.get? b = some o := fun b o e => hsb.extBut b o (Nat.ne_of_lt (Heap.lt_size e)) (Heap.get?_push_of_some _ e)
  refine PySem.W.kla_codeExpr ?_
  refine kb P w _ _ _ { s with heap := h₁, toks := s.toks + [(x, u)].length } _ u D d _ rfl hkind hx hns (by simp) (PyProof.Rows.Reads.keeps kp hr) hd fun h' tk r kp' rr => ?_
  exact ⟨h', tk, rfl, fun b o e => kp' b o (kp b o e), rr⟩
/-- a key that is never asked -/
theorem kb_no {x : Str} {scope : Scope} {e : Expr} : KB x scope e .no := by
  intro P w A E env s m u D d Q he hk hl hn hm hr ek h
  simp only [keyD] at ek
  cases ek
/-- the tables of the def that makes lambdas -/
structure LmOk (X : Cx) (Z : Zt) : Prop where
  ex : ∃ c P, LamX.TabB X.base X.mg c P ∧ X.env.code = .ref c ∧ (P, X.env.qual ++ "<lambda>") ∈ Z.T ∧ ∀ p ∈ Z.T, p.1 = P → p.2 = X.env.qual ++ "<lambda>"
section
variable {X : Cx} {Z : Zt} {Wx : Wish} {G : Pg} {C C1 : Nat → List Wv → Mem → Out Wv} {a b c e : Expr} {ea : Ex} {pos p p2 p3 kpos : Pos}
variable {pins : List (Addr × Obj)} {σ : L2.St} {H H1 : Hp} {s : Shared} {ι ι1 : List Addr} {M : Mem} {sw : Sw}
theorem rm_lam (R : RM Z ι M H) (x : LamX.ExtN H H1) (t : LamX.Tabs Z.T H1) : Ext ι ι H H1 ∧ RM Z ι M H1 := by
  have ex : Ext ι ι H H1 := ⟨⟨[], by simp, by simp⟩, fun a o h nt _ => x a o h nt, fun a ob φ h => x a _ h (fun ps z => by cases z), fun a h o e n => h o (x a o e n) n⟩
  exact ⟨ex, R.len, R.nd, fun l o a h1 h2 => (R.ob l o a h1 h2).mono ex.le fun ho e nt => x a ho e nt, t⟩
theorem mapO_each {ws : List Wv} {vs : List V} {us : List Value} {ds : List PyData} {k : Ke} (kx : Bx X Z Wx G) (I : L2.Inv X pins σ H s) (R : RM Z ι M H) (r : WsR Z ι H ws vs) (rv : Vals vs us) (e : mapO (keyOf G k M) ws = some ds) :
    ∃ bs : List Tri, bs.map (·.1) = ds ∧ bs.map (·.2.1) = ws ∧ (∀ b ∈ bs, WR Z ι H b.2.1 b.2.2) ∧ W.EachIs (fun u (b : Tri) => RelV b.2.2 u ∧ ∃ D, Reads s.heap u D [] ∧ keyD k D = some b.1) us bs := by
  induction ws generalizing vs us ds with
  | nil => cases r; cases rv; cases e; exact ⟨[], rfl, rfl, by simp, .nil⟩
  | cons w ws ih =>
    cases r with
    | cons h t =>
      cases rv with
      | cons h2 t2 =>
        simp only [mapO] at e
        split at e
        · rename_i d ds' e1 e2
          cases e
          obtain ⟨bs, b1, b2, b3, b4⟩ := ih t t2 e2
          unfold keyOf at e1
          split at e1
          · rename_i D eD
            split at e1
            · rename_i nl
              obtain ⟨as, ra⟩ := Dp.reads I D _ _ (by rw [kx.K]; exact toD_dp kx.hS R _ h eD) h2
              have := noL_nil nl ra
              subst this
              refine ⟨(d, w, _) :: bs, by simp [b1], by simp [b2], fun b hb => ?_, .cons ⟨h2, D, ra, e1⟩ b4⟩
              rcases List.mem_cons.mp hb with z | z
              · subst z; exact h
              · exact b3 b z
            · cases e1
          · cases e1
        · cases e
theorem e_sortk (k : Bx X Z Wx G) (lm : LmOk X Z) (hroom : X.A.depth + 4 < recursionLimit) {ke : Ke} {x : Str} {params : Arguments} {body : Expr} {scope : Scope} {lpos : Pos} (hm : X.mg "sorted" = none) (ha : PE X a (TEx Z Wx G C C1 ea)) (kb : KB x scope body ke)
    (hdef : defaultsOf params X.env = ([], []) := by rfl) (hfree : scope.names.all (fun y => !decide (y.2 = .free) && !decide (y.2 = .cell)) = true := by kernel_rfl) (hco : scope.isCoroutine = false := by rfl) (hgen : scope.isGenerator = false := by rfl) (hkind : scope.kind = .function := by rfl) (hx : scope.names.lookup x = some .local := by rfl)
    (hbind : ∀ q pm c' ctv u, bindArgs (PySem.W.kla_fn "<lambda>" q params body scope [] pm (.ref c') ctv) ⟨[u], []⟩ = pure [(x, u)] := by intros; rfl)
    (hg : gloB X.env "sorted" = true := by kernel_rfl) (hs : starEach [a] X.env = (false, eval a X.env) :: starEach [] X.env := by rfl)
    (he : backTo pos (starEach [a] X.env) = (false, eval a X.env) :: backTo pos (starEach [] X.env) := by rfl) (hpl : (backTo pos (starEach [a] X.env)).any (·.1) = false := by rfl)
    (hall : (backToKw pos (keywordEach [⟨some "key", .Lambda params body scope lpos, kpos⟩] X.env)).all (·.1.isSome) = true := by rfl) (hnone : (backToKw pos (keywordEach [⟨some "key", .Lambda params body scope lpos, kpos⟩] X.env)).any (·.1.isNone) = false := by rfl)
    (hks : (backToKw pos (keywordEach [⟨some "key", .Lambda params body scope lpos, kpos⟩] X.env)).filterMap (·.1) = [Str.ofString "key"] := by rfl) :
    PE X (.Call (.Name "sorted" p) [a] [⟨some "key", .Lambda params body scope lpos, kpos⟩] pos) (TEx Z Wx G C C1 (.sortk ea ke)) := by
  obtain ⟨h1, h2, h3⟩ := gloB_ok hg
  obtain ⟨c, P, TB, hcode, hmT, huT⟩ := lm.ex
  refine ⟨fun pins s σ H Q I ⟨ι, sw, M, sr, R, h⟩ => ?_⟩
  simp only [evE] at h
  refine wpAny_Call_Name_kw (ld_blt I h1 hm (by rfl) ?_ h3 h2)
  refine PyProof.Rows.callWith_kw (thn ((pa_cons ha pa_nil hs).run pos pins s σ H (fun vs H1 => ∃ v ι1 M1 w, vs = [v] ∧ RM Z ι1 M1 H1 ∧ WR Z ι1 H1 w v ∧ rOut Z ι1 H1 (newL ((lstOf w M1).bind fun ws => (mapO (keyOf G ke M1) ws).bind fun ds => sortBy ds ws) M1) Q) I
    (tE.seqE sr R h fun w M1 v H1 ι1 e1 R1 q1 s1 h1 => ⟨v, ι1, M1, w, rfl, R1, q1, (prim_newL _ _).out h1⟩)) fun us s1 ⟨vs, H1, I1, r1, v, ι1, M1, w, ev, R1, wr, h4⟩ => ?_) he hpl hall hnone
  subst ev
  obtain ⟨u, rfl, ru⟩ := vals1 r1
  show wpAny _ _ (evalAll [do let v ← eval (.Lambda params body scope lpos) X.env; standAt pos; pure v]) _ _ s1
  have nofree : ∀ y ∈ scope.names, y.2 ≠ .free ∧ y.2 ≠ .cell := fun y hy => by
    rw [List.all_eq_true] at hfree
    have := hfree y hy
    rw [Bool.and_eq_true] at this
    exact ⟨by simpa using this.1, by simpa using this.2⟩
  have clo : cloFrom X.env.cells scope.names [] = [] := by
    have go : ∀ (l : List (Str × NameKind)), (∀ y ∈ l, y.2 ≠ .free) → cloFrom X.env.cells l [] = [] := by
      intro l
      induction l with
      | nil => intro _; rfl
      | cons y ys ih =>
        intro hy
        obtain ⟨n, kd⟩ := y
        have h0 := hy (n, kd) List.mem_cons_self
        have := ih fun z hz => hy z (List.mem_cons_of_mem _ hz)
        cases kd <;> first | exact absurd rfl h0 | exact this
    exact go _ fun y hy => (nofree y hy).1
  refine wpAny_evalAll_cons (wpAny_bind (LamX.lam_make2 I1 TB hcode hmT huT R1.tab hdef (fun y hy e => absurd e (nofree y hy).1) fun f c' pm ctv H2 s2 I2 x2 t2 of hfn hfr hc => wpAny_bind (wpAny_standAt (wpAny_pure (wpAny_evalAll_nil ?_)))))
  rw [clo] at of
  rw [hks]
  show wpAny _ _ (call (.builtin "sorted") [u] [(Str.ofString "key", .ref f)]) _ _ s2
  obtain ⟨x3, R3⟩ := rm_lam R1 x2 t2
  obtain ⟨out, e, hz, h5⟩ := newL_ok h4
  obtain ⟨zs, e1, e⟩ := Option.bind_eq_some_iff.mp e
  obtain ⟨ds, e2, e3⟩ := Option.bind_eq_some_iff.mp e
  obtain ⟨l, vs, rfl, hl, hws⟩ := lstOf_at R3 (wr.mono x3.le) e1
  cases ru
  obtain ⟨its, rv, pl, hzz⟩ := I2.list (SqL.of (K := X.K) hl)
  obtain ⟨bs, b1, b2, b3, b4⟩ := mapO_each k I2 R3 hws rv e2
  obtain ⟨a1, a2, a3, a4⟩ := sortBy_tri (bs := bs) (out := out) (by rw [b1, b2]; exact e3)
  have hlen : bs.length = zs.length := by rw [← b2, List.length_map]
  obtain ⟨⟨oc, vs', tt, hoc, hdc, hvc⟩, _, _⟩ := I2.hok c' _ hc
  have lim : s2.heap.NoLimit := I2.nolimit
  refine PySem.W.sorted_key_data (fun b : Tri => b.1) pl.isList b4 (alikeAll_of a1) (sortable_of a2) (by rw [hlen, hws.length]; exact hzz) (depth_cap k.toXOk a3) (PyProof.Rows.ksk_s1 _ _) (fun x => PyProof.Rows.ksk_l1 _ _) (fun y => PyProof.Rows.ksk_t1 f y)
    (fun v b hR hb h' tk kp => ?_) fun o cc h' tk kp hnew hat hol eo => ?_
  · obtain ⟨hrel, D, hD, kd⟩ := hR
    exact lam_turn (s := { s2 with heap := h', toks := tk }) (by show X.A.depth < recursionLimit; omega) (kp _ _ of) ⟨c', oc, vs', tt, rfl, kp _ _ hoc, hdc, hvc⟩ (lim.keeps kp) hco hgen hkind (fun y hy => (nofree y hy).2) hx (hbind _ _ _ _ _) kb (PyProof.Rows.Reads.keeps kp hD) kd
  · have eo2 : W.EachIs (fun u (b : Tri) => RelV b.2.2 u) o (bs.mergeSort (W.dataLe false fun b : Tri => b.1)) := eo.mono fun u b hh => hh.1
    have ww : WsR Z ι1 H2 out ((bs.mergeSort (W.dataLe false fun b : Tri => b.1)).map (·.2.2)) := by
      rw [a4]
      exact ws_sorted fun b hb => b3 b ((List.mergeSort_perm _ _).mem_iff.mp hb)
    have h6 : rOut Z ι1 H2 (.ok (.ref M1.length) (M1 ++ [.lst out])) Q := fun v H' ι' y R4 q4 => h5 v H' ι' (x3.trans y) R4 q4
    exact ⟨.ref _, _, I2.laid (t' := tk) kp (Nat.le_succ _) (show ObjOk X.prog X.w _ _ _ (.lst ((bs.mergeSort (W.dataLe false fun b : Tri => b.1)).map (·.2.2))) from ⟨by rw [← ww.length]; exact hz, o, cc, each_vals eo2, hat⟩), rfl, h6.lst R3 ww (I2.hok.fresh (Nat.le_succ _))⟩
end
end MP
end
section
set_option Elab.async false
set_option linter.all false
set_option maxRecDepth 100000
/-! MP19: a def keeps its promise. -/
namespace MP
open PySem PySem.Spec PyProof.Rows L2

theorem callN_succ (G : Pg) (fu k f : Nat) (ws : List Wv) (M : Mem) : callN G fu (k + 1) f ws M = match G.df f with
    | some d => runD G (callN G fu k) (callN G fu (k - 1)) fu d ws M
    | none => .bad := by
  have e0 : callN G fu 0 = fun _ _ _ => .bad := by funext a b c; simp only [callN]
  cases k with
  | zero =>
    simp only [Nat.zero_sub, e0]
    simp only [callN]
    try (cases G.df f <;> rfl)
  | succ k =>
    simp only [callN, Nat.add_sub_cancel]
    try (cases G.df f <;> rfl)
/-- what a def wants of its refusals -/
def wxE (Z : Zt) (E : XK) : Wish := fun c _ H => E (.ref (Z.exc c)) none H
section
variable {P : Program} {w : World} {K : PySem.W.Frag} {mg : Str → Option Value} {base : Heap} {Z : Zt} {G : Pg} {C C1 : Nat → List Wv → Mem → Out Wv} {fu k : Nat}
theorem bx_of {N ps : List Str} {qual : Str} {scope : Scope} {f : Addr} {cdv : Value} {A : Around} {outer : List Env} {s : Shared} {H : Hp} {E : XK} (hZ : Z.P = P ∧ Z.w = w ∧ Z.K = K) (hS : Z.S = G.S) (S : FnScope N ps scope) (hr : Room k (A.deeper (envOfC qual scope s.heap.objs.size f cdv))) (hgd : A.guards = some []) :
    Bx (cxOf (L2.CX P w) P w K mg base N qual scope f cdv A outer s H E) Z (wxE Z E) G := by
  obtain ⟨rfl, rfl, rfl⟩ := hZ
  refine ⟨⟨rfl, rfl, rfl, rfl, ?_, hgd⟩, hS, S.nd, ?_⟩
  · have := hr.un
    show (A.deeper (envOfC qual scope s.heap.objs.size f cdv)).units + 200 < cLine
    omega
  · refine Takes.imp (takes_of (X := cxOf (L2.CX Z.P Z.w) Z.P Z.w Z.K mg base N qual scope f cdv A outer s H E) (E := E) rfl rfl rfl rfl) fun cls d σ H h => ?_
    obtain ⟨rfl, c, rfl, h⟩ := h
    exact h
theorem start_rel {N : List Str} {ws : List Wv} {vs : List V} {ι : List Addr} {H : Hp} (r : WsR Z ι H ws vs) : SR Z ι H (ws.map some ++ List.replicate (N.length - ws.length) none) (L2.start N vs) := by
  have hl := r.length
  unfold L2.start
  refine ⟨by simp [hl], fun i w h => ?_⟩
  by_cases hi : i < ws.length
  · rw [List.getElem?_append_left (by simpa using hi), List.getElem?_map] at h
    rw [List.getElem?_append_left (by rw [List.length_map, ← hl]; exact hi), List.getElem?_map]
    cases e : ws[i]? with
    | none => rw [e] at h; cases h
    | some x =>
      rw [e] at h
      cases h
      obtain ⟨v, h1, h2⟩ := r.get e
      exact ⟨v, by rw [h1]; rfl, h2⟩
  · rw [List.getElem?_append_right (by simp; omega)] at h
    have := List.getElem?_replicate (n := N.length - ws.length) (a := (none : Option Wv)) (i := i - (ws.map some).length)
    rw [this] at h
    split at h <;> cases h
theorem fn_mp {x qual : Str} {params : Arguments} {body : List Stmt} {scope : Scope} {dvs : List V} {kws : List (Str × V)} {f : Addr} {fd : FuncData} {N ps : List Str} {d : Df} {Fc : List Wv → Mem → Out Wv} (F : FunD K x qual params body scope dvs kws f fd) (S : FnScope N ps scope)
    (hZ : Z.P = P ∧ Z.w = w ∧ Z.K = K) (hS : Z.S = G.S) (hslots : d.slots = N.length) (hn : d.npar = ps.length) (hF : ∀ ws M, Fc ws M = runD G C C1 fu d ws M)
    (hbody : ∀ (cdv : Value), (∀ p, He.fAd K p = f → cdv = .ref (He.codeOf K p)) → ∀ (A : Around) (outer : List Env) (s : Shared) (H : Hp) (E : XK), Room k (A.deeper (envOfC qual scope s.heap.objs.size f cdv)) → Bx (cxOf (L2.CX P w) P w K mg base N qual scope f cdv A outer s H E) Z (wxE Z E) G →
      PassesOwn (model P w) (A.deeper (envOfC qual scope s.heap.objs.size f cdv)) (envOfC qual scope s.heap.objs.size f cdv) (cxOf (L2.CX P w) P w K mg base N qual scope f cdv A outer s H E).xe → PSs (cxOf (L2.CX P w) P w K mg base N qual scope f cdv A outer s H E) body (TSl Z (wxE Z E) G C C1 fu d.body)) :
    FnG P w K mg base (k + 1) f fd ps (spI Z Fc) := by
  obtain ⟨oc, od, dV, kV, doc, pm, an, cdv, ct, osl, rfl, lk, hcd, _, _⟩ := F.ex
  have hcv : ∀ p, He.fAd K p = f → cdv = .ref (He.codeOf K p) := fun p hp => by
    obtain ⟨c, rfl⟩ := He.codeIn_ref hcd
    rw [He.codeOf_eq (p := p) (c := c) (by rw [hp]; exact lk) rfl]
  have hlen : ∀ vs H Q E, spI Z Fc vs H Q E → vs.length = ps.length := by
    intro vs H Q E h
    obtain ⟨ι, M, ws, R, r, h⟩ := h
    rw [hF] at h
    unfold runD at h
    rw [← r.length, ← hn]
    cases hq : decide (ws.length = d.npar) with
    | false => rw [hq] at h; exact False.elim h
    | true => exact of_decide_eq_true hq
  refine ⟨hlen, fun A outer s H args us vs Q E hg hr e0 hb rv h => LamX.run_ofS lk hcd S hr e0 hb rv (hlen vs H Q E h) fun hr2 => ⟨_, hbody cdv hcv A outer s H E hr2 (bx_of hZ hS S hr2 hg) (passes_of (X := cxOf (L2.CX P w) P w K mg base N qual scope f cdv A outer s H E) rfl), ?_⟩⟩
  · obtain ⟨ι, M, ws, R, r, h⟩ := h
    rw [hF] at h
    unfold runD at h
    refine ⟨ι, ws.map some ++ List.replicate (N.length - ws.length) none, M, start_rel r, R, ?_⟩
    rw [hslots] at h
    cases hq : decide (ws.length = d.npar) with
    | false => rw [hq] at h; exact False.elim h
    | true =>
      rw [hq] at h
      simp only [Out.chk] at h
      cases e : evSl G C C1 fu d.body (ws.map some ++ List.replicate (N.length - ws.length) none) M with
      | bad => rw [e] at h; exact h
      | exc c M1 => rw [e] at h; exact fun σ' H' ι' x R => h H' ι' x R
      | ok q M1 =>
        obtain ⟨fl, sw⟩ := q
        rw [e] at h
        intro σ' H' ι' x R1 s1
        cases fl with
        | nx => exact h .non H' ι' x R1 .non
        | ret w => exact fun v hv => h v H' ι' x R1 hv
        | brk => exact False.elim h
        | ct => exact False.elim h
theorem fn_bad {f : Addr} {fd : FuncData} {ps : List Str} {Fc : List Wv → Mem → Out Wv} {n : Nat} (h : ∀ ws M, Fc ws M = .bad) : FnG P w K mg base n f fd ps (spI Z Fc) :=
  ⟨fun vs H Q E ⟨ι, M, ws, R, r, q⟩ => by rw [h] at q; exact False.elim q, fun A outer s H args us vs Q E hg hr e0 hb rv ⟨ι, M, ws, R, r, q⟩ => by rw [h] at q; exact False.elim q⟩
/-- the built-ins are free -/
structure Frs (mg : Str → Option Value) : Prop where
  isinstance : mg "isinstance" = none
  len : mg "len" = none
  all : mg "all" = none
  any : mg "any" = none
  sum : mg "sum" = none
  min : mg "min" = none
  max : mg "max" = none
  sorted : mg "sorted" = none
  range : mg "range" = none
  zip : mg "zip" = none
  enumerate : mg "enumerate" = none
  abs : mg "abs" = none
  list : mg "list" = none
  dict : mg "dict" = none
  tuple : mg "tuple" = none
  str : mg "str" = none
  int : mg "int" = none
  set : mg "set" = none
  bool : mg "bool" = none
/-- a constant of the module -/
structure ConOk (mg : Str → Option Value) (Z : Zt) (G : Pg) (x : Str) : Prop where
  ex : ∃ w v u, G.con x = some w ∧ mg x = some u ∧ RelV v u ∧ ∀ ι H, WR Z ι H w v
theorem e_con {X : Cx} {Wx : Wish} {pos : Pos} {x : Str} (c : ConOk X.mg Z G x) (h : gloB X.env x = true := by kernel_rfl) : PE X (.Name x pos) (TEx Z Wx G C C1 (.glb x)) := by
  obtain ⟨w, v, u, h1, h2, h3, h4⟩ := c.ex
  exact e_glb h1 h2 h3 h4 h
def blkB (N : List Str) (sc scope : Scope) (own : List (Str × Nat)) : Bool :=
  decide (scope.kind = .function) && (scope.names.all fun y => decide (scope.names.lookup y.1 = some y.2)) && (own.all fun p => decide (N[p.2]? = some p.1)) &&
  (scope.names.all fun y => !decide (y.2 = .free) || decide (sc.names.lookup y.1 = some .cell) || decide (sc.names.lookup y.1 = some .free)) &&
  (scope.names.all fun y => !(decide (y.2 = .local) || decide (y.2 = .cell)) || decide (y.1 ∈ own.map (·.1)) || decide (y.1 ∉ N))
theorem blk_ok {N : List Str} {sc scope : Scope} {own : List (Str × Nat)} (h : blkB N sc scope own = true) : BlkOk N sc scope own := by
  unfold blkB at h
  simp only [Bool.and_eq_true, List.all_eq_true, decide_eq_true_eq, Bool.or_eq_true, Bool.not_eq_true', decide_eq_false_iff_not, Bool.or_eq_false_iff] at h
  obtain ⟨⟨⟨⟨h1, h2⟩, h3⟩, h4⟩, h5⟩ := h
  refine ⟨h1, h2, h3, fun y hy e => ?_, fun y hy e => ?_⟩
  · rcases h4 y hy with (z | z) | z
    · exact absurd e z
    · exact .inl z
    · exact .inr z
  · rcases h5 y hy with (z | z) | z
    · rcases e with e | e
      · exact absurd e z.1
      · exact absurd e z.2
    · exact .inl z
    · exact .inr z
/-! ### the law -/
theorem pss_lock {X : Cx} {st : List Stmt} {t : TS} (h : PSs X st t) : PSs X st (tLock t) := by
  refine ⟨fun pins s σ H D I hw => ?_⟩
  obtain ⟨d, u, hd, mu, hw⟩ := hw
  obtain ⟨od, I1⟩ := I.lock hd mu
  refine thn (h.run pins s σ _ _ I1 (hw od)) fun f s1 q => ?_
  cases f with
  | next => obtain ⟨σ', H', I2, e, q⟩ := q; exact ⟨σ', _, I2.unlock e (I.nofrz hd mu), q⟩
  | brk => obtain ⟨σ', H', I2, e, q⟩ := q; exact ⟨σ', _, I2.unlock e (I.nofrz hd mu), q⟩
  | cont => obtain ⟨σ', H', I2, e, q⟩ := q; exact ⟨σ', _, I2.unlock e (I.nofrz hd mu), q⟩
  | ret v => obtain ⟨x, σ', H', I2, r, e, q⟩ := q; exact ⟨x, σ', _, I2.unlock e (I.nofrz hd mu), r, q⟩
/-- the law's promise -/
def spL (Z : Zt) (F : List Wv → Mem → Out Wv) : Sp := fun vs H Q E => ∃ a, vs = [.ref a] ∧ SqL Z.K H a (Z.S.map V.int) ∧ LamX.Tabs Z.T H ∧ (∃ M, F [.scr] [] = .ok (.bl true) M) ∧ ∀ H', Q (.bl true) H'
theorem law_start {H : Hp} {a : Addr} (t : LamX.Tabs Z.T H) (h : ScR Z.K H a (Z.S.map V.int)) : RM Z [] [] H ∧ WsR Z [] H [.scr] [.ref a] :=
  ⟨⟨rfl, List.nodup_nil, fun l o a h _ => by simp at h, t⟩, .cons (.scr h) .nil⟩
theorem fn_law {x qual : Str} {params : Arguments} {body : List Stmt} {scope : Scope} {dvs : List V} {kws : List (Str × V)} {f : Addr} {fd : FuncData} {N ps : List Str} {d : Df} {Fc : List Wv → Mem → Out Wv} (F : FunD K x qual params body scope dvs kws f fd) (S : FnScope N ps scope)
    (hZ : Z.P = P ∧ Z.w = w ∧ Z.K = K) (hS : Z.S = G.S) (hslots : d.slots = N.length) (hn : d.npar = ps.length) (hps : ps.length = 1) (hF : ∀ ws M, Fc ws M = runD G C C1 fu d ws M)
    (hbody : ∀ (cdv : Value) (A : Around) (outer : List Env) (s : Shared) (H : Hp) (E : XK), Room k (A.deeper (envOfC qual scope s.heap.objs.size f cdv)) → Bx (cxOf (L2.CX P w) P w K mg base N qual scope f cdv A outer s H E) Z (wxE Z E) G →
      PassesOwn (model P w) (A.deeper (envOfC qual scope s.heap.objs.size f cdv)) (envOfC qual scope s.heap.objs.size f cdv) (cxOf (L2.CX P w) P w K mg base N qual scope f cdv A outer s H E).xe → PSs (cxOf (L2.CX P w) P w K mg base N qual scope f cdv A outer s H E) body (TSl Z (wxE Z E) G C C1 fu d.body)) :
    FnG P w K mg base (k + 1) f fd ps (spL Z Fc) := by
  obtain ⟨oc, od, dV, kV, doc, pm, an, cdv, ct, osl, rfl, lk, hcd, _, _⟩ := F.ex
  have hlen : ∀ vs H Q E, spL Z Fc vs H Q E → vs.length = ps.length := by
    intro vs H Q E h
    obtain ⟨a, rfl, _⟩ := h
    rw [hps]
    rfl
  refine ⟨hlen, fun A outer s H args us vs Q E hg hr0 e0 hb rv h => LamX.run_ofS lk hcd S hr0 e0 hb rv (hlen vs H Q E h) fun hr => ?_⟩
  · obtain ⟨a, rfl, hq, ht, ⟨M', hrun⟩, hQ⟩ := h
    have B := hbody cdv A outer s H E hr (bx_of hZ hS S hr hg) (passes_of (X := cxOf (L2.CX P w) P w K mg base N qual scope f cdv A outer s H E) rfl)
    rw [hF] at hrun
    unfold runD at hrun
    obtain ⟨hnp, hrun⟩ := Out.chk_okE hrun
    obtain ⟨q, M1, e1, e2⟩ := Out.bind_okE hrun
    rw [hslots] at e1
    have key : ∀ (H' : Hp) (D : Ends), LamX.Tabs Z.T H' → ScR Z.K H' a (Z.S.map V.int) → (∀ H2 ι2, Ext [] ι2 H' H2 → D.rt (.bl true) H2) → TSl Z (wxE Z E) G C C1 fu d.body D (L2.start N [.ref a]) H' := fun H' D t' sc hD => by
      obtain ⟨R, wr⟩ := law_start t' sc
      refine ⟨[], _, [], start_rel wr, R, ?_⟩
      rw [e1]
      obtain ⟨fl, sw⟩ := q
      intro σ2 H2 ι2 x2 R2 s2
      cases fl with
      | nx => cases e2
      | brk => cases e2
      | ct => cases e2
      | ret w =>
        cases e2
        intro v hv
        cases hv
        exact hD H2 ι2 x2
    rcases hq with (hq | ⟨o, hq⟩) | hq
    · refine ⟨_, pss_lock B, a, .lst (Z.S.map V.int), hq, trivial, fun od => key _ _ ?_ (.inl ⟨od, upd_same⟩) fun H2 ι2 x2 => ⟨?_, hQ _⟩⟩
      · intro p hp
        obtain ⟨ps', g1, g2, g3⟩ := ht p hp
        have ne : p.1 ≠ a := fun z => by rw [z, hq] at g1; cases g1
        refine ⟨ps', by rw [upd_ne ne]; exact g1, g2, fun pos cv hc => ?_⟩
        obtain ⟨c, k1, k2⟩ := g3 pos cv hc
        have nc : c ≠ a := fun z => by rw [z, hq] at k2; cases k2
        exact ⟨c, k1, by rw [upd_ne nc]; exact k2⟩
      · exact x2.frm a _ upd_same (fun ps z => by cases z) (.inl (by simp))
    · exact ⟨_, B, key H _ ht (.inl ⟨o, hq⟩) fun H2 _ _ => hQ H2⟩
    · exact ⟨_, B, key H _ ht (.inr fun H' => .inr hq) fun H2 _ _ => hQ H2⟩
end
end MP
end
section
set_option Elab.async false
set_option linter.all false
set_option maxRecDepth 100000
/-! MP20: defs that stand and keep their promise; the law's end. -/
namespace MP
open PySem PySem.Spec PyProof.Rows L2
section
variable {P : Program} {w : World} {K : PySem.W.Frag} {mg : Str → Option Value} {base : Heap} {Z : Zt} {G : Pg} {C C1 : Nat → List Wv → Mem → Out Wv} {fu k n : Nat} {A : Around}
variable {x qual : Str} {params : Arguments} {body : List Stmt} {scope : Scope} {dvs : List V} {kws : List (Str × V)} {f : Addr} {fd : FuncData} {ps : List Str} {F : List Wv → Mem → Out Wv} {dws : List Wv}
/-- the def stands, and keeps its promise -/
def FnAt (P : Program) (w : World) (K : PySem.W.Frag) (mg : Str → Option Value) (base : Heap) (Z : Zt) (d : He.DefD) (ps : List Str) (n : Nat) (F : List Wv → Mem → Out Wv) : Prop :=
  ∃ fd, FunD K d.name d.qual d.params d.body d.scope (d.dvs K) (d.kws K) (He.fAd K d.at_) fd ∧ FnG P w K mg base n (He.fAd K d.at_) fd ps (spI Z F)
/-- values fill up what is not written -/
def Fills (K : PySem.W.Frag) (Z : Zt) (fd : FuncData) (ps : List Str) (dws : List Wv) : Prop := ∃ ds dvs, Binds K fd ps ds ∧ Vals dvs ds ∧ ∀ ι H, WsR Z ι H dws dvs
theorem fill_n (F : FunD K x qual params body scope [] kws f fd)
    (h : ∀ (kV doc pm : Value) (an : Option Addr) (cdv ct : Value) (us : List Value), us.length = ps.length → bindArgs (PySem.W.fnOf x qual params body scope .none kV doc pm an cdv ct) ⟨us, []⟩ = pure (ps.zip us)) : Fills K Z fd ps [] :=
  ⟨[], [], F.bindsN h, .nil, fun _ _ => .nil⟩
theorem fill_1 (F : FunD K x qual params body scope dvs kws f fd) (n j : Nat) (hd : dvs ≠ []) (hn : n + (dvs.length - j) = ps.length)
    (h : ∀ (T : Addr) (kV doc pm : Value) (an : Option Addr) (cdv ct : Value) (us its : List Value), us.length = n → its.length = dvs.length →
      ∃ k, bindArgs (PySem.W.fnOf x qual params body scope (.ref T) kV doc pm an cdv ct) ⟨us, []⟩ = seqItems? (.ref T) >>= k ∧ k (some its.toArray) = pure (ps.zip (us ++ its.drop j))) (hw : ∀ ι H, WsR Z ι H dws (dvs.drop j)) : Fills K Z fd ps dws := by
  obtain ⟨ds, h1, h2⟩ := F.binds1 n j hd hn h
  exact ⟨ds, _, h2, h1, hw⟩
theorem fill_0 (F : FunD K x qual params body scope [] kws f fd) (n : Nat) (hk : kws ≠ []) (hn : n + kws.length = ps.length)
    (h : ∀ (D : Addr) (doc pm : Value) (an : Option Addr) (cdv ct : Value) (us ks : List Value), us.length = n → ks.length = kws.length →
      KwChain D ((kws.map (·.1)).zip ks) (bindArgs (PySem.W.fnOf x qual params body scope .none (.ref D) doc pm an cdv ct) ⟨us, []⟩) (ps.zip (us ++ ks))) (hw : ∀ ι H, WsR Z ι H dws (kws.map (·.2))) : Fills K Z fd ps dws := by
  obtain ⟨ds, h1, h2⟩ := F.binds0 n hk hn h
  exact ⟨ds, _, h2, h1, hw⟩
/-- all positional ones and one keyword-only one are written -/
theorem kb1 (F : FunD K x qual params body scope [] kws f fd) (m : Nat) (y : Str)
    (h : ∀ (kV doc pm : Value) (an : Option Addr) (cdv ct : Value) (us : List Value) (u : Value), us.length = m → bindArgs (PySem.W.fnOf x qual params body scope .none kV doc pm an cdv ct) ⟨us, [(y, u)]⟩ = pure (ps.zip (us ++ [u]))) :
    ∀ (s : Shared) (us : List Value) (u : Value), K.In s.heap → us.length = m → BindsTo s fd ⟨us, [(y, u)]⟩ (ps.zip (us ++ [u])) := by
  obtain ⟨oc, od, dV, kV, doc, pm, an, cdv, ct, osl, rfl, lk, hcd, hD, hK⟩ := F.ex
  rcases hD with ⟨_, rfl⟩ | ⟨e, _⟩
  · exact fun s us u _ hl => .of_eq (h kV doc pm an cdv ct us u hl)
  · exact absurd rfl e
theorem FnAt.cal {d : He.DefD} (v : FnAt P w K mg base Z d ps n F) (hr : Room n A) (hb : ∀ fd, FunD K d.name d.qual d.params d.body d.scope (d.dvs K) (d.kws K) (He.fAd K d.at_) fd → Fills K Z fd ps dws) : Cal P w K mg base A Z F (He.fAd K d.at_) dws := by
  obtain ⟨fd, F, h⟩ := v
  obtain ⟨ds, dvs, b1, b2, b3⟩ := hb fd F
  exact ⟨n, fd, ps, ds, dvs, h, hr, b1, b2, b3⟩
theorem FnAt.calG {d : He.DefD} {x : Str} (v : FnAt P w K mg base Z d ps n F) (hx : mg x = some (.ref (He.fAd K d.at_))) (hr : Room n A) (hb : ∀ fd, FunD K d.name d.qual d.params d.body d.scope (d.dvs K) (d.kws K) (He.fAd K d.at_) fd → Fills K Z fd ps dws) : CalG P w K mg base A Z F x dws := by
  have v2 := v
  obtain ⟨fd, F', _⟩ := v2
  exact ⟨_, hx, F'.kp, FnAt.cal v hr hb⟩
theorem FnAt.calK {d : He.DefD} {x y : Str} {m : Nat} (v : FnAt P w K mg base Z d ps n F) (hx : mg x = some (.ref (He.fAd K d.at_))) (hr : Room n A) (hm : ps.length = m + 1) (hb : ∀ fd, FunD K d.name d.qual d.params d.body d.scope (d.dvs K) (d.kws K) (He.fAd K d.at_) fd → ∀ (s : Shared) (us : List Value) (u : Value), K.In s.heap → us.length = m → BindsTo s fd ⟨us, [(y, u)]⟩ (ps.zip (us ++ [u]))) : CalK P w K mg base A Z F x m y := by
  obtain ⟨fd, F', h⟩ := v
  exact ⟨_, n, fd, ps, hx, F'.kp, h, hr, hm, hb fd F'⟩
theorem FnAt.mak {d : He.DefD} {x : Str} {c : Nat} {kk : Cl} (v : FnAt P w K mg base Z d ps n (C1 kk.init)) (hc : G.cls c = some kk) (hx : mg x = some (.ref (Z.cls c))) (hk : Mk K (Z.cls c) (He.fAd K d.at_)) (hr : Room (n + 1) A) (hb : ∀ fd, FunD K d.name d.qual d.params d.body d.scope (d.dvs K) (d.kws K) (He.fAd K d.at_) fd → Binds K fd ps []) : MakOk P w K mg base A Z G C1 x c := by
  obtain ⟨fd, F', h⟩ := v
  exact ⟨kk, _, n, fd, ps, hc, hx, hk, h, hr, hb fd F'⟩
theorem con_int {x : Str} {i : Int} (hc : G.con x = some (.int i)) (hm : ∃ t, mg x = some (.int i t)) : ConOk mg Z G x := by
  obtain ⟨t, hm⟩ := hm
  exact ⟨_, .int i, _, hc, hm, ⟨t, rfl⟩, fun _ _ => .int i⟩
theorem con_str {x z : Str} (hc : G.con x = some (.str z)) (hm : ∃ t, mg x = some (.str z t)) : ConOk mg Z G x := by
  obtain ⟨t, hm⟩ := hm
  exact ⟨_, .str z, _, hc, hm, ⟨t, rfl⟩, fun _ _ => .str z⟩
theorem exOk_of {x : Str} (h : mg x = some (.ref (He.ga K x))) (c : (He.Fa.exc x).ok K = true) : ExOk K mg x (He.ga K x) := by
  obtain ⟨h1, h2, h3, h4⟩ := He.exc_ok c
  exact ⟨h, h1, h2, h3, h4⟩
theorem _root_.L2.Room.rd4 {k : Nat} {A : Around} (r : Room k A) : A.depth + 4 < recursionLimit := by have := r.dp; omega
end
/-! ### the end: the law's def is called where no repr is under way -/
abbrev tabOb : Obj := { cls := .none, data := .fields #[] }
abbrev scrOb (vs : List Value) : Obj := { cls := .type "list", data := .seq vs.toArray }
/-- what is tracked at first: the tables, the script -/
noncomputable def H0 (K : PySem.W.Frag) (T : List Addr) (a : Addr) (vs : List Value) (ns : List Int) : Hp := fun b =>
  if b ∈ T then some (.tbl #[]) else if b = a ∧ K.lookup a = none then some (.frz (scrOb vs) (.lst (ns.map V.int))) else none
structure Tb (K : PySem.W.Frag) (h : Heap) (p : Addr × Addr) : Prop where
  ob : h.get? p.2 = some tabOb
  out : K.lookup p.2 = none
  hd : PySem.W.CodeHd h p.1 p.2
section
variable {P : Program} {w : World} {K : PySem.W.Frag} {mg mb : Str → Option Value} {k : Nat} {fa a : Addr} {cs : List (Addr × Addr)} {fd : FuncData} {sp : Sp} {s1 : Shared} {vs : List Value} {ns : List Int}
theorem H0_in {T : List Addr} {b : Addr} {u : HO} (e : H0 K T a vs ns b = some u) : (b ∈ T ∧ u = .tbl #[]) ∨ (b = a ∧ K.lookup a = none ∧ u = .frz (scrOb vs) (.lst (ns.map V.int))) := by
  unfold H0 at e
  by_cases c : b ∈ T
  · rw [if_pos c] at e; cases e; exact .inl ⟨c, rfl⟩
  · rw [if_neg c] at e
    by_cases c2 : b = a ∧ K.lookup a = none
    · rw [if_pos c2] at e; cases e; exact .inr ⟨c2.1, c2.2, rfl⟩
    · rw [if_neg c2] at e; cases e
theorem callG (KX : K.In s1.heap) (hns : s1.heap.Ns mainGlobals mg) (hbn : s1.heap.Ns builtinsNs mb) (hbb : ∀ x : Str, x ≠ "__name__" → mb x = bootBuiltins x) (hlim : s1.heap.NoLimit) (hg : s1.gens = #[]) (hcs : ∀ p ∈ cs, Tb K s1.heap p)
    (hbm : ∃ (bm : Addr) (ob : Obj), mg "__builtins__" = some (.ref bm) ∧ bm ≠ builtinsNs ∧ s1.heap.get? bm = some ob ∧ ob.cls = .type "module" ∧ ob.dict = some builtinsNs ∧ ob.data = .plain)
    (ha : s1.heap.get? a = some (scrOb vs)) (hi : IntsAre vs ns) (hl : ns.length ≤ sizeLine) (hr : Room k callerA) (F : ∀ base : Heap, K.In base → base.Ns mainGlobals mg → (∀ p ∈ cs, LamX.TabB base mg p.1 p.2) → FnG P w K mg base k fa fd ["script"] sp)
    (hbind : ∀ (s : Shared) (u : Value), BindsTo s fd ⟨[u], []⟩ [("script", u)]) (hsp : ∀ H : Hp, (∀ p ∈ cs, H p.2 = some (.tbl #[])) → SqL K H a (ns.map V.int) → sp [.ref a] H (fun v _ => v = .bl true) fun _ _ _ => False) :
    codeAny (model P w) callerA (.call (.ref fa) ⟨[.ref a], []⟩) (fun r s' => r = .ok (.ret (.bool true)) ∧ OldK s1.heap s'.heap ∧ s'.os = s1.os ∧ AllBare s'.gens) s1 := by
  have rv := vals_ints hi
  have inT : ∀ {b : Addr}, b ∈ cs.map (·.2) → s1.heap.get? b = some tabOb := fun {b} z => by
    obtain ⟨q, hq, rfl⟩ := List.mem_map.mp z; exact (hcs q hq).ob
  have aT : a ∉ cs.map (·.2) := fun z => by have q := inT z; rw [ha] at q; cases q
  generalize hT : cs.map (·.2) = T at inT aT
  have mT : ∀ p ∈ cs, p.2 ∈ T := fun p hp => by rw [← hT]; exact List.mem_map.mpr ⟨p, hp, rfl⟩
  have tT : ∀ p ∈ cs, H0 K T a vs ns p.2 = some (.tbl #[]) := fun p hp => if_pos (mT p hp)
  generalize hH : H0 K T a vs ns = H at tT
  have Hin : ∀ {b : Addr} {u : HO}, H b = some u → (b ∈ T ∧ u = .tbl #[]) ∨ (b = a ∧ K.lookup a = none ∧ u = .frz (scrOb vs) (.lst (ns.map V.int))) := fun {b u} e => H0_in (by rw [hH]; exact e)
  have sq : SqL K H a (ns.map V.int) := by
    cases hk : K.lookup a with
    | none => exact .inl (.inr ⟨scrOb vs, by rw [← hH]; unfold H0; rw [if_neg aT, if_pos ⟨rfl, hk⟩]⟩)
    | some o =>
      have e := KX a o hk
      rw [ha] at e; cases e
      exact .inr ⟨_, vs.toArray, _, hk, rfl, rfl, rfl, by rw [List.size_toArray, hi.length]; exact hl, by simpa using rv⟩
  have hok : HOk P w H s1.heap := fun b u e => by
    rcases Hin e with ⟨c, rfl⟩ | ⟨rfl, _, rfl⟩
    · exact inT c
    · exact ⟨ha, by rw [List.length_map]; exact hl, vs, _, rv, ha⟩
  have free : ∀ {b : Addr} {o : Obj}, s1.heap.get? b = some o → (∀ xs n, o.data ≠ .seq xs n) → o.data ≠ .fields #[] → H b = none := fun {b o} e n1 n2 => by
    cases q : H b with
    | none => rfl
    | some u =>
      rcases Hin q with ⟨c, _⟩ | ⟨rfl, _, _⟩
      · rw [inT c] at e; cases e; exact absurd rfl n2
      · rw [ha] at e; cases e; exact absurd rfl (n1 _ _)
  have nsB : ∀ {b : Addr} {m : Str → Option Value}, s1.heap.Ns b m → (hidT s1.heap H).Ns b m := fun {b m} ⟨o, es, ep, e, d, r⟩ =>
    ⟨o, es, ep, hidT_get e (free e (fun xs n z => by rw [d] at z; cases z) fun z => by rw [d] at z; cases z), d, r⟩
  have KB : K.In (hidT s1.heap H) := fun b o e => hidT_get (KX b o e) (by
    cases q : H b with
    | none => rfl
    | some u =>
      rcases Hin q with ⟨c, _⟩ | ⟨rfl, c, _⟩
      · rw [← hT] at c
        obtain ⟨p, hp, rfl⟩ := List.mem_map.mp c
        rw [(hcs p hp).out] at e; cases e
      · rw [c] at e; cases e)
  have TB : ∀ p ∈ cs, LamX.TabB (hidT s1.heap H) mg p.1 p.2 := fun p hp => by
    have hob := (hcs p hp).ob
    obtain ⟨o, us, file, tf, flags, tg, inF, text, tt, e1, r1, r2, r3, r4⟩ := (hcs p hp).hd
    obtain ⟨bm, ob, b1, b2, b3, b4, b5, b6⟩ := hbm
    refine ⟨⟨o, us, file, tf, flags, tg, inF, text, tt, hidT_get e1 (free e1 (fun xs n z => by rw [r2] at z; cases z) fun z => by rw [r2] at z; cases z; simp at r3), r1, r2, r3, r4⟩, ⟨bm, ob, b1, b2, fun z => ?_, fun z => ?_, hidT_get b3 (free b3 (fun xs n z => by rw [b6] at z; cases z) fun z => by rw [b6] at z; cases z), b4, b5, b6⟩, fun z => ?_⟩
    · obtain ⟨o2, es, ep, e2, d2, _⟩ := hns
      rw [z, e2] at b3; cases b3; rw [d2] at b6; cases b6
    · rw [z, hob] at b3; cases b3; cases b6
    · obtain ⟨o2, es, ep, e2, d2, _⟩ := hns
      rw [z, hob] at e2; cases e2; cases d2
  have hMd : L2.Mod K mg (hidT s1.heap H) := ⟨KB, nsB hns, ⟨mb, nsB hbn, hbb⟩, let ⟨mc, z1, z2⟩ := hlim; ⟨mc, nsB z1, z2⟩⟩
  have e0 : Env0 P w K mg (hidT s1.heap H) callerA [] s1 H := ⟨rfl, hMd, fun b o e => of_hidT e, Nat.le_of_eq (hidT_size _ _), trivial, fun b hb => absurd (show b ∈ ([] : List Addr) from hb) (by simp), hok, .of_eq hg⟩
  refine codeAny_mono ((F _ KB (nsB hns) TB).go callerA [] s1 H ⟨[.ref a], []⟩ [.ref a] [.ref a] _ _ rfl hr e0 (hbind s1 (.ref a)) (.cons rfl .nil) (hsp H tT sq)) fun r s' q => ?_
  match r, q with
  | .error e, q =>
    obtain ⟨_, _, _, _, _, _, _, _, _, _, _, _, z⟩ := q
    exact z.elim
  | .ok .next, q => exact False.elim q
  | .ok .brk, q => exact False.elim q
  | .ok .cont, q => exact False.elim q
  | .ok (.ret u), q =>
    obtain ⟨v, H', os, bare, un, hok2, rr, qv⟩ := q
    obtain rfl : v = .bl true := qv
    obtain rfl : u = Value.bool true := rr
    have old : ∀ b o, b ∉ T → s1.heap.get? b = some o → s'.heap.get? b = some o := fun b o nb e => by
      cases z : H b with
      | none => exact un.keep b o e z (fun y => absurd (show b ∈ ([] : List Addr) from y) (by simp)) (by simp)
      | some ho =>
        rcases Hin z with ⟨c, _⟩ | ⟨rfl, _, rfl⟩
        · exact absurd c nb
        · have z2 := un.frzs _ _ _ z
          have e2 := (hok2 _ _ z2).1
          rw [ha] at e; cases e; exact e2
    have tabs : ∀ p ∈ cs, ∃ more : Array Value, s'.heap.get? p.2 = some { cls := .none, data := .fields more } := fun p hp => by
      obtain ⟨more, z⟩ := un.tbls p.2 #[] (tT p hp); exact ⟨_, hok2 p.2 _ z⟩
    refine ⟨rfl, ⟨fun b o e => ?_, fun b o e => ?_⟩, os, bare⟩
    · by_cases hb : b ∈ T
      · rw [← hT] at hb
        obtain ⟨p, hp, rfl⟩ := List.mem_map.mp hb
        obtain ⟨more, hm⟩ := tabs p hp
        have hob := (hcs p hp).ob
        rw [hob] at e; cases e
        exact .inr (.inl ⟨((hcs p hp).hd.tab hob).isCodeTable, rfl, #[], more, rfl, by rw [Array.empty_append]; exact hm⟩)
      · exact .inl (old b o hb e)
    · by_cases hb : b ∈ T
      · rw [← hT] at hb
        obtain ⟨p, hp, rfl⟩ := List.mem_map.mp hb
        obtain ⟨more, hm⟩ := tabs p hp
        exact ⟨_, hm⟩
      · exact ⟨o, old b o hb e⟩
/-- what is asked of the law's def at the head's heap -/
def LawG (l : PySem.W.OpenLaw) (w : World) (K : PySem.W.Frag) (k n : Nat) (mg : Str → Option Value) (fa : Addr) (h : Heap) : Prop :=
  ∃ (fd : FuncData) (cs : List (Addr × Addr)) (sp : Sp), (∀ p ∈ cs, Tb K h p) ∧ (∀ (s : Shared) (u : Value), BindsTo s fd ⟨[u], []⟩ [("script", u)]) ∧
    (∀ (H : Hp) (a : Addr) (ns : List Int), ns.length ≤ n → (∀ z ∈ ns, Builtin.Int.intBits z ≤ 1048576) → (∀ p ∈ cs, H p.2 = some (.tbl #[])) → SqL K H a (ns.map V.int) → sp [.ref a] H (fun v _ => v = .bl true) fun _ _ _ => False) ∧
    ∀ base : Heap, K.In base → base.Ns mainGlobals mg → (∀ p ∈ cs, LamX.TabB base mg p.1 p.2) → FnG l.prog w K mg base k fa fd ["script"] sp
theorem walkG {l : PySem.W.OpenLaw} {n k : Nat} {q : Program} {loose : List Str} {XP : (Str → Option Value) → Heap → Prop} {YP : World → Heap → Prop} {d : DefRec} (hn : l.most = some n) (hn2 : n ≤ sizeLine) (hdf : d.params.defaults = []) (hr : Room k callerA)
    (F : ∀ (w : World) (mg : Str → Option Value) (fa : Addr) (h : Heap), YP w h → h.Ns mainGlobals mg → mg d.name = some (.ref fa) → ∃ K : PySem.W.Frag, K.In h ∧ LawG l w K k n mg fa h) : PySem.W.WalkO q loose XP YP l.row.toRowW d [] (fun f vs => PySem.call f vs) :=
  Att.attach_callB hn hdf fun w s0 s1 mg mb fa o pm cd doc a vs ns G Y ho hd hcd hmg hobj hints hlen hbits hg => by
    obtain ⟨K, KX, fd, cs, sp, hcs, hb, hsp, hF⟩ := F w mg fa _ Y G.T.g hmg
    exact callG KX G.T.g G.T.b G.T.builtins G.T.nolimit hg hcs G.T.bmain hobj hints (Nat.le_trans hlen hn2) hr hF hb fun H hH hS => hsp H a ns hlen hbits hH hS
/-- the end of a law -/
theorem law_at {l : PySem.W.OpenLaw} {mg : Str → Option Value} {fa : List He.Fa} {fn : List He.DefD} {ts : List He.Tab} {tf : List He.Defn} {ex : PySem.W.Frag → Bool} {h : Heap} {fa' : Addr} {kk n : Nat} {Fc : List Int → List Wv → Mem → Out Wv} {Zs : List Int → Zt} (KX : K.In h) (c : He.SaysX fa fn ts tf ex w h K) (hm : ∀ S : List Int, S.length ≤ n → (∀ z ∈ S, Builtin.Int.intBits z ≤ 1048576) → ∃ M, Fc S [.scr] [] = .ok (.bl true) M) (hZ : ∀ S, (Zs S).S = S ∧ (Zs S).K = K ∧ ∀ p ∈ (Zs S).T, p.1 ∈ tf.map fun q => (He.cT K q).2)
    (hb : ∀ (s : Shared) (v : Value), BindsTo s fd ⟨[v], []⟩ [("script", v)])
    (hF : ∀ base : Heap, K.In base → base.Ns mainGlobals mg → (∀ p ∈ tf.map (He.cT K), LamX.TabB base mg p.1 p.2) → ∀ S : List Int, FnG l.prog w K mg base kk fa' fd ["script"] (spL (Zs S) (Fc S))) :
    LawG l w K kk n mg fa' h := by
  refine ⟨fd, tf.map (He.cT K), fun vs H Q E => ∃ S, spL (Zs S) (Fc S) vs H Q E, fun p hp => ?_, hb, fun H a ns hl hbits hT hS => ?_, fun base KB GB TB => ⟨fun vs H Q E ⟨S, q⟩ => (hF base KB GB TB S).ln vs H Q E q, fun A outer s H args us vs Q E hg hr e0 bb rv ⟨S, q⟩ => (hF base KB GB TB S).go A outer s H args us vs Q E hg hr e0 bb rv q⟩⟩
  · obtain ⟨q, h1, rfl⟩ := List.mem_map.mp hp
    exact ⟨c.empty q h1, c.out q h1, PySem.W.codeHd_of_K KX (c.hd q h1)⟩
  · obtain ⟨h1, h2, h3⟩ := hZ ns
    refine ⟨ns, a, rfl, by rw [h1, h2]; exact hS, fun p hp => ?_, hm ns hl hbits, fun H' => rfl⟩
    obtain ⟨q, g1, g2⟩ := List.mem_map.mp (h3 p hp)
    have z := hT (He.cT K q) (List.mem_map.mpr ⟨q, g1, rfl⟩)
    rw [g2] at z
    exact LamX.TabS.nil z
end
end MP
end
section
set_option Elab.async false
set_option linter.all false
set_option maxRecDepth 100000
/-! MP21: a dict display of two pairs; sorted(d.values(), key=lambda x: ..). -/
namespace MP
open PySem PySem.Spec PyProof.Rows L2
/-- a view of a dict's values -/
def vwO (p d : Addr) : HO := .ext fun h => h.get? p = some { cls := .type "dict_values", data := .fields #[.ref d] }
section
variable {X : Cx} {Z : Zt} {Wx : Wish} {G : Pg} {C C1 : Nat → List Wv → Mem → Out Wv} {a b c e : Expr} {ea : Ex} {pos p p2 p3 kpos apos mpos : Pos}
variable {pins : List (Addr × Obj)} {σ : L2.St} {H H1 : Hp} {s : Shared} {ι ι1 : List Addr} {M : Mem} {sw : Sw}
def tVw (Z : Zt) (Wx : Wish) (G : Pg) (C C1 : Nat → List Wv → Mem → Out Wv) (ea : Ex) : TE := fun σ H Q => TEx Z Wx G C C1 ea σ H fun v H1 => ∃ d, v = .ref d ∧ (∃ z o es ep, H1 d = some (lkO z d o) ∧ o.ExactDict ∧ o.data = .dict es ep ∧ (d == sysModules) = false) ∧ ∀ p, H1 p = none → Q (.ref p) (upd H1 p (vwO p d))
theorem pe_vals (ha : PE X a (TEx Z Wx G C C1 ea)) (hbase : attributeBase a "values" X.env (eval a X.env) = eval a X.env := by rfl) (hline : (apos.endLine == mpos.line) = true := by rfl) : PE X (.Call (.Attribute a "values" apos) [] [] mpos) (tVw Z Wx G C C1 ea) := by
  refine ⟨fun pins s σ H Q I h => ?_⟩
  refine wpAny_Call_method (T := "dict") (id := "dict.values") hbase rfl hline F.plainAttrs_dict F.slot_dict_values F.type_dict_values (thn (ha.run pins s σ H _ I h) fun u s1 ⟨x, H1, I1, rx, d, ex, ⟨z, o, es, ep, g1, g2, g3, g4⟩, q⟩ => ?_)
  subst ex
  cases rx
  have hg := MP.Inv.dctO I1 g1
  have hm : s1.heap.DictRaw d es ep := ⟨o, hg, g2, g3⟩
  refine ⟨hm.typeIs, fun b q => by cases q; exact ⟨o, hg, g2.2.1⟩, ?_⟩
  have eg : (s1.heap.push { cls := .type "dict_values", data := .fields #[.ref d] }).get? s1.heap.objs.size = some { cls := .type "dict_values", data := .fields #[.ref d] } := Heap.get?_push_size _ rfl
  have fin : EP X pins σ Q (.ref s1.heap.objs.size) { s1 with heap := s1.heap.push { cls := .type "dict_values", data := .fields #[.ref d] } } :=
    ⟨.ref s1.heap.objs.size, _, I1.laid (a := s1.heap.objs.size) (o := vwO s1.heap.objs.size d) (t' := s1.toks) (fun _ _ q => Heap.get?_push_of_some _ q) (Nat.le_refl _) ⟨eg, ⟨_, eg⟩, fun h1 h2 q k => k _ q⟩, rfl, q _ (I1.hok.fresh (Nat.le_refl _))⟩
  show wpAny _ _ (callWith mpos (.builtin "dict.values") [.ref d] [] []) _ X.xe s1
  exact method_meetsIn F.slot_dict_values F.entry_dict_values rfl (PySem.evalArgs_none ⟨rfl, hm.typeIs, F.args_dict_values_1 _, _, meets_dict_values_raw d g4, ⟨es, ep, hm⟩, fin⟩)
theorem valsOf_at {w : Wv} {v : V} {r : List Wv} (wr : WR Z ι H w v) (e : valsOf w M = some r) : ∃ l a z kvs, w = .ref l ∧ v = .ref a ∧ ι[l]? = some a ∧ M[l]? = some (.dct z kvs) ∧ r = kvs.map (·.2) := by
  cases wr with
  | ref hl =>
    rename_i l a
    simp only [valsOf] at e
    split at e
    · rename_i z kvs hM
      cases e
      exact ⟨l, a, _, _, rfl, rfl, hl, hM, rfl⟩
    · cases e
  | _ => cases e
theorem e_sortv (k : Bx X Z Wx G) (lm : LmOk X Z) (hroom : X.A.depth + 4 < recursionLimit) {ke : Ke} {x : Str} {params : Arguments} {body : Expr} {scope : Scope} {lpos : Pos} (hm : X.mg "sorted" = none) (ha : PE X a (TEx Z Wx G C C1 ea)) (kb : KB x scope body ke)
    (hbase : attributeBase a "values" X.env (eval a X.env) = eval a X.env := by rfl) (hline : (apos.endLine == mpos.line) = true := by rfl)
    (hdef : defaultsOf params X.env = ([], []) := by rfl) (hfree : scope.names.all (fun y => !decide (y.2 = .free) && !decide (y.2 = .cell)) = true := by kernel_rfl) (hco : scope.isCoroutine = false := by rfl) (hgen : scope.isGenerator = false := by rfl) (hkind : scope.kind = .function := by rfl) (hx : scope.names.lookup x = some .local := by rfl)
    (hbind : ∀ q pm c' ctv u, bindArgs (PySem.W.kla_fn "<lambda>" q params body scope [] pm (.ref c') ctv) ⟨[u], []⟩ = pure [(x, u)] := by intros; rfl)
    (hg : gloB X.env "sorted" = true := by kernel_rfl) (hs : starEach [Expr.Call (.Attribute a "values" apos) [] [] mpos] X.env = (false, eval (Expr.Call (.Attribute a "values" apos) [] [] mpos) X.env) :: starEach [] X.env := by rfl)
    (he : backTo pos (starEach [Expr.Call (.Attribute a "values" apos) [] [] mpos] X.env) = (false, eval (Expr.Call (.Attribute a "values" apos) [] [] mpos) X.env) :: backTo pos (starEach [] X.env) := by rfl) (hpl : (backTo pos (starEach [Expr.Call (.Attribute a "values" apos) [] [] mpos] X.env)).any (·.1) = false := by rfl)
    (hall : (backToKw pos (keywordEach [⟨some "key", .Lambda params body scope lpos, kpos⟩] X.env)).all (·.1.isSome) = true := by rfl) (hnone : (backToKw pos (keywordEach [⟨some "key", .Lambda params body scope lpos, kpos⟩] X.env)).any (·.1.isNone) = false := by rfl)
    (hks : (backToKw pos (keywordEach [⟨some "key", .Lambda params body scope lpos, kpos⟩] X.env)).filterMap (·.1) = [Str.ofString "key"] := by rfl) :
    PE X (.Call (.Name "sorted" p) [.Call (.Attribute a "values" apos) [] [] mpos] [⟨some "key", .Lambda params body scope lpos, kpos⟩] pos) (TEx Z Wx G C C1 (.sortv ea ke)) := by
  obtain ⟨h1, h2, h3⟩ := gloB_ok hg
  obtain ⟨c, P, TB, hcode, hmT, huT⟩ := lm.ex
  refine ⟨fun pins s σ H Q I ⟨ι, sw, M, sr, R, h⟩ => ?_⟩
  simp only [evE] at h
  refine wpAny_Call_Name_kw (ld_blt I h1 hm (by rfl) ?_ h3 h2)
  refine PyProof.Rows.callWith_kw (thn ((pa_cons (pe_vals ha hbase hline) pa_nil hs).run pos pins s σ H (fun vs H1 => ∃ (p d : Addr) (H0 : Hp) (ι1 : List Addr) (M1 : Mem) (l : Nat) (z : Bool) (kvs : List (Wv × Wv)), vs = [V.ref p] ∧ H1 = upd H0 p (vwO p d) ∧ H0 p = none ∧ RM Z ι1 M1 H0 ∧ ι1[l]? = some d ∧ M1[l]? = some (.dct z kvs) ∧ rOut Z ι1 H0 (newL ((mapO (keyOf G ke M1) (kvs.map (·.2))).bind fun ds => sortBy ds (kvs.map (·.2))) M1) Q) I
    (tE.seqE sr R h fun w M1 v H1 ι1 e1 R1 q1 s1 h1 => by
      have h1' := (prim_newL _ _).out h1
      obtain ⟨out, e, hz, _⟩ := newL_ok h1'
      obtain ⟨zs, ez, e⟩ := Option.bind_eq_some_iff.mp e
      obtain ⟨l, d, z, kvs, rfl, rfl, hl, hM, rfl⟩ := valsOf_at q1 ez
      obtain ⟨o, es, ep, g1, g2, g3, g4, _⟩ := R1.ob l _ d hM hl
      refine ⟨d, rfl, ⟨z, o, es, ep, g1, g2, g3, g4⟩, fun p hp => ?_⟩
      rw [ez] at h1'
      exact ⟨p, d, H1, ι1, M1, l, z, kvs, rfl, rfl, hp, R1, hl, hM, h1'⟩)) fun us s1 ⟨vs, H1, I1, r1, p, d, H0, ι1, M1, l, z, kvs, ev, eH, hp, R1, hl, hM, h4⟩ => ?_) he hpl hall hnone
  subst ev eH
  obtain ⟨u, rfl, ru⟩ := vals1 r1
  show wpAny _ _ (evalAll [do let v ← eval (.Lambda params body scope lpos) X.env; standAt pos; pure v]) _ _ s1
  have nofree : ∀ y ∈ scope.names, y.2 ≠ .free ∧ y.2 ≠ .cell := fun y hy => by
    rw [List.all_eq_true] at hfree
    have := hfree y hy
    rw [Bool.and_eq_true] at this
    exact ⟨by simpa using this.1, by simpa using this.2⟩
  have clo : cloFrom X.env.cells scope.names [] = [] := by
    have go : ∀ (l : List (Str × NameKind)), (∀ y ∈ l, y.2 ≠ .free) → cloFrom X.env.cells l [] = [] := by
      intro l
      induction l with
      | nil => intro _; rfl
      | cons y ys ih =>
        intro hy
        obtain ⟨n, kd⟩ := y
        have h0 := hy (n, kd) List.mem_cons_self
        have := ih fun z hz => hy z (List.mem_cons_of_mem _ hz)
        cases kd <;> first | exact absurd rfl h0 | exact this
    exact go _ fun y hy => (nofree y hy).1
  have up : ∀ b o, H0 b = some o → upd H0 p (vwO p d) b = some o := fun b o q => by
    rw [upd_ne (fun z => by rw [z, hp] at q; cases q)]
    exact q
  have tb : LamX.Tabs Z.T (upd H0 p (vwO p d)) := fun q hq => (R1.tab q hq).ext up
  refine wpAny_evalAll_cons (wpAny_bind (LamX.lam_make2 I1 TB hcode hmT huT tb hdef (fun y hy e => absurd e (nofree y hy).1) fun f c' pm ctv H2 s2 I2 x2 t2 of hfn hfr hc => wpAny_bind (wpAny_standAt (wpAny_pure (wpAny_evalAll_nil ?_)))))
  rw [clo] at of
  rw [hks]
  show wpAny _ _ (call (.builtin "sorted") [u] [(Str.ofString "key", .ref f)]) _ _ s2
  obtain ⟨x3, R3⟩ := rm_lam R1 ((LamX.ExtN.of up).trans x2) t2
  obtain ⟨out, e, hz, h5⟩ := newL_ok h4
  obtain ⟨ds, e2, e3⟩ := Option.bind_eq_some_iff.mp e
  cases ru
  have hv : s2.heap.get? p = some { cls := .type "dict_values", data := .fields #[.ref d] } := (I2.hok p _ (x2 p _ upd_same (fun ps z => by cases z))).1
  obtain ⟨es', ep, d1, d2, d3, d4⟩ := DctR.raw I2 (R3.ob _ _ _ hM hl)
  refine PyProof.Rows.call_function_entry_kw kind_sorted plain_sorted entry_sorted (PyProof.Rows.ksk_s1 _ _) ?_
  unfold Builtin.«sorted»
  refine wpAny_bind (m := checkCount "sorted" 1 1 _) (wpAny_pure ?_)
  refine wpAny_bind (PySem.W.kdu_collect (A := X.A.in1) (KdlSrc.rawValues (r := p)) (I2.ok.hd k.calm) ⟨⟨_, hv, rfl, rfl⟩, d1⟩ d3 fun h' tk acc hk hacc => ?_)
  obtain ⟨vs, v1, v2⟩ := vals_items d4 hacc
  have hll : acc.toList.length ≤ sizeLine := by rw [Array.length_toList, hacc.1]; exact d3
  refine wpAny_bind (wpAny_newList ?_ hll)
  have I0 : L2.Inv X pins σ H2 { s2 with heap := h', toks := tk } := I2.kept (t' := tk) hk
  obtain ⟨bs, b1, b2, b3, b4⟩ := mapO_each k I0 R3 v1 v2 e2
  obtain ⟨a1, a2, a3, a4⟩ := sortBy_tri (bs := bs) (out := out) (by rw [b1, b2]; exact e3)
  have hlen : bs.length = acc.toList.length := by rw [← b4.length]
  obtain ⟨⟨oc, vs', tt, hoc, hdc, hvc⟩, _, _⟩ := I2.hok c' _ hc
  have lim : s2.heap.NoLimit := I2.nolimit
  have ho : (h'.push { cls := .type "list", data := .seq acc.toList.toArray }).get? h'.objs.size = some (seqObj "list" acc.toList.toArray 0) := Heap.get?_push_size _ rfl
  have kp0 : ∀ (g : Heap), PySem.W.KeepsBut h'.objs.size (h'.push { cls := .type "list", data := .seq acc.toList.toArray }) g → ∀ b o, h'.get? b = some o → g.get? b = some o := fun g kp b o q => kp b o (Nat.ne_of_lt (Heap.lt_size q)) (Heap.get?_push_of_some _ q)
  refine wpAny_bind (wpAny_holding (PySem.W.list_sort_key_data (s := { s2 with heap := h'.push { cls := .type "list", data := .seq acc.toList.toArray }, toks := tk }) (A := X.A.in1) (fun b : Tri => b.1) ho b4 (alikeAll_of a1) (sortable_of a2) (by rw [hlen]; exact hll) (fun b hb => by
      have := depth_cap k.toXOk a3 b hb
      show X.A.units + 1 + 1 + _ < _
      omega) (PyProof.Rows.ksk_l1 _ _) (PyProof.Rows.ksk_t1 f _)
    (fun v b hR hb h tk2 kp => ?_) fun o cc h2 tk2 kp hat hol eo => ?_))
  · obtain ⟨hrel, D, hD, kd⟩ := hR
    have kk : ∀ b o, s2.heap.get? b = some o → h.get? b = some o := fun b o q => kp0 h kp b o (hk b o q)
    exact lam_turn (s := { s2 with heap := h, toks := tk2 }) (by show X.A.depth < recursionLimit; omega) (kk _ _ of) ⟨c', oc, vs', tt, rfl, kk _ _ hoc, hdc, hvc⟩ (lim.keeps kk) hco hgen hkind (fun y hy => (nofree y hy).2) hx (hbind _ _ _ _ _) kb (PyProof.Rows.Reads.keeps (kp0 h kp) hD) kd
  · have eo2 : W.EachIs (fun u (b : Tri) => RelV b.2.2 u) o (bs.mergeSort (W.dataLe false fun b : Tri => b.1)) := eo.mono fun u b hh => hh.1
    have ww : WsR Z ι1 H2 out ((bs.mergeSort (W.dataLe false fun b : Tri => b.1)).map (·.2.2)) := by
      rw [a4]
      exact ws_sorted fun b hb => b3 b ((List.mergeSort_perm _ _).mem_iff.mp hb)
    have h6 : rOut Z ι1 H2 (.ok (.ref M1.length) (M1 ++ [.lst out])) Q := fun v H' ι' y R4 q4 => h5 v H' ι' (x3.trans y) R4 q4
    refine wpAny_pure ⟨_, rfl, .ref _, _, I0.laid (t' := tk2) (a := h'.objs.size) (fun b ob q => kp0 h2 kp b ob q) (Nat.le_refl _) (show ObjOk X.prog X.w _ _ _ (.lst ((bs.mergeSort (W.dataLe false fun b : Tri => b.1)).map (·.2.2))) from ⟨by rw [← ww.length]; exact hz, o, cc, each_vals eo2, hat⟩), rfl, h6.lst R3 ww (I0.hok.fresh (Nat.le_refl _))⟩
theorem e_dict2 (k : Bx X Z Wx G) {k1 k2 : Str} {v1 v2 : Int} {j1 j2 j3 j4 : Nat} {q1 q2 q3 q4 : Pos} :
    PE X (.Dict [some (.Constant (.str k1) j1 q1), some (.Constant (.str k2) j2 q2)] [.Constant (.int v1) j3 q3, .Constant (.int v2) j4 q4] pos) (TEx Z Wx G C C1 (.dict2 k1 v1 k2 v2)) := by
  refine ⟨fun pins s σ H Q I ⟨ι, sw, M, sr, R, h⟩ => ?_⟩
  simp only [evE] at h
  have h := (show Prim (Out.chk (decide (k1 ≠ k2)) (.ok (.ref M.length) (M ++ [.dct false [(.str k1, .int v1), (.str k2, .int v2)]]))) from Prim.ok.chk).out h
  obtain ⟨c, h⟩ := rOut.chk h
  have hne : k1 ≠ k2 := of_decide_eq_true c
  refine wpAny_Dict_pairs (knd := mixKind X.prog X.w) (pairs := [(eval (.Constant (.str k1) j1 q1) X.env, do let x ← eval (.Constant (.int v1) j3 q3) X.env; standAt pos; pure x), (eval (.Constant (.str k2) j2 q2) X.env, do let x ← eval (.Constant (.int v2) j4 q4) X.env; standAt pos; pure x)]) rfl (by simp) (by simp) ?_
  refine evalPairs_cons (wpAny_Constant_str (wpAny_bind (wpAny_Constant_int (wpAny_bind (wpAny_standAt (wpAny_pure ?_))))))
  refine evalPairs_cons (wpAny_Constant_str (wpAny_bind (wpAny_Constant_int (wpAny_bind (wpAny_standAt (wpAny_pure ?_))))))
  have hp : H s.heap.objs.size = none := I.hok.fresh (Nat.le_refl _)
  refine evalPairs_nil ⟨[(.inr k1, .int v1 (s.toks + 1)), (.inr k2, .int v2 (s.toks + 1 + 1 + 1))], ⟨kV_is (k := .inr k1) ⟨_, rfl⟩, rfl, kV_is (k := .inr k2) ⟨_, rfl⟩, rfl, trivial⟩, ⟨_, #[], 0, Heap.get?_push_size _ rfl, ⟨rfl, rfl, rfl⟩, rfl, fun e he => by simp at he, .nil, List.nodup_nil⟩, fun h' hd hs => ?_⟩
  obtain ⟨o', es', ep', e1, e2, e3, e4, e5, e6⟩ := hd
  refine ⟨.ref s.heap.objs.size, _, I.laid (a := s.heap.objs.size) (o := DctO s.heap.objs.size o') (fun b u q => hs.extBut b u (Nat.ne_of_lt (Heap.lt_size q)) (Heap.get?_push_of_some _ q)) (Nat.le_refl _) (DctR.ok_new e1), rfl, ?_⟩
  have ex := Ext.alloc (ho := DctO s.heap.objs.size o') ι hp
  refine h (.ref s.heap.objs.size) _ (ι ++ [s.heap.objs.size]) ex (R.alloc hp ?_) (.ref (snoc_ix R _))
  have hn2 : ¬ (Wv.str k1 = Wv.str k2) := fun z => hne (Wv.str.inj z)
  have ep : dput (dput [] (.str k1) (.int v1)) (.str k2) (.int v2) = [(.str k1, .int v1), (.str k2, .int v2)] := by
    simp only [dput, if_neg hn2]
  refine ⟨o', es', ep', upd_same, e2, e3, beq_eq_false_iff_ne.mpr (Ne.symm (Nat.ne_of_lt I.big)), by show 2 ≤ sizeLine; decide, ?_, .inl rfl, ?_⟩
  · simp [hne]
  · refine pairs_back (P := X.prog) k.w.symm (fun e he => e4 e (Array.mem_toList_iff.mp he)) e5 ?_
    rw [← ep]
    exact PvR.put (k := .str k2) (v := .int v2) (x := .int v2) rfl (by simp [dput]) (PvR.put (k := .str k1) (v := .int v1) (x := .int v1) rfl List.nodup_nil .nil ⟨_, rfl⟩ (.int _)) ⟨_, rfl⟩ (.int _)
end
section
variable {X : Cx} {Z : Zt} {Wx : Wish} {G : Pg} {C C1 : Nat → List Wv → Mem → Out Wv} {fu : Nat} {a b c : Expr} {el : El} {pos : Pos}
/-- a, b, c = x, y, z -/
theorem s_par3 (k : Bx X Z Wx G) (i j l : Nat) {x y z : Str} {px py pz pt pt2 : Pos} {kt k2 : Nat} (ha : PA X [a, b, c] (TAx Z Wx G C C1 el)) (hi : stoB X.N X.env.scope X.fn i x = true := by kernel_rfl) (hj : stoB X.N X.env.scope X.fn j y = true := by kernel_rfl) (hl : stoB X.N X.env.scope X.fn l z = true := by kernel_rfl) (hij : i ≠ j := by decide) (hil : i ≠ l := by decide) (hjl : j ≠ l := by decide)
    (hx : X.env.scope.names.lookup x = some .local := by rfl) (hy : X.env.scope.names.lookup y = some .local := by rfl) (hz : X.env.scope.names.lookup z = some .local := by rfl)
    (hw : swappedStores [.Tuple [.Name x px, .Name y py, .Name z pz] kt pt] (.Tuple [a, b, c] k2 pt2) X.env = pure (some [x, y, z]) := by rfl)
    (hs : swapsWithSole [.Tuple [.Name x px, .Name y py, .Name z pz] kt pt] (.Tuple [a, b, c] k2 pt2) pos.line X.env = pure false := by rfl) :
    PS X (.Assign [.Tuple [.Name x px, .Name y py, .Name z pz] kt pt] (.Tuple [a, b, c] k2 pt2) pos) (TSx Z Wx G C C1 fu (.asg (.tup [i, j, l]) (.tup el))) := by
  refine (ps_par3 k.calm k.nd (stoB_ok hi).1 (stoB_ok hj).1 (stoB_ok hl).1 hij hil hjl hx hy hz ha hw hs).weak fun D σ H ⟨ι, sw, M, sr, R, h⟩ => ⟨ι, sw, M, sr, R, ?_⟩
  simp only [evS, evE] at h
  cases e : evL G C C1 el sw M with
  | bad => rw [e] at h; exact h
  | exc q M1 => rw [e] at h; exact fun H' ι' x R => h σ H' ι' x R
  | ok ws M1 =>
    rw [e] at h
    simp only [Out.bind_ok] at h
    intro vs H' ι' x1 R1 wr
    cases hn : lenOk ws.length with
    | false => rw [hn] at h; exact False.elim h
    | true =>
      rw [hn] at h
      have h : sOut Z Wx ι H ((Out.ofO (tgW (.tup [i, j, l]) (.tup ws) sw) M1).bind fun σ M => .ok (.nx, σ) M) D := h
      obtain ⟨τ, et, h⟩ := h.ofOb
      match ws, vs, wr, et with
      | [_, _, _], _, .cons w1 (.cons w2 (.cons w3 .nil)), et =>
        simp only [tgW, setAll] at et
        cases et
        exact ⟨_, _, _, rfl, h _ H' ι' x1 R1 ((((sr.mono x1.le).set w1 i).set w2 j).set w3 l)⟩
      | [], _, .nil, et => simp [tgW, setAll] at et
      | [_], _, .cons _ .nil, et => simp [tgW, setAll] at et
      | [_, _], _, .cons _ (.cons _ .nil), et => simp [tgW, setAll] at et
      | _ :: _ :: _ :: _ :: _, _, .cons _ (.cons _ (.cons _ (.cons _ _))), et => simp [tgW, setAll] at et
end
end MP
end
section
set_option Elab.async false
set_option linter.all false
set_option maxRecDepth 100000
/-! MP22: max(xs, key=lambda x: (x[1], x)). -/
namespace MP
open PySem PySem.Spec PyProof.Rows L2
/-- the key's tuple, made anew -/
def tupO (n : Int) (t : Nat) (u : Value) : Obj := { cls := .type "tuple", data := .seq #[.int n t, u] }
theorem day_turn {P : Program} {w : World} {A : Around} {s : Shared} {f c' : Addr} {q x : Str} {params : Arguments} {scope : Scope} {pm ctv u : Value} {d0 : PyData} {n : Int} {r : List PyData} {E : Value → Shared → Prop} {j j2 : Nat} {p1 p2 p3 p4 pos : Pos} (hroom : A.depth < recursionLimit)
    (ho : s.heap.get? f = some (PySem.W.kla_obj "<lambda>" q params (.Tuple [.Subscript (.Name x p1) (.Constant (.int 1) j p2) p3, .Name x p4] j2 pos) scope [] pm c' ctv)) (hcd : s.heap.CodeRec (.ref c') q) (hlim : s.heap.NoLimit) (hco : scope.isCoroutine = false) (hgen : scope.isGenerator = false) (hkind : scope.kind = .function) (hcell : ∀ y ∈ scope.names, y.2 ≠ .cell) (hx : scope.names.lookup x = some .local)
    (hbind : bindArgs (PySem.W.kla_fn "<lambda>" q params (.Tuple [.Subscript (.Name x p1) (.Constant (.int 1) j p2) p3, .Name x p4] j2 pos) scope [] pm (.ref c') ctv) ⟨[u], []⟩ = pure [(x, u)]) (hr : Reads s.heap u (.tuple (d0 :: .int n :: r)) []) (hd : (x == ("__debug__" : Str)) = false)
    (h1 : ∀ env, starEach [.Subscript (.Name x p1) (.Constant (.int 1) j p2) p3, .Name x p4] env = [(false, eval (.Subscript (.Name x p1) (.Constant (.int 1) j p2) p3) env), (false, eval (.Name x p4) env)]) :
    wpAny (model P w) A (call (.ref f) [u]) (fun k s' => ∃ h' tk t a, s' = { s with heap := h', toks := tk } ∧ (∀ b o, s.heap.get? b = some o → h'.get? b = some o) ∧ k = .ref a ∧ s.heap.get? a = none ∧ h'.get? a = some (tupO n t u)) E s := by
  refine wpAny_call (PySem.W.kla_callFunE hroom ho rfl hco hgen rfl hcd ?_)
  rw [hbind]
  refine wpAny_pure (wpAny_newFunctionEnv hcell (fun y hy => by rw [List.mem_singleton.mp hy]; exact hx) (fun h₁ hns hsb => ⟨hlim.fresh _ hsb, ?_⟩) hkind)
  have kp : ∀ b o, s.heap.get? b = some o → h₁.get? b = some o := fun b o e => hsb.extBut b o (Nat.ne_of_lt (Heap.lt_size e)) (Heap.get?_push_of_some _ e)
  refine PySem.W.kla_codeExpr ?_
  refine wpAny_Tuple_spliced ?_
  rw [h1]
  refine Calls.spliced_cons ?_
  have k1 := kb_sub (x := x) (scope := scope) (k := .v) (e := .Name x p1) 1 (j := j) (pos := p3) (p := p2) (by decide) (kb_v hd)
  refine k1 P w _ _ _ { s with heap := h₁, toks := s.toks + [(x, u)].length } _ u (.tuple (d0 :: .int n :: r)) (.int n) _ rfl hkind hx hns (by simp) (PyProof.Rows.Reads.keeps kp hr) rfl fun h' tk r1 kp' rr => ?_
  cases rr with
  | int i t =>
  refine Calls.spliced_cons ?_
  refine wpAny_Name (wpAny_loadName_local hkind hx (hns.keeps kp') (show List.lookup x [(x, u)].reverse = some u by simp) ?_) hd
  refine Calls.spliced_nil ⟨by show 2 ≤ sizeLine; decide, ?_⟩
  refine ⟨_, _, t, h'.objs.size, rfl, fun b o e => Heap.get?_push_of_some _ (kp' b o (kp b o e)), rfl, ?_, Heap.get?_push_size _ rfl⟩
  cases e : s.heap.get? h'.objs.size with
  | none => rfl
  | some o => exact absurd (Heap.lt_size (kp' _ _ (kp _ _ e))) (Nat.lt_irrefl _)
/-- the items, by data and day -/
structure DayAt (h : Heap) (vs : Array Value) (ks : List PyData) : Prop where
  len : vs.size = ks.length
  at_ : ∀ i v, vs[i]? = some v → ∃ d0 n r, ks.getD i .none = .tuple [.int n, .tuple (d0 :: .int n :: r)] ∧ Reads h v (.tuple (d0 :: .int n :: r)) []
theorem max_day {prog : Program} {w : World} {A : Around} {s : Shared} {l f : Addr} {vs : Array Value} {ks : List PyData} {E : Value → Shared → Prop} {Q : Value → Shared → Prop} (hh : A.handled = none) (hl : s.heap.IsList l vs) (D : DayAt s.heap vs ks) (h0 : 0 < vs.size) (ha : W.AllAlike ks) (hu : ∀ d ∈ ks, A.units + 1 + d.depth < cLine)
    (turn : ∀ (h : Heap) (tk : Nat) (u : Value) (d0 : PyData) (n : Int) (r : List PyData) (E : Value → Shared → Prop), (∀ b o, s.heap.get? b = some o → h.get? b = some o) → Reads h u (.tuple (d0 :: .int n :: r)) [] →
      wpAny (model prog w) A.in1 (call (.ref f) [u]) (fun k s' => ∃ h' tk' t a, s' = { s with heap := h', toks := tk' } ∧ (∀ b o, h.get? b = some o → h'.get? b = some o) ∧ k = .ref a ∧ h.get? a = none ∧ h'.get? a = some (tupO n t u)) E { s with heap := h, toks := tk })
    (h : ∀ v h' tk, vs[argBest (fun i j => W.dataLt (ks.getD j .none) (ks.getD i .none)) (vs.size - 1)]? = some v → (∀ b o, s.heap.get? b = some o → h'.get? b = some o) → Q v { s with heap := h', toks := tk }) :
    wpAny (model prog w) A (call (.builtin "max") [.ref l] [(Str.ofString "key", .ref f)]) Q E s := by
  refine call_max_walkK (W.iter_listW (A := A.in1) hh hl fun s₂ e Wk st hfp hw hk => ?_)
  refine ⟨_, _, _, _, _, _, _, (fun s' => ∃ h' tk, s' = { s with heap := h', toks := tk } ∧ ∀ b o, s.heap.get? b = some o → h'.get? b = some o),
    (fun i k s' => ∃ a n t v d0 r, k = .ref a ∧ a ≠ s₂.heap.objs.size ∧ a ≠ s.heap.objs.size ∧ ks.getD i .none = .tuple [.int n, .tuple (d0 :: .int n :: r)] ∧ ks.getD i .none ∈ ks ∧ Reads s.heap v (.tuple (d0 :: .int n :: r)) [] ∧ s'.heap.get? a = some (tupO n t v)), (fun i j => W.dataLt (ks.getD j .none) (ks.getD i .none)), rfl, Wk, st, hfp, h0, ?_, ?_, ?_⟩
  · have hs2 : s₂.heap.objs.size = s.heap.objs.size + 1 := by rw [e]; exact Heap.size_push _ _
    refine ⟨?_, ?_, ?_, ?_⟩
    · rintro a b ⟨h', tk, rfl, hk'⟩ m
      refine ⟨b.heap, b.toks, ?_, fun x o ex => m.heap x o (fun hb => ?_) (hk' x o ex)⟩
      · obtain ⟨hp, g, d, tk2, os⟩ := b
        have := m.gens
        have := m.drawn
        have := m.os
        simp only at *
        subst_vars
        rfl
      · have := Heap.lt_size ex
        rcases List.mem_cons.mp hb with z | z
        · rw [z, hs2] at this; exact Nat.not_lt.mpr (Nat.le_succ _) this
        · rw [List.mem_singleton.mp z] at this; exact Nat.lt_irrefl _ this
    · rintro i k a b ⟨c, n, t, v, d0, r, rfl, c1, c2, c3, c4, c5, c6⟩ m
      refine ⟨c, n, t, v, d0, r, rfl, c1, c2, c3, c4, c5, m.heap c _ (fun hb => ?_) c6⟩
      rcases List.mem_cons.mp hb with z | z
      · exact c1 z
      · exact c2 (List.mem_singleton.mp z)
    · rintro i v a o Q' E' hi hP ⟨h', tk, rfl, hk'⟩ hst hS hq
      obtain ⟨d0, n, r, ek, hr⟩ := D.at_ i v hP
      refine wpAny_mono (turn h' tk v d0 n r E' hk' (PyProof.Rows.Reads.keeps hk' hr)) (fun k s' ⟨h2, tk2, t, c, es, kp, ek2, hn, hc⟩ => ?_) fun _ _ z => z
      subst es ek2
      obtain ⟨⟨oi, hi1, hi2, hi3⟩, ⟨ol, hl1, hl2⟩⟩ := hst
      refine hq _ _ ⟨h2, tk2, rfl, fun b o' e' => kp b o' (hk' b o' e')⟩ ?_ (kp _ _ hS) ⟨c, n, t, v, d0, r, rfl, fun z => ?_, fun z => ?_, ek, ?_, hr, hc⟩ fun i' k' ⟨c', n', t', v', d0', r', e1, e2, e3, e4, e5, e6, e7⟩ => ⟨c', n', t', v', d0', r', e1, e2, e3, e4, e5, e6, kp _ _ e7⟩
      · exact ⟨⟨oi, kp _ _ hi1, hi2, hi3⟩, ⟨ol, kp _ _ hl1, hl2⟩⟩
      · rw [z, hS] at hn; cases hn
      · rw [z] at hn
        rw [hi1] at hn; cases hn
      · have : i < ks.length := by rw [← D.len]; exact hi
        rw [List.getD_eq_getElem?_getD, List.getElem?_eq_getElem this]
        exact List.getElem_mem this
    · rintro i i' ki kj a Q' E' ⟨h', tk, rfl, hk'⟩ ⟨c, n, t, v, d0, r, rfl, c1, c2, c3, c4, c5, c6⟩ ⟨c', n', t', v', d0', r', rfl, c1', c2', c3', c4', c5', c6'⟩ hq
      have ra : Reads h' (.ref c) (ks.getD i .none) [] := by
        rw [c3]
        exact .tuple c6 rfl rfl (.cons (.int n t) (.cons (PyProof.Rows.Reads.keeps hk' c5) .nil))
      have rb : Reads h' (.ref c') (ks.getD i' .none) [] := by
        rw [c3']
        exact .tuple c6' rfl rfl (.cons (.int n' t') (.cons (PyProof.Rows.Reads.keeps hk' c5') .nil))
      refine W.rcGt_alike _ _ A.in1 _ _ _ _ _ ra rb (ha _ c4 _ c4') (by rw [c3]; intro z; cases z) ?_ prog w E' Q' hq
      have := hu _ c4
      have := Nat.min_le_left (ks.getD i .none).depth (ks.getD i' .none).depth
      show A.units + 1 + _ < _
      omega
  · exact ⟨s₂.heap, s₂.toks, by rw [e], hk⟩
  · rintro v s' hP ⟨h', tk, rfl, hk'⟩
    exact h v h' tk hP hk'
theorem each_at {α : Type} {R : Value → α → Prop} {us : List Value} {bs : List α} (h : W.EachIs R us bs) : ∀ {i : Nat} {u : Value}, us[i]? = some u → ∃ b, bs[i]? = some b ∧ R u b := by
  induction h with
  | nil => intro i u e; simp at e
  | cons h t ih =>
    intro i u e
    cases i with
    | zero => simp at e; subst e; exact ⟨_, rfl, h⟩
    | succ i => obtain ⟨b, e1, e2⟩ := ih (by simpa using e); exact ⟨b, by simpa using e1, e2⟩
section
variable {X : Cx} {Z : Zt} {Wx : Wish} {G : Pg} {C C1 : Nat → List Wv → Mem → Out Wv} {a b c e : Expr} {ea : Ex} {pos p p1 p2 p3 p4 kpos bpos : Pos} {j j2 : Nat}
variable {pins : List (Addr × Obj)} {σ : L2.St} {H H1 : Hp} {s : Shared} {ι ι1 : List Addr} {M : Mem} {sw : Sw}
theorem fold_tri (p : Tri) (r : List Tri) : ((r.map fun b : Tri => (b.1, b.2.1)).foldl (fun a y => if W.dataLt a.1 y.1 then y else a) (p.1, p.2.1)) = (fun b : Tri => (b.1, b.2.1)) (r.foldl (fun a y => if W.dataLt a.1 y.1 then y else a) p) := by
  induction r generalizing p with
  | nil => rfl
  | cons b r ih =>
    simp only [List.map_cons, List.foldl_cons]
    by_cases h : W.dataLt p.1 b.1 = true
    · rw [if_pos h, if_pos h]; exact ih b
    · rw [if_neg h, if_neg h]; exact ih p
theorem e_maxk (k : Bx X Z Wx G) (lm : LmOk X Z) (hroom : X.A.depth + 4 < recursionLimit) {x : Str} {params : Arguments} {scope : Scope} {lpos : Pos} (hm : X.mg "max" = none) (ha : PE X a (TEx Z Wx G C C1 ea))
    (hdb : (x == ("__debug__" : Str)) = false := by decide)
    (h1' : ∀ env, starEach [.Subscript (.Name x p1) (.Constant (.int 1) j p2) p3, .Name x p4] env = [(false, eval (.Subscript (.Name x p1) (.Constant (.int 1) j p2) p3) env), (false, eval (.Name x p4) env)] := by intro _; rfl)
    (hdef : defaultsOf params X.env = ([], []) := by rfl) (hfree : scope.names.all (fun y => !decide (y.2 = .free) && !decide (y.2 = .cell)) = true := by kernel_rfl) (hco : scope.isCoroutine = false := by rfl) (hgen : scope.isGenerator = false := by rfl) (hkind : scope.kind = .function := by rfl) (hx : scope.names.lookup x = some .local := by rfl)
    (hbind : ∀ q pm c' ctv u, bindArgs (PySem.W.kla_fn "<lambda>" q params (.Tuple [.Subscript (.Name x p1) (.Constant (.int 1) j p2) p3, .Name x p4] j2 bpos) scope [] pm (.ref c') ctv) ⟨[u], []⟩ = pure [(x, u)] := by intros; rfl)
    (hg : gloB X.env "max" = true := by kernel_rfl) (hs : starEach [a] X.env = (false, eval a X.env) :: starEach [] X.env := by rfl)
    (he : backTo pos (starEach [a] X.env) = (false, eval a X.env) :: backTo pos (starEach [] X.env) := by rfl) (hpl : (backTo pos (starEach [a] X.env)).any (·.1) = false := by rfl)
    (hall : (backToKw pos (keywordEach [⟨some "key", .Lambda params (.Tuple [.Subscript (.Name x p1) (.Constant (.int 1) j p2) p3, .Name x p4] j2 bpos) scope lpos, kpos⟩] X.env)).all (·.1.isSome) = true := by rfl) (hnone : (backToKw pos (keywordEach [⟨some "key", .Lambda params (.Tuple [.Subscript (.Name x p1) (.Constant (.int 1) j p2) p3, .Name x p4] j2 bpos) scope lpos, kpos⟩] X.env)).any (·.1.isNone) = false := by rfl)
    (hks : (backToKw pos (keywordEach [⟨some "key", .Lambda params (.Tuple [.Subscript (.Name x p1) (.Constant (.int 1) j p2) p3, .Name x p4] j2 bpos) scope lpos, kpos⟩] X.env)).filterMap (·.1) = [Str.ofString "key"] := by rfl) :
    PE X (.Call (.Name "max" p) [a] [⟨some "key", .Lambda params (.Tuple [.Subscript (.Name x p1) (.Constant (.int 1) j p2) p3, .Name x p4] j2 bpos) scope lpos, kpos⟩] pos) (TEx Z Wx G C C1 (.maxk ea)) := by
  obtain ⟨h1, h2, h3⟩ := gloB_ok hg
  obtain ⟨c, P, TB, hcode, hmT, huT⟩ := lm.ex
  refine ⟨fun pins s σ H Q I ⟨ι, sw, M, sr, R, h⟩ => ?_⟩
  simp only [evE] at h
  refine wpAny_Call_Name_kw (ld_blt I h1 hm (by rfl) ?_ h3 h2)
  refine PyProof.Rows.callWith_kw (thn ((pa_cons ha pa_nil hs).run pos pins s σ H (fun vs H1 => ∃ v ι1 M1 w, vs = [v] ∧ RM Z ι1 M1 H1 ∧ WR Z ι1 H1 w v ∧ rOut Z ι1 H1 (Out.ofO ((lstOf w M1).bind fun ws => (mapO (keyOf G kday M1) ws).bind fun ds => maxBy ds ws) M1) Q) I
    (tE.seqE sr R h fun w M1 v H1 ι1 e1 R1 q1 s1 h1 => ⟨v, ι1, M1, w, rfl, R1, q1, Prim.ofO.out h1⟩)) fun us s1 ⟨vs, H1, I1, r1, v, ι1, M1, w, ev, R1, wr, h4⟩ => ?_) he hpl hall hnone
  subst ev
  obtain ⟨u, rfl, ru⟩ := vals1 r1
  show wpAny _ _ (evalAll [do let v ← eval (.Lambda params (.Tuple [.Subscript (.Name x p1) (.Constant (.int 1) j p2) p3, .Name x p4] j2 bpos) scope lpos) X.env; standAt pos; pure v]) _ _ s1
  have nofree : ∀ y ∈ scope.names, y.2 ≠ .free ∧ y.2 ≠ .cell := fun y hy => by
    rw [List.all_eq_true] at hfree
    have := hfree y hy
    rw [Bool.and_eq_true] at this
    exact ⟨by simpa using this.1, by simpa using this.2⟩
  have clo : cloFrom X.env.cells scope.names [] = [] := by
    have go : ∀ (l : List (Str × NameKind)), (∀ y ∈ l, y.2 ≠ .free) → cloFrom X.env.cells l [] = [] := by
      intro l
      induction l with
      | nil => intro _; rfl
      | cons y ys ih =>
        intro hy
        obtain ⟨n, kd⟩ := y
        have h0 := hy (n, kd) List.mem_cons_self
        have := ih fun z hz => hy z (List.mem_cons_of_mem _ hz)
        cases kd <;> first | exact absurd rfl h0 | exact this
    exact go _ fun y hy => (nofree y hy).1
  refine wpAny_evalAll_cons (wpAny_bind (LamX.lam_make2 I1 TB hcode hmT huT R1.tab hdef (fun y hy e => absurd e (nofree y hy).1) fun f c' pm ctv H2 s2 I2 x2 t2 of hfn hfr hc => wpAny_bind (wpAny_standAt (wpAny_pure (wpAny_evalAll_nil ?_)))))
  rw [clo] at of
  rw [hks]
  show wpAny _ _ (call (.builtin "max") [u] [(Str.ofString "key", .ref f)]) _ _ s2
  obtain ⟨x3, R3⟩ := rm_lam R1 x2 t2
  obtain ⟨wo, e, h5⟩ := h4.ofO
  obtain ⟨zs, e1, e⟩ := Option.bind_eq_some_iff.mp e
  obtain ⟨ds, e2, e3⟩ := Option.bind_eq_some_iff.mp e
  obtain ⟨l, vs, rfl, hl, hws⟩ := lstOf_at R3 (wr.mono x3.le) e1
  cases ru
  obtain ⟨its, rv, pl, hzz⟩ := I2.list (SqL.of (K := X.K) hl)
  obtain ⟨bs, b1, b2, b3, b4⟩ := mapO_each k I2 R3 hws rv e2
  obtain ⟨⟨oc, vs', tt, hoc, hdc, hvc⟩, _, _⟩ := I2.hok c' _ hc
  have lim : s2.heap.NoLimit := I2.nolimit
  have e4 : ds.zip zs = bs.map fun b : Tri => (b.1, b.2.1) := by rw [← b1, ← b2, List.zip_map']
  unfold maxBy at e3
  rw [e4] at e3
  cases hbs : bs with
  | nil => rw [hbs] at e3; cases e3
  | cons b0 br =>
  rw [hbs] at e3
  simp only [List.map_cons] at e3
  split at e3
  · rename_i hc3
    rw [Bool.and_eq_true, Bool.and_eq_true] at hc3
    obtain ⟨⟨a1, a2⟩, a3⟩ := hc3
    rw [fold_tri] at e3
    cases e3
    have hlen : its.length = bs.length := b4.length
    have dAt : DayAt s2.heap its.toArray ds := by
      refine ⟨by rw [← b1]; simp [hlen], fun i v hv => ?_⟩
      obtain ⟨bi, e5, hrel, D, hD, kd⟩ := each_at b4 (i := i) (u := v) (by simpa using hv)
      have e6 : ds[i]? = some bi.1 := by rw [← b1, List.getElem?_map, e5]; rfl
      have hmem : bi.1 ∈ ds := List.mem_of_getElem? e6
      have hdk := List.all_eq_true.mp a3 _ hmem
      have e7 : ds.getD i .none = bi.1 := by rw [List.getD_eq_getElem?_getD, e6]; rfl
      rw [e7]
      unfold kday at kd
      simp only [keyD] at kd
      cases D with
      | tuple xs =>
        simp only at kd
        cases hx1 : xs[1]? with
        | none => rw [hx1] at kd; cases kd
        | some d1 =>
          rw [hx1] at kd
          simp only [Option.some.injEq] at kd
          rw [← kd] at hdk ⊢
          cases d1 with
          | int n =>
            match xs, hx1 with
            | d0 :: d1 :: r, hx1 =>
              simp only [List.getElem?_cons_succ, List.getElem?_cons_zero, Option.some.injEq] at hx1
              subst hx1
              exact ⟨d0, n, r, rfl, hD⟩
          | _ => simp [dayK] at hdk
      | _ => simp at kd
    refine max_day (I2.ok.hd k.calm) pl.isList dAt (by simp [hlen, hbs]) (alikeAll_of a1) (fun d hd => ?_) (fun h' tk u d0 n r E' kp hr => ?_) fun v h' tk hv hk => ?_
    · have := of_decide_eq_true (List.all_eq_true.mp a2 d hd)
      have := k.toXOk.un
      omega
    · have := day_turn (P := X.prog) (w := X.w) (A := X.A.in1) (s := { s2 with heap := h', toks := tk }) (E := E') (by show X.A.depth < recursionLimit; omega) (kp _ _ of) ⟨c', oc, vs', tt, rfl, kp _ _ hoc, hdc, hvc⟩ (lim.keeps kp) hco hgen hkind (fun y hy => (nofree y hy).2) hx (hbind _ _ _ _ _) hr hdb h1'
      exact this
    · rw [← Array.getElem?_toList] at hv
      obtain ⟨bi, e5, hrel, D, hD, kd⟩ := each_at b4 (u := v) hv
      have hf := (W.argBest_fold (fun p q : Tri => W.dataLt q.1 p.1) (PyData.none, Wv.non, V.non) b0 br br.length (Nat.le_refl _)).2
      rw [List.take_length] at hf
      have hn : its.toArray.size - 1 = br.length := by simp [hlen, hbs]
      have hbt : (fun i j => W.dataLt (ds.getD j .none) (ds.getD i .none)) = fun i j => W.dataLt ((b0 :: br).getD j (PyData.none, Wv.non, V.non)).1 ((b0 :: br).getD i (PyData.none, Wv.non, V.non)).1 := by
        have hg : ∀ i, ds.getD i .none = ((b0 :: br).getD i (PyData.none, Wv.non, V.non)).1 := fun i => by
          rw [← b1, hbs, List.getD_eq_getElem?_getD, List.getD_eq_getElem?_getD, List.getElem?_map]
          cases (b0 :: br)[i]? <;> rfl
        funext i j
        rw [hg, hg]
      rw [hbt, hn] at e5
      rw [hbs] at e5
      rw [List.getD_eq_getElem?_getD, e5] at hf
      simp only [Option.getD_some] at hf
      have wv : WR Z ι1 H2 bi.2.1 bi.2.2 := b3 bi (by rw [hbs]; exact List.mem_of_getElem? e5)
      rw [← hf] at h5
      have h6 : rOut Z ι1 H2 (.ok bi.2.1 M1) Q := fun v H' ι' y R4 q4 => h5 v H' ι' (x3.trans y) R4 q4
      exact ⟨bi.2.2, H2, I2.kept hk, hrel, h6.val R3 wv⟩
  · cases e3
end
end MP
end
section
set_option Elab.async false
set_option linter.all false
set_option maxRecDepth 100000
/-! MP23: sorting by keys (day, truth), truths of unlike words among them. -/
namespace MP
open PySem PySem.Spec PyProof.Rows L2
mutual
/-- what has no lists reads as one thing -/
theorem one_rd {h : Heap} : ∀ {d e : PyData} {v : Value} {as bs : List Addr}, noL d = true → Reads h v d as → Reads h v e bs → d = e
  | .none, _, _, _, _, _, r, q => by cases r; cases q; rfl
  | .bool _, _, _, _, _, _, r, q => by cases r; cases q; rfl
  | .int _, _, _, _, _, _, r, q => by cases r; cases q; rfl
  | .str _, _, _, _, _, _, r, q => by cases r; cases q; rfl
  | .list _, _, _, _, _, n, _, _ => by simp [noL] at n
  | .dict _, _, _, _, _, n, _, _ => by simp [noL] at n
  | .tuple xs, e, _, _, _, n, r, q => by
    cases r with
    | tuple a1 a2 a3 a4 =>
      cases q with
      | tuple b1 b2 b3 b4 =>
        rw [a1] at b1; cases b1
        rw [a3] at b3; cases b3
        rw [one_rds (by simpa [noL] using n) a4 b4]
      | list b1 b2 b3 b4 =>
        rw [a1] at b1; cases b1
        rw [a2] at b2; exact absurd b2 (by decide)
      | dict b1 b2 b3 b4 b5 =>
        rw [a1] at b1; cases b1
        rw [a2] at b2; exact absurd b2 (by decide)
theorem one_rds {h : Heap} : ∀ {ds es : List PyData} {vs : List Value} {as bs : List Addr}, noLs ds = true → ReadsAll h vs ds as → ReadsAll h vs es bs → ds = es
  | [], _, _, _, _, _, r, q => by cases r; cases q; rfl
  | d :: ds, _, _, _, _, n, r, q => by
    cases r with
    | cons a1 a2 =>
      cases q with
      | cons b1 b2 =>
        rw [noLs, Bool.and_eq_true] at n
        rw [one_rd n.1 a1 b1, one_rds n.2 a2 b2]
end
theorem mix_at {d e : PyData} (h : mixK d e = true) : ∃ n w r n' w' r', d = .tuple [.int n, .tuple (.str w :: r)] ∧ e = .tuple [.int n', .tuple (.str w' :: r')] ∧ (w ≠ w' ∨ W.alikeAll r r' = true) := by
  unfold mixK at h
  split at h
  · rename_i n w r n' w' r'
    refine ⟨n, w, r, n', w', r', rfl, rfl, ?_⟩
    rw [Bool.or_eq_true] at h
    rcases h with h | h
    · exact .inl (of_decide_eq_true h)
    · exact .inr h
  · cases h
theorem mix_self {d : PyData} (h : mixK d d = true) : W.alike d d = true := by
  obtain ⟨n, w, r, n', w', r', e1, e2, e3⟩ := mix_at h
  rw [e1] at e2
  cases e2
  rcases e3 with e3 | e3
  · exact absurd rfl e3
  · rw [e1]
    simp [W.alike, W.alikeAll, e3]
def AllMix (ks : List PyData) : Prop := ∀ d ∈ ks, ∀ e ∈ ks, mixK d e = true ∧ noL d = true ∧ d.plain = true
/-! ### a < b, where the first signs differ -/
section
open PySem.SeqAt AutoSeq1 MeetsSeq MeetsSeq2 MeetsSeq3 SeqRoads2
theorem lt_first (l b : Addr) (x y : Value) (xr yr : List Value) (n n2 : Nat) (dd dd2 : Option Addr) (sl sl2 : Array (Option Value)) (k : Bool) :
    Meets (Builtin.«tuple.__lt__» ⟨[.ref l, .ref b], []⟩)
      (fun A R s => s.heap.get? l = some { cls := .type "tuple", dict := dd, data := .seq (x :: xr).toArray n, slots := sl } ∧ s.heap.get? b = some { cls := .type "tuple", dict := dd2, data := .seq (y :: yr).toArray n2, slots := sl2 } ∧
        EqAt A.in1 s x y false ∧ RcLt A.in1 s x y k ∧ R (.ok (.ret (.bool k))) s) :=
  .of_wp fun prog w A R s h => by
    obtain ⟨hp, g, d, tk, os⟩ := s
    obtain ⟨hl, hb, he, hr, h⟩ := h
    have f2 := AutoSeq1.sub_tuple_tuple
    wp_walk using wpAny_loadPart' hl, wpAny_loadPart' hb, wpAny_forIn_list _ (fun rest b s' => b.1 = none ∧ s' = ⟨hp, g, d, tk, os⟩ ∧ rest = (x :: xr).zip (y :: yr)) _
    case turn =>
      rintro ⟨u, v⟩ rest b s' ⟨hb', rfl, hz⟩
      rw [List.zip_cons_cons] at hz
      injection hz with e1 e2
      injection e1 with e3 e4
      subst e3 e4
      refine wpAny_bind (he prog w _ _ ?_)
      rw [if_pos (show (!false) = true from rfl)]
      refine wpAny_bind (wpAny_rule (wpAny_bind (hr prog w _ _ ?_)))
      wp_walk
      exact ⟨_, rfl, h⟩
    case fin =>
      rintro ⟨b1, b2⟩ s' ⟨hb', rfl, hz⟩
      cases hz
    case h =>
      exact ⟨rfl, rfl, by simp⟩
end
end MP
end
section
set_option Elab.async false
set_option linter.all false
set_option maxRecDepth 100000
/-! MP24: sorting by keys (day, truth): the order, the sort. -/
namespace MP
open PySem PySem.Spec PyProof.Rows L2
theorem str_eqv {w w' : Str} (h : w ≠ w') : PyData.eqv (.str w) (.str w') = false := by
  simp only [PyData.eqv]
  simp [h]
/-- tokens of truths of unlike words -/
theorem word_lt {w w' : Str} (h : w ≠ w') (r r' : List PyData) (l m : List (Int ⊕ List Nat)) : PyProof.Rows.lexLt PyProof.Rows.itemOrd (W.keyToks (.tuple (.str w :: r)) ++ l) (W.keyToks (.tuple (.str w' :: r')) ++ m) = W.dataLt (.str w) (.str w') := by
  have e := (W.toks_eqv (.str w) (.str w') rfl).2 (str_eqv h)
  simp only [W.keyToks, W.toks_all_cons, List.cons_append, List.append_assoc]
  rw [lex_self]
  have := e (W.keyToksAll r ++ l) (W.keyToksAll r' ++ m)
  simp only [W.keyToks, List.cons_append, List.nil_append] at this
  simp only [List.nil_append]
  rw [this]
  rfl
theorem word_dlt {w w' : Str} (h : w ≠ w') (r r' : List PyData) : W.dataLt (.tuple (.str w :: r)) (.tuple (.str w' :: r')) = W.dataLt (.str w) (.str w') := by
  have := word_lt h r r' [] []
  rw [List.append_nil, List.append_nil] at this
  exact this
section
variable {A : Around} {s : Shared}
theorem rc_mix {a b : Value} {w w' : Str} {r r' : List PyData} {as bs : List Addr} (ra : Reads s.heap a (.tuple (.str w :: r)) as) (rb : Reads s.heap b (.tuple (.str w' :: r')) bs) (h : w ≠ w' ∨ W.alikeAll r r' = true) (hu : A.units + min (PyData.tuple (.str w :: r)).depth (PyData.tuple (.str w' :: r')).depth < cLine) :
    SeqAt.RcLt A s a b (W.dataLt (.tuple (.str w :: r)) (.tuple (.str w' :: r'))) := by
  by_cases c : W.alikeAll r r' = true
  · exact W.rcLt_alike _ _ A s a b as bs ra rb (by simp [W.alike, W.alikeAll, c]) (fun z => by cases z) hu
  · have hw : w ≠ w' := by
      rcases h with h | h
      · exact h
      · exact absurd h c
    have h0 : A.units < cLine := by omega
    rw [word_dlt hw]
    cases ra with
    | @tuple l o vs n _ _ a1 a2 a3 a4 =>
      cases rb with
      | @tuple l' o' vs' n' _ _ b1 b2 b3 b4 =>
        obtain ⟨cls, dd, data, sl⟩ := o
        obtain ⟨cls2, dd2, data2, sl2⟩ := o'
        simp only at a2 a3 b2 b3
        subst a2 a3 b2 b3
        cases hv : vs.toList with
        | nil => rw [hv] at a4; cases a4
        | cons x xr =>
          cases hv' : vs'.toList with
          | nil => rw [hv'] at b4; cases b4
          | cons y yr =>
            rw [hv] at a4
            rw [hv'] at b4
            have ev : vs = (x :: xr).toArray := by rw [← hv]
            have ev' : vs' = (y :: yr).toArray := by rw [← hv']
            subst ev ev'
            cases a4 with
            | cons x1 x2 =>
              cases b4 with
              | cons y1 y2 =>
                intro prog wd E Q hq
                have e1 := W.eqAt_alike (.str w) (.str w') A.in1 s x y _ _ x1 y1 rfl (by
                  have : min (PyData.str w).depth (PyData.str w').depth = 0 := by simp [PyData.depth]
                  have hd : 1 ≤ min (PyData.tuple (.str w :: r)).depth (PyData.tuple (.str w' :: r')).depth := by simp only [PyData.depth]; omega
                  show A.units + 1 + _ < _
                  omega)
                rw [str_eqv hw] at e1
                have e2 := W.rcLt_alike (.str w) (.str w') A.in1 s x y _ _ x1 y1 rfl (fun z => by cases z) (by
                  have : min (PyData.str w).depth (PyData.str w').depth = 0 := by simp [PyData.depth]
                  have hd : 1 ≤ min (PyData.tuple (.str w :: r)).depth (PyData.tuple (.str w' :: r')).depth := by simp only [PyData.depth]; omega
                  show A.units + 1 + _ < _
                  omega)
                exact richCompare_meets_room (op := .Lt) ⟨_, a1, rfl⟩ ⟨_, b1, rfl⟩ F.slot_tuple_lt F.entry_tuple_lt (F.args_tuple_lt_2 _ _) (lt_first l l' x y xr yr n n' dd dd2 sl sl2 _)
                  ⟨a1, b1, e1, e2, show Value.bool _ ≠ Value.notImplemented ∧ _ from ⟨(fun z => nomatch z), hq⟩⟩ h0
end
end MP
end
section
set_option Elab.async false
set_option linter.all false
set_option maxRecDepth 100000
/-! MP25: list.sort by keys (day, truth). -/
namespace MP
open PySem PySem.Spec PyProof.Rows L2
theorem kind_mix {h : Heap} {ds : List PyData} (hm : AllMix ds) {v : Value} {d : PyData} {as : List Addr} (hd : d ∈ ds) (r : Reads h v d as) : (W.dataKind h ds).keyOf v = some (W.keyToks d) := by
  have q : ∃ d, d ∈ ds ∧ ∃ as, Reads h v d as := ⟨d, hd, as, r⟩
  have e : (W.dataKind h ds).keyOf v = some (W.keyToks q.choose) := dif_pos q
  obtain ⟨c1, _, c2⟩ := q.choose_spec
  rw [e, ← one_rd (hm d hd d hd).2.1 r c2]
section
variable {prog : Program} {w : World} {A : Around} {s : Shared} {E : Value → Shared → Prop}
/-- two keys, compared -/
theorem lt_mix {x y : Value} {d e : PyData} {as bs : List Addr} {Q : Bool → Shared → Prop} (rx : Reads s.heap x d as) (ry : Reads s.heap y e bs) (h : mixK d e = true) (pd : d.plain = true) (pe : e.plain = true) (hu : A.units + min d.depth e.depth < cLine) (hq : Q (W.dataLt d e) s) : wpAny (model prog w) A (keyLt' (tuples' true) x y) Q E s := by
  obtain ⟨n, ws, r, n', ws', r', rfl, rfl, hc⟩ := mix_at h
  have hd : min (PyData.tuple (.str ws :: r)).depth (PyData.tuple (.str ws' :: r')).depth ≤ min (PyData.tuple [.int n, .tuple (.str ws :: r)]).depth (PyData.tuple [.int n', .tuple (.str ws' :: r')]).depth := by
    simp only [PyData.depth, PyData.depthAll]
    omega
  cases rx with
  | @tuple l o vs k _ _ a1 a2 a3 a4 =>
    cases ry with
    | @tuple l' o' vs' k' _ _ b1 b2 b3 b4 =>
      have n1 : vs.size = 2 := by simpa using SeqAt.ReadsAll.length _ _ _ a4
      have n2 : vs'.size = 2 := by simpa using SeqAt.ReadsAll.length _ _ _ b4
      refine W.kat_lt a1 a3 b1 b3 ?_
      have hfin : decide (vs.size < vs'.size) = false := by rw [n1, n2]; rfl
      rw [hfin]
      cases hv : vs.toList with
      | nil => rw [hv] at a4; cases a4
      | cons x0 xr =>
      cases hv' : vs'.toList with
      | nil => rw [hv'] at b4; cases b4
      | cons y0 yr =>
      rw [hv] at a4
      rw [hv'] at b4
      cases a4 with
      | cons p1 p2 =>
      cases b4 with
      | cons q1 q2 =>
      cases p1 with
      | int _ t =>
      cases q1 with
      | int _ u =>
      cases p2 with
      | cons p3 p4 =>
      cases q2 with
      | cons q3 q4 =>
      cases p4
      cases q4
      have pp : (PyData.tuple (.str ws :: r)).plain = true := by
        simp only [PyData.plain, PyData.plainAll, Bool.and_true, Bool.true_and] at pd ⊢
        exact pd
      have pq : (PyData.tuple (.str ws' :: r')).plain = true := by
        simp only [PyData.plain, PyData.plainAll, Bool.and_true, Bool.true_and] at pe ⊢
        exact pe
      rw [List.zip_cons_cons]
      refine W.kat_cons (SeqAt.EqAt.int_int n t n' u prog w _ _ ?_)
      rw [W.dataLt_tuple] at hq
      by_cases c : n = n'
      · subst c
        rw [W.dataLt_all_yes (x := .int n) (y := .int n) rfl (by simp [PyData.eqv])] at hq
        rw [beq_self_eq_true]
        refine W.kat_yes ?_
        rw [List.zip_cons_cons]
        refine W.kat_cons (SeqAt.eqAt_plain _ _ A s _ _ _ _ p3 q3 pp pq (by omega) prog w _ _ ?_)
        have hcase : W.alike (.tuple (.str ws :: r)) (.tuple (.str ws' :: r')) = true ∨ ws ≠ ws' := by
          rcases hc with hc | hc
          · exact .inr hc
          · exact .inl (by simp [W.alike, W.alikeAll, hc])
        cases he : PyData.eqv (.tuple (.str ws :: r)) (.tuple (.str ws' :: r')) with
        | true =>
          refine W.kat_yes (W.kat_nil ?_)
          have ew : ws = ws' := by
            have e2 := he
            simp only [PyData.eqv, PyData.eqvAll, Bool.and_eq_true] at e2
            by_cases z : ws = ws'
            · exact z
            · exact absurd e2.1 (by simp [z])
          rcases hcase with hcase | hcase
          · rw [W.dataLt_all_yes hcase he] at hq
            have : PyProof.Rows.lexLt PyProof.Rows.itemOrd (W.keyToksAll []) (W.keyToksAll []) = false := lex_irrefl _
            rw [this] at hq
            exact hq
          · exact absurd ew hcase
        | false =>
          refine W.kat_no ?_
          have hl : PyProof.Rows.lexLt PyProof.Rows.itemOrd (W.keyToksAll [.tuple (.str ws :: r)]) (W.keyToksAll [.tuple (.str ws' :: r')]) = W.dataLt (.tuple (.str ws :: r)) (.tuple (.str ws' :: r')) := by
            rcases hcase with hcase | hcase
            · exact W.dataLt_all_no hcase he
            · rw [W.toks_all_cons, W.toks_all_cons, lex_self, word_lt hcase, word_dlt hcase]
          rw [hl] at hq
          have eo : (true && (0 + 1 == 0)) = false := rfl
          rw [eo, oneLt'_eq]
          simp only [Bool.false_eq_true, if_false]
          exact wpAny_bind (rc_mix p3 q3 hc (by omega) prog w _ _ (wpAny_truthy_bool hq))
      · rw [W.dataLt_all_no (x := .int n) (y := .int n') rfl (by simp [PyData.eqv, c])] at hq
        rw [beq_eq_false_iff_ne.mpr c]
        exact W.kat_no (W.oneLt_alike (fun _ xs z => by cases z) (.int n t) (.int n' u) rfl (fun z => by cases z) (by simp only [PyData.depth]; omega) hq)
theorem sorts_mix {vs : List Value} {ds : List PyData} (e : W.EachIs (fun v d => ∃ as, Reads s.heap v d as) vs ds) (hm : AllMix ds) (hu : ∀ d, d ∈ ds → A.units + d.depth < cLine) : W.SortsAt prog w A s (W.dataKind s.heap ds) vs := by
  refine ⟨fun v hv => ?_, tuples' true, ?_, fun h2 E Q hq => ?_⟩
  · obtain ⟨d, hd, as, r⟩ := e.left v hv
    exact ⟨_, kind_mix hm hd r⟩
  · intro E x y a b Q ha hb hq
    obtain ⟨d, as, hd, rx, rfl⟩ := W.dataKind_inv ha
    obtain ⟨d', as', hd', ry, rfl⟩ := W.dataKind_inv hb
    refine lt_mix rx ry (hm d hd d' hd').1 (hm d hd d' hd').2.2 (hm d' hd' d hd).2.2 ?_ hq
    have := hu d hd
    omega
  · have ht : ∀ d, d ∈ ds → ∃ x r, d = .tuple (x :: r) := fun d hd => by
      obtain ⟨n, ws, r, _, _, _, e1, _⟩ := mix_at (hm d hd d hd).1
      exact ⟨_, _, e1⟩
    obtain ⟨fs, t1, t2, t3⟩ := W.each_katTups e ht
    refine W.kat_kind (T := .type "int") t1 (by omega) (fun f hf => ?_) (beq_self_eq_true _) hq
    obtain ⟨x, r, as, m1, m2⟩ := t3 f hf
    obtain ⟨n, ws, r2, _, _, _, e1, _⟩ := mix_at (hm _ m1 _ m1).1
    cases e1
    exact W.looks_reads m2
end
end MP
end
section
set_option Elab.async false
set_option linter.all false
set_option maxRecDepth 100000
/-! MP26: list.sort(key=f), keys (day, truth). -/
namespace MP
open PySem PySem.Spec PyProof.Rows L2
section
variable {prog : Program} {w : World} {A : Around} {E : Value → Shared → Prop} {s : Shared} {β : Type} {R : Value → β → Prop}
/-- the keys made so far -/
structure KM (s : Shared) (a K : Addr) (h0 : Heap) (e1 : Nat) (ks : List PyData) (i : Nat) (s' : Shared) : Prop where
  ex : ∃ h tk kA c, s' = { s with heap := h, toks := tk } ∧ W.KeepsBut a h0 h ∧ h.get? K = some (seqObj "list" kA c) ∧ h.get? a = some (seqObj "list" #[] e1) ∧ W.EachIs (fun v k => Reads h v k [] ∧ W.alike k k = true) kA.toList (ks.take i)
theorem sort_mix {a : Addr} {n : Nat} {f : Value} {kw : List (Str × Value)} {Q : Value → Shared → Prop} {vs : List Value} {bs : List β} (k : β → PyData) (ho : s.heap.get? a = some (seqObj "list" vs.toArray n)) (er : W.EachIs R vs bs) (hm : AllMix (bs.map k)) (hL : bs.length ≤ sizeLine)
    (hu : ∀ x ∈ bs, A.units + 1 + (k x).depth < cLine) (ha2 : argsOk "list.sort" ⟨[.ref a], kw⟩) (ht : Builtin.«list.sort» ⟨[.ref a], kw⟩ = ksk_tree a f false)
    (turn : ∀ (v : Value) (x : β), R v x → x ∈ bs → ∀ (h : Heap) (tk : Nat), W.KeepsBut a s.heap h → wpAny (model prog w) A.in1 (call f [v]) (W.KeyPure (k x) { s with heap := h, toks := tk }) (fun _ _ => False) { s with heap := h, toks := tk })
    (fin : ∀ out c h' tk, W.KeepsBut a s.heap h' → h'.get? a = some (seqObj "list" (List.toArray out) c) → out.length = bs.length → W.EachIs R out (bs.mergeSort (W.dataLe false k)) → Q .none { s with heap := h', toks := tk }) :
    wpAny (model prog w) A (call (.builtin "list.sort") [.ref a] kw) Q E s := by
  have hlv : vs.length = bs.length := er.length
  have hZ : vs.length ≤ sizeLine := by omega
  refine wpAny_call_entry_kw slot_list_sort ⟨_, ho, rfl⟩ entry_list_sort ?_ ha2
  rw [ht]
  have hla : a < s.heap.objs.size := Heap.lt_size ho
  obtain ⟨e1, ho1⟩ : ∃ e1, (s.heap.update a (Obj.mapSeq fun _ => (#[] : Array Value))).get? a = some (seqObj "list" #[] e1) := ⟨_, get?_update_seq ho fun _ => #[]⟩
  generalize hK : ((s.heap.update a (Obj.mapSeq fun _ => (#[] : Array Value))).push (seqObj "tuple" vs.toArray 0)).objs.size = K
  have hK2 : K = s.heap.objs.size + 1 := by rw [← hK, size_push', Heap.size_update]
  have hKa : K ≠ a := by rw [hK2]; exact Nat.ne_of_gt (Nat.lt_succ_of_lt hla)
  have hKn : s.heap.get? K = none := Heap.get?_none_of_le (by rw [hK2]; exact Nat.le_succ _)
  have kp0 : W.KeepsBut a s.heap (W.sortingHeap s.heap a vs) := fun b o hb q => W.sortingHeap_old hb q
  unfold ksk_tree
  refine wpAny_bind (listItems_at ho rfl (wpAny_bind (listUpdate_at ho rfl (wpAny_bind (seqEpoch_at ho1 rfl (wpAny_bind (wpAny_newTuple (wpAny_bind (wpAny_newList (wpAny_holding ?_) (Nat.zero_le _))) hZ)))) (by rw [List.size_toArray]; exact hZ) (Nat.zero_le _))))
  rw [hK]
  have g1 : (W.sortingHeap s.heap a vs).get? K = some (seqObj "list" #[] 0) := by
    unfold W.sortingHeap
    rw [← hK]
    exact Heap.get?_push_size _ rfl
  have g2 : (W.sortingHeap s.heap a vs).get? a = some (seqObj "list" #[] e1) := Heap.get?_push_of_some _ (Heap.get?_push_of_some _ ho1)
  unfold ksk_rest
  refine wpAny_bind (wpAny_rule ?_)
  rw [List.forIn_toArray]
  refine wpAny_bind (ksk_fold (KM s a K s.heap e1 (bs.map k)) vs 0 _ ⟨_, s.toks, #[], 0, rfl, kp0, g1, g2, by rw [List.take_zero]; exact W.EachIs.nil⟩ (fun j x s' hx hI => ?_) (fun s' hI => ?_))
  · obtain ⟨h, tk, kA, c, rfl, kp, nk, na, hk⟩ := hI.ex
    simp only [Nat.zero_add] at hk ⊢
    have hj : j < vs.length := (List.getElem?_eq_some_iff.mp hx).1
    obtain ⟨b, hb, hR⟩ := each_at er hx
    have hbm : b ∈ bs := List.mem_of_getElem? hb
    have hkj : (bs.map k)[j]? = some (k b) := by rw [List.getElem?_map, hb]; rfl
    have hkk : W.alike (k b) (k b) = true := mix_self (hm _ (List.mem_map.mpr ⟨b, hbm, rfl⟩) _ (List.mem_map.mpr ⟨b, hbm, rfl⟩)).1
    have hz : kA.size ≤ sizeLine := by
      have := hk.length
      rw [Array.length_toList, List.length_take] at this
      omega
    refine wpAny_bind (wpAny_attempt (wpAny_mono (turn x b hR hbm h tk kp) (fun v s2 ⟨g, tk2, e2, hg, hr⟩ => ?_) fun _ _ z => z.elim))
    subst e2
    try dsimp only
    have nk2 : g.get? K = some (seqObj "list" kA c) := hg _ _ nk
    have na2 : g.get? a = some (seqObj "list" #[] e1) := hg _ _ na
    have su := Heap.SameBut.update g K (Obj.mapSeq (·.push v))
    obtain ⟨c2, hc2⟩ : ∃ c2, (g.update K (Obj.mapSeq (·.push v))).get? K = some (seqObj "list" (kA.push v) c2) := ⟨_, get?_update_seq nk2 (·.push v)⟩
    refine wpAny_bind (listUpdate_at nk2 rfl (wpAny_pure ⟨rfl, ?_⟩) hz (by rw [Array.size_push]; omega))
    have keep : ∀ (u : Value) (d : PyData), Reads g u d [] ∧ W.alike d d = true → Reads (g.update K (Obj.mapSeq (·.push v))) u d [] ∧ W.alike d d = true := fun u d q =>
      ⟨W.Reads.keepBut (a := K) (fun b o hb e => (su.2 b hb).trans e) (fun o e => by rw [nk2] at e; rw [← Option.some.inj e]) d u [] q.2 q.1 (by simp), q.2⟩
    refine ⟨_, _, kA.push v, c2, rfl, (kp.trans_all hg).same su (.inr hKn), hc2, (su.2 a hKa.symm).trans na2, ?_⟩
    have ek : (bs.map k).take (j + 1) = (bs.map k).take j ++ [k b] := by rw [List.take_add_one, hkj]; simp
    rw [show (kA.push v).toList = kA.toList ++ [v] by simp, ek]
    exact W.each_snoc (R := fun (u : Value) (d : PyData) => Reads (g.update K (Obj.mapSeq (·.push v))) u d [] ∧ W.alike d d = true) (keep v (k b) ⟨hr, hkk⟩) (hk.mono fun u d q => keep u d ⟨PyProof.Rows.Reads.keeps hg q.1, q.2⟩)
  · obtain ⟨h, tk, kA, c, rfl, kp, nk, na, hk⟩ := hI.ex
    have e3 : (bs.map k).take (0 + vs.length) = bs.map k := List.take_of_length_le (by simp; omega)
    rw [e3] at hk
    have hk2 : W.EachIs (fun v d => ∃ as, Reads h v d as) kA.toList (bs.map k) := hk.mono fun v d q => ⟨[], q.1⟩
    have hsz : kA.size = vs.length := by
      have := hk2.length
      rw [Array.length_toList, List.length_map] at this
      omega
    try dsimp only
    refine wpAny_bind (listItems_at nk rfl ?_)
    have S := sorts_mix (prog := prog) (w := w) (A := A.in1) (s := { s with heap := h, toks := tk }) hk2 hm (fun d hd => by
      obtain ⟨x, hx, rfl⟩ := List.mem_map.mp hd
      exact hu x hx)
    refine W.keyH_end (κ := W.dataKind h (bs.map k)) (h₁ := s.heap) kp hKn nk na hKa S hsz hZ fun h3 tk3 c3 k3 n3 => ⟨.none, rfl, ?_⟩
    have hks : W.EachIs (fun v b => (W.dataKind h (bs.map k)).keyOf v = some (W.keyToks (k b))) kA.toList bs :=
      W.each_of_map k ((W.each_mem hk2).mono fun v d ⟨⟨as, r⟩, hd⟩ => kind_mix hm hd r)
    refine fin _ c3 h3 tk3 k3 n3 ?_ (W.sortVals_each (κ := W.dataKind h (bs.map k)) (fun b => W.keyToks (k b)) er hks)
    rw [W.sortVals_length false (by rw [Array.length_toList]; exact hsz)]
    exact hlv
end
end MP
end
section
set_option Elab.async false
set_option linter.all false
set_option maxRecDepth 100000
/-! MP27: sorted(d.values(), key=lambda x: (x[1], x)), truths of unlike words. -/
namespace MP
open PySem PySem.Spec PyProof.Rows L2
mutual
theorem noL_plain : ∀ {d : PyData}, noL d = true → d.plain = true
  | .none, _ => rfl
  | .bool _, _ => rfl
  | .int _, _ => rfl
  | .str _, _ => rfl
  | .list _, n => by simp [noL] at n
  | .dict _, n => by simp [noL] at n
  | .tuple xs, n => by
    simp only [PyData.plain]
    exact noLs_plain (by simpa [noL] using n)
theorem noLs_plain : ∀ {ds : List PyData}, noLs ds = true → PyData.plainAll ds = true
  | [], _ => rfl
  | d :: ds, n => by
    rw [noLs, Bool.and_eq_true] at n
    simp only [PyData.plainAll, noL_plain n.1, noLs_plain n.2, Bool.and_self]
end
theorem allMix_of {ks : List PyData} (h : mixAllB ks = true) : AllMix ks := fun d hd e he => by
  unfold mixAllB at h
  rw [Bool.and_eq_true] at h
  have n := List.all_eq_true.mp h.2 d hd
  exact ⟨List.all_eq_true.mp (List.all_eq_true.mp h.1 d hd) e he, n, noL_plain n⟩
theorem sortMix_tri {bs : List Tri} {out : List Wv} (e : sortMix (bs.map (·.1)) (bs.map (·.2.1)) = some out) :
    AllMix (bs.map fun b : Tri => b.1) ∧ (bs.map (·.1)).all dcap = true ∧ out = (bs.mergeSort (W.dataLe false fun b : Tri => b.1)).map (·.2.1) := by
  unfold sortMix at e
  split at e
  · rename_i h
    rw [Bool.and_eq_true] at h
    refine ⟨allMix_of h.1, h.2, ?_⟩
    cases e
    have e1 : (bs.map (·.1)).zip (bs.map (·.2.1)) = bs.map fun b : Tri => (b.1, b.2.1) := by rw [List.zip_map']
    rw [e1]
    have e2 := List.map_mergeSort (r := W.dataLe false fun b : Tri => b.1) (s := fun a b => W.dataLe false (fun p : PyData × Wv => p.1) a b) (f := fun b : Tri => (b.1, b.2.1)) (l := bs) (fun a _ b _ => rfl)
    rw [← e2, List.map_map]
    rfl
  · cases e
section
variable {X : Cx} {Z : Zt} {Wx : Wish} {G : Pg} {C C1 : Nat → List Wv → Mem → Out Wv} {a b c e : Expr} {ea : Ex} {pos p p2 p3 kpos apos mpos : Pos}
variable {pins : List (Addr × Obj)} {σ : L2.St} {H H1 : Hp} {s : Shared} {ι ι1 : List Addr} {M : Mem} {sw : Sw}
theorem e_sortvM (k : Bx X Z Wx G) (lm : LmOk X Z) (hroom : X.A.depth + 4 < recursionLimit) {x : Str} {params : Arguments} {body : Expr} {scope : Scope} {lpos : Pos} (hm : X.mg "sorted" = none) (ha : PE X a (TEx Z Wx G C C1 ea)) (kb : KB x scope body kday)
    (hbase : attributeBase a "values" X.env (eval a X.env) = eval a X.env := by rfl) (hline : (apos.endLine == mpos.line) = true := by rfl)
    (hdef : defaultsOf params X.env = ([], []) := by rfl) (hfree : scope.names.all (fun y => !decide (y.2 = .free) && !decide (y.2 = .cell)) = true := by kernel_rfl) (hco : scope.isCoroutine = false := by rfl) (hgen : scope.isGenerator = false := by rfl) (hkind : scope.kind = .function := by rfl) (hx : scope.names.lookup x = some .local := by rfl)
    (hbind : ∀ q pm c' ctv u, bindArgs (PySem.W.kla_fn "<lambda>" q params body scope [] pm (.ref c') ctv) ⟨[u], []⟩ = pure [(x, u)] := by intros; rfl)
    (hg : gloB X.env "sorted" = true := by kernel_rfl) (hs : starEach [Expr.Call (.Attribute a "values" apos) [] [] mpos] X.env = (false, eval (Expr.Call (.Attribute a "values" apos) [] [] mpos) X.env) :: starEach [] X.env := by rfl)
    (he : backTo pos (starEach [Expr.Call (.Attribute a "values" apos) [] [] mpos] X.env) = (false, eval (Expr.Call (.Attribute a "values" apos) [] [] mpos) X.env) :: backTo pos (starEach [] X.env) := by rfl) (hpl : (backTo pos (starEach [Expr.Call (.Attribute a "values" apos) [] [] mpos] X.env)).any (·.1) = false := by rfl)
    (hall : (backToKw pos (keywordEach [⟨some "key", .Lambda params body scope lpos, kpos⟩] X.env)).all (·.1.isSome) = true := by rfl) (hnone : (backToKw pos (keywordEach [⟨some "key", .Lambda params body scope lpos, kpos⟩] X.env)).any (·.1.isNone) = false := by rfl)
    (hks : (backToKw pos (keywordEach [⟨some "key", .Lambda params body scope lpos, kpos⟩] X.env)).filterMap (·.1) = [Str.ofString "key"] := by rfl) :
    PE X (.Call (.Name "sorted" p) [.Call (.Attribute a "values" apos) [] [] mpos] [⟨some "key", .Lambda params body scope lpos, kpos⟩] pos) (TEx Z Wx G C C1 (.sortvM ea)) := by
  obtain ⟨h1, h2, h3⟩ := gloB_ok hg
  obtain ⟨c, P, TB, hcode, hmT, huT⟩ := lm.ex
  refine ⟨fun pins s σ H Q I ⟨ι, sw, M, sr, R, h⟩ => ?_⟩
  simp only [evE] at h
  refine wpAny_Call_Name_kw (ld_blt I h1 hm (by rfl) ?_ h3 h2)
  refine PyProof.Rows.callWith_kw (thn ((pa_cons (pe_vals ha hbase hline) pa_nil hs).run pos pins s σ H (fun vs H1 => ∃ (p d : Addr) (H0 : Hp) (ι1 : List Addr) (M1 : Mem) (l : Nat) (z : Bool) (kvs : List (Wv × Wv)), vs = [V.ref p] ∧ H1 = upd H0 p (vwO p d) ∧ H0 p = none ∧ RM Z ι1 M1 H0 ∧ ι1[l]? = some d ∧ M1[l]? = some (.dct z kvs) ∧ rOut Z ι1 H0 (newL ((mapO (keyOf G kday M1) (kvs.map (·.2))).bind fun ds => sortMix ds (kvs.map (·.2))) M1) Q) I
    (tE.seqE sr R h fun w M1 v H1 ι1 e1 R1 q1 s1 h1 => by
      have h1' := (prim_newL _ _).out h1
      obtain ⟨out, e, hz, _⟩ := newL_ok h1'
      obtain ⟨zs, ez, e⟩ := Option.bind_eq_some_iff.mp e
      obtain ⟨l, d, z, kvs, rfl, rfl, hl, hM, rfl⟩ := valsOf_at q1 ez
      obtain ⟨o, es, ep, g1, g2, g3, g4, _⟩ := R1.ob l _ d hM hl
      refine ⟨d, rfl, ⟨z, o, es, ep, g1, g2, g3, g4⟩, fun p hp => ?_⟩
      rw [ez] at h1'
      exact ⟨p, d, H1, ι1, M1, l, z, kvs, rfl, rfl, hp, R1, hl, hM, h1'⟩)) fun us s1 ⟨vs, H1, I1, r1, p, d, H0, ι1, M1, l, z, kvs, ev, eH, hp, R1, hl, hM, h4⟩ => ?_) he hpl hall hnone
  subst ev eH
  obtain ⟨u, rfl, ru⟩ := vals1 r1
  show wpAny _ _ (evalAll [do let v ← eval (.Lambda params body scope lpos) X.env; standAt pos; pure v]) _ _ s1
  have nofree : ∀ y ∈ scope.names, y.2 ≠ .free ∧ y.2 ≠ .cell := fun y hy => by
    rw [List.all_eq_true] at hfree
    have := hfree y hy
    rw [Bool.and_eq_true] at this
    exact ⟨by simpa using this.1, by simpa using this.2⟩
  have clo : cloFrom X.env.cells scope.names [] = [] := by
    have go : ∀ (l : List (Str × NameKind)), (∀ y ∈ l, y.2 ≠ .free) → cloFrom X.env.cells l [] = [] := by
      intro l
      induction l with
      | nil => intro _; rfl
      | cons y ys ih =>
        intro hy
        obtain ⟨n, kd⟩ := y
        have h0 := hy (n, kd) List.mem_cons_self
        have := ih fun z hz => hy z (List.mem_cons_of_mem _ hz)
        cases kd <;> first | exact absurd rfl h0 | exact this
    exact go _ fun y hy => (nofree y hy).1
  have up : ∀ b o, H0 b = some o → upd H0 p (vwO p d) b = some o := fun b o q => by
    rw [upd_ne (fun z => by rw [z, hp] at q; cases q)]
    exact q
  have tb : LamX.Tabs Z.T (upd H0 p (vwO p d)) := fun q hq => (R1.tab q hq).ext up
  refine wpAny_evalAll_cons (wpAny_bind (LamX.lam_make2 I1 TB hcode hmT huT tb hdef (fun y hy e => absurd e (nofree y hy).1) fun f c' pm ctv H2 s2 I2 x2 t2 of hfn hfr hc => wpAny_bind (wpAny_standAt (wpAny_pure (wpAny_evalAll_nil ?_)))))
  rw [clo] at of
  rw [hks]
  show wpAny _ _ (call (.builtin "sorted") [u] [(Str.ofString "key", .ref f)]) _ _ s2
  obtain ⟨x3, R3⟩ := rm_lam R1 ((LamX.ExtN.of up).trans x2) t2
  obtain ⟨out, e, hz, h5⟩ := newL_ok h4
  obtain ⟨ds, e2, e3⟩ := Option.bind_eq_some_iff.mp e
  cases ru
  have hv : s2.heap.get? p = some { cls := .type "dict_values", data := .fields #[.ref d] } := (I2.hok p _ (x2 p _ upd_same (fun ps z => by cases z))).1
  obtain ⟨es', ep, d1, d2, d3, d4⟩ := DctR.raw I2 (R3.ob _ _ _ hM hl)
  refine PyProof.Rows.call_function_entry_kw kind_sorted plain_sorted entry_sorted (PyProof.Rows.ksk_s1 _ _) ?_
  unfold Builtin.«sorted»
  refine wpAny_bind (m := checkCount "sorted" 1 1 _) (wpAny_pure ?_)
  refine wpAny_bind (PySem.W.kdu_collect (A := X.A.in1) (KdlSrc.rawValues (r := p)) (I2.ok.hd k.calm) ⟨⟨_, hv, rfl, rfl⟩, d1⟩ d3 fun h' tk acc hk hacc => ?_)
  obtain ⟨vs, v1, v2⟩ := vals_items d4 hacc
  have hll : acc.toList.length ≤ sizeLine := by rw [Array.length_toList, hacc.1]; exact d3
  refine wpAny_bind (wpAny_newList ?_ hll)
  have I0 : L2.Inv X pins σ H2 { s2 with heap := h', toks := tk } := I2.kept (t' := tk) hk
  obtain ⟨bs, b1, b2, b3, b4⟩ := mapO_each k I0 R3 v1 v2 e2
  obtain ⟨a1, a3, a4⟩ := sortMix_tri (bs := bs) (out := out) (by rw [b1, b2]; exact e3)
  have hlen : bs.length = acc.toList.length := by rw [← b4.length]
  obtain ⟨⟨oc, vs', tt, hoc, hdc, hvc⟩, _, _⟩ := I2.hok c' _ hc
  have lim : s2.heap.NoLimit := I2.nolimit
  have ho : (h'.push { cls := .type "list", data := .seq acc.toList.toArray }).get? h'.objs.size = some (seqObj "list" acc.toList.toArray 0) := Heap.get?_push_size _ rfl
  have kp0 : ∀ (g : Heap), PySem.W.KeepsBut h'.objs.size (h'.push { cls := .type "list", data := .seq acc.toList.toArray }) g → ∀ b o, h'.get? b = some o → g.get? b = some o := fun g kp b o q => kp b o (Nat.ne_of_lt (Heap.lt_size q)) (Heap.get?_push_of_some _ q)
  refine wpAny_bind (wpAny_holding (sort_mix (s := { s2 with heap := h'.push { cls := .type "list", data := .seq acc.toList.toArray }, toks := tk }) (A := X.A.in1) (fun b : Tri => b.1) ho b4 a1 (by rw [hlen]; exact hll) (fun b hb => by
      have := depth_cap k.toXOk a3 b hb
      show X.A.units + 1 + 1 + _ < _
      omega) (PyProof.Rows.ksk_l1 _ _) (PyProof.Rows.ksk_t1 f _)
    (fun v b hR hb h tk2 kp => ?_) fun o cc h2 tk2 kp hat hol eo => ?_))
  · obtain ⟨hrel, D, hD, kd⟩ := hR
    have kk : ∀ b o, s2.heap.get? b = some o → h.get? b = some o := fun b o q => kp0 h kp b o (hk b o q)
    exact lam_turn (s := { s2 with heap := h, toks := tk2 }) (by show X.A.depth < recursionLimit; omega) (kk _ _ of) ⟨c', oc, vs', tt, rfl, kk _ _ hoc, hdc, hvc⟩ (lim.keeps kk) hco hgen hkind (fun y hy => (nofree y hy).2) hx (hbind _ _ _ _ _) kb (PyProof.Rows.Reads.keeps (kp0 h kp) hD) kd
  · have eo2 : W.EachIs (fun u (b : Tri) => RelV b.2.2 u) o (bs.mergeSort (W.dataLe false fun b : Tri => b.1)) := eo.mono fun u b hh => hh.1
    have ww : WsR Z ι1 H2 out ((bs.mergeSort (W.dataLe false fun b : Tri => b.1)).map (·.2.2)) := by
      rw [a4]
      exact ws_sorted fun b hb => b3 b ((List.mergeSort_perm _ _).mem_iff.mp hb)
    have h6 : rOut Z ι1 H2 (.ok (.ref M1.length) (M1 ++ [.lst out])) Q := fun v H' ι' y R4 q4 => h5 v H' ι' (x3.trans y) R4 q4
    refine wpAny_pure ⟨_, rfl, .ref _, _, I0.laid (t' := tk2) (a := h'.objs.size) (fun b ob q => kp0 h2 kp b ob q) (Nat.le_refl _) (show ObjOk X.prog X.w _ _ _ (.lst ((bs.mergeSort (W.dataLe false fun b : Tri => b.1)).map (·.2.2))) from ⟨by rw [← ww.length]; exact hz, o, cc, each_vals eo2, hat⟩), rfl, h6.lst R3 ww (I0.hok.fresh (Nat.le_refl _))⟩
end
end MP
end
section
set_option Elab.async false
set_option linter.all false
set_option maxRecDepth 100000
/-! MP28: a set of texts: its members, its table (which rises, and can be walked); set(a list of texts). -/
namespace MP
open PySem PySem.Spec PyProof.Rows L2
def txtOf (e : Int × Value) : Str := match e.2 with | .str k _ => k | _ => Str.empty
def TxtE (P : Program) (w : World) (e : Int × Value) : Prop := ∃ k tk, e.2 = Value.str k tk ∧ e.1 = (PySem.strKind P w).hash k
/-- the set of texts at a, with the members of xs -/
def SetS (P : Program) (w : World) (h : Heap) (a : Addr) (xs : List Str) : Prop :=
  ∃ o es ep t, h.get? a = some o ∧ o.ExactSet ∧ o.data = .set es ep t ∧ (∀ e ∈ es.toList, TxtE P w e) ∧ (es.toList.map txtOf).Perm xs ∧ xs.Nodup ∧
    es.size < scanBound ∧ t.fits es.size = true ∧ Ris t.place.toList ∧ (w.params.followText "set-order" = true ∨ t.led = true)
section
variable {P : Program} {w : World} {A : Around} {E : Value → Shared → Prop} {s : Shared} {a : Addr} {xs : List Str}
theorem SetS.at {h h' : Heap} (R : SetS P w h a xs) (k : ∀ o, h.get? a = some o → h'.get? a = some o) : SetS P w h' a xs := by
  obtain ⟨o, es, ep, t, ho, r⟩ := R
  exact ⟨o, es, ep, t, k o ho, r⟩
theorem txt_elems {l : List (Int × Value)} (g : ∀ e ∈ l, TxtE P w e) : ElemsOf (PySem.strKind P w) l := fun e he => by
  obtain ⟨k, tk, h1, h2⟩ := g e he
  exact ⟨⟨k, by rw [h1]; exact strKind_is P w k tk, h2⟩, by rw [h1] <;> rfl⟩
theorem txt_is {e : Int × Value} (g : TxtE P w e) (k : Str) : (PySem.strKind P w).is k e.2 = true ↔ txtOf e = k := by
  obtain ⟨k0, tk, h1, _⟩ := g
  unfold txtOf
  rw [h1]
  simp [PySem.strKind, Value.isStrOf]
theorem txt_tail {g : Bool → Sem Unit} (hg : ∀ (b : Bool) (s₁ : Shared) (Q' : Unit → Shared → Prop), Q' () s₁ → wpAny (model P w) A (g b) Q' E s₁)
    {o : Obj} {es : Array (Int × Value)} {ep : Nat} {t : SetTable} (ho : s.heap.get? a = some o) (hex : o.ExactSet) (hd : o.data = .set es ep t)
    {es1 : Array (Int × Value)} {t2 : SetTable} (g1 : ∀ e ∈ es1.toList, TxtE P w e) (pm1 : (es1.toList.map txtOf).Perm xs) (nd : xs.Nodup)
    (hb1 : es1.size < scanBound) (hf2 : t2.fits es1.size = true) (hr : Ris t2.place.toList) (hl : w.params.followText "set-order" = true ∨ t2.led = true) {wasDummy : Bool} {R : Option Bool → Shared → Prop}
    (hR : ∀ h', Heap.SameBut a s.heap h' → SetS P w h' a xs → R (some true) { s with heap := h' }) :
    wpAny (model P w) A (do
        storeSet a es1 t2
        if (!wasDummy && t2.tooFull) = true then do
            g (relayAll t2 es1 (SetTable.grown es1.size)).2.2
            storeSet a (relayAll t2 es1 (SetTable.grown es1.size)).1 (relayAll t2 es1 (SetTable.grown es1.size)).2.1
            pure (some true)
          else pure (some true)) R E s := by
  refine wpAny_bind (wpAny_storeSet_of ho hd ?_ (fits_of_scanBound hb1))
  have ho1 := store_at (es' := es1) (t' := t2) ho hd
  have sb1 := Heap.SameBut.update s.heap a (Obj.putSet es1 t2)
  split
  · have pm := relayAll_perm t2 es1 (SetTable.grown es1.size)
    have hf3 := relayAll_fits t2 es1 (SetTable.grown es1.size)
    have hr3 := relayAll_ris t2 es1 (SetTable.grown es1.size)
    have hl3 := relayAll_led t2 es1 (SetTable.grown es1.size)
    generalize relayAll t2 es1 (SetTable.grown es1.size) = Z at pm hf3 hr3 hl3 ⊢
    obtain ⟨es2, t3, gave⟩ := Z
    dsimp only at pm hf3 hr3 hl3 ⊢
    have hsz : es2.size = es1.size := by rw [← Array.length_toList, pm.length_eq, Array.length_toList]
    have hb2 : es2.size < scanBound := by rw [hsz]; exact hb1
    refine wpAny_bind (hg _ _ _ ?_)
    refine wpAny_bind (wpAny_storeSet_of ho1 rfl ?_ (fits_of_scanBound hb2))
    have ho2 := store_at (es' := es2) (t' := t3) ho1 rfl
    refine wpAny_pure (hR _ (sb1.trans (Heap.SameBut.update _ a _)) ?_)
    exact ⟨_, es2, _, t3, ho2, hex, rfl, fun e he => g1 e (pm.mem_iff.mp he), (pm.map txtOf).trans pm1, nd, hb2, hf3, hr3, hl.imp id fun z => by rw [hl3]; exact z⟩
  · exact wpAny_pure (hR _ sb1 ⟨_, es1, _, t2, ho1, hex, rfl, g1, pm1, nd, hb1, hf2, hr, hl⟩)
/-- a text put to some, once -/
def putS (xs : List Str) (k : Str) : List Str := if k ∈ xs then xs else xs ++ [k]
theorem txt_add {k : Str} {tk : Tok} {Q : Bool → Shared → Prop} (R : SetS P w s.heap a xs) (room : xs.length + 1 < scanBound)
    (hQ : ∀ b h', Heap.SameBut a s.heap h' → SetS P w h' a (putS xs k) → Q b { s with heap := h' }) :
    wpAny (model P w) A (setAddHashed a (.str k tk) ((PySem.strKind P w).hash k)) Q E s := by
  obtain ⟨o, es, ep, t, ho, hex, hd, g, pm0, nd, hb, hf, hr, hl⟩ := R
  have hkey : (PySem.strKind P w).is k (.str k tk) = true := strKind_is P w k tk
  have hsc : (Value.str k tk).scannable = true := rfl
  have hel : ElemsOf (PySem.strKind P w) es.toList := txt_elems g
  unfold setAddHashed setAddHashedIn
  refine wpAny_holding (wpAny_bind (wpAny_setState_of ho hd hf ?_))
  dsimp only
  rw [byScan_of hsc hb hel]
  simp only [↓reduceIte]
  unfold setAddByScan
  refine wpAny_bind ?_
  refine wpAny_bind (wpAny_rule ?_)
  refine wpAny_bind (wpAny_setScan_of hkey ho hd hf hel ?_)
  cases hfi : List.findIdx? (fun e => (PySem.strKind P w).is k e.2) es.toList with
  | some j =>
    dsimp only
    obtain ⟨hj, pj, _⟩ := List.findIdx?_eq_some_iff_getElem.mp hfi
    have hk : k ∈ xs := pm0.mem_iff.mp (List.mem_map.mpr ⟨_, List.getElem_mem hj, (txt_is (g _ (List.getElem_mem hj)) k).1 pj⟩)
    refine wpAny_pure (wpAny_pure ?_)
    refine hQ _ s.heap (Heap.SameBut.refl a s.heap) ⟨o, es, ep, t, ho, hex, hd, g, ?_, ?_, hb, hf, hr, hl⟩
    · unfold putS; rw [if_pos hk]; exact pm0
    · unfold putS; rw [if_pos hk]; exact nd
  | none =>
    dsimp only
    have hnk : k ∉ xs := fun z => by
      obtain ⟨e, he, q⟩ := List.mem_map.mp (pm0.mem_iff.mpr z)
      have c := List.findIdx?_eq_none_iff.mp hfi e he
      rw [(txt_is (g e he) k).2 q] at c
      cases c
    have hgw : ∀ (b : Bool) {s₁ : Shared} {Q' : Unit → Shared → Prop}, Q' () s₁ → wpAny (model P w) A (match b with | true => rule "set.scan.the-table-gave-way" | false => pure ()) Q' E s₁ :=
      fun b s₁ Q' q => by cases b <;> first | exact wpAny_pure q | exact wpAny_rule q
    have pm := layNew_perm t es ((PySem.strKind P w).hash k) (.str k tk)
    have hf1 := layNew_fits t es ((PySem.strKind P w).hash k) (.str k tk)
    have hr1 := layNew_ris t es ((PySem.strKind P w).hash k) (.str k tk) hr
    have hl1 := layNew_led t es ((PySem.strKind P w).hash k) (.str k tk)
    generalize layNew t es ((PySem.strKind P w).hash k) (.str k tk) = Z at pm hf1 hr1 hl1 ⊢
    obtain ⟨es1, t1, wasDummy, gave⟩ := Z
    dsimp only at pm hf1 hr1 hl1 ⊢
    rw [Array.toList_push] at pm
    have pc : es1.toList.Perm (((PySem.strKind P w).hash k, Value.str k tk) :: es.toList) := pm.trans (List.perm_append_singleton _ _)
    have pk : (es1.toList.map txtOf).Perm (putS xs k) := by
      unfold putS
      rw [if_neg hnk]
      exact (pc.map txtOf).trans ((List.Perm.cons k pm0).trans (List.perm_append_singleton _ _).symm)
    have ndk : (putS xs k).Nodup := by
      unfold putS
      rw [if_neg hnk]
      exact (List.perm_append_singleton k xs).nodup_iff.mpr (List.nodup_cons.mpr ⟨hnk, nd⟩)
    have g1 : ∀ e ∈ es1.toList, TxtE P w e := fun e he => by
      rcases List.mem_cons.mp (pc.mem_iff.mp he) with z | z
      · rw [z]; exact ⟨k, tk, rfl, rfl⟩
      · exact g e z
    have hn0 : es.size = xs.length := by rw [← Array.length_toList, ← List.length_map (f := txtOf), pm0.length_eq]
    have hsz : es1.size = xs.length + 1 := by rw [← Array.length_toList, pc.length_eq, List.length_cons, Array.length_toList, hn0]
    have hb1 : es1.size < scanBound := by rw [hsz]; exact room
    have hled : w.params.followText "set-order" = true ∨ t1.led = true := hl.imp id fun z => by rw [hl1]; exact z
    refine wpAny_bind (hgw _ ?_)
    split
    · refine wpAny_bind ?_
      rw [hashByValue_scannable 8 hsc]
      refine wpAny_pure ?_
      refine txt_tail ?_ ho hex hd g1 pk ndk hb1 ?_ ?_ ?_ ?_
      · intro b s₁ Q' q; cases b <;> first | exact wpAny_pure q | exact wpAny_rule q
      · first | (split <;> first | exact hf1 | exact SetTable.fits_plain_off hf1) | exact hf1
      · first | (split <;> exact hr1) | exact hr1
      · first | (split <;> exact hled) | exact hled
      · intro h' sb r; dsimp only; exact wpAny_pure (hQ _ h' sb r)
    · refine wpAny_bind (wpAny_pure ?_)
      simp only [↓reduceIte]
      refine txt_tail ?_ ho hex hd g1 pk ndk hb1 hf1 hr1 hled ?_
      · intro b s₁ Q' q; cases b <;> first | exact wpAny_pure q | exact wpAny_rule q
      · intro h' sb r; dsimp only; exact wpAny_pure (hQ _ h' sb r)
theorem new_led (v : Value) {Q₁ : Value → Shared → Prop}
    (h : Q₁ (.ref s.heap.objs.size) { s with heap := s.heap.push { cls := .type "set", dict := none, data := .set #[] 0 (.fresh 0 0 (!w.params.followText "set-order")) } }) :
    codeAny (model P w) A (.call (.builtin "set.__new__") ⟨[.type "set", v], []⟩) (wants Q₁ E) s := by
  refine codeAny_of_tree ?_
  show wpAny _ A.in1 (do checkBuiltinCall "set.__new__" ⟨[.type "set", v], []⟩; again (.builtin "set.__new__" ⟨[.type "set", v], []⟩)) _ _ s
  refine wpAny_bind (wpAny_of_eq (PySem.F.newCall_set_1 v) (wpAny_pure ⟨plainId_quiet F.plain_set_new _, codeAny_builtin F.entry_set_new ?_⟩))
  rw [Around.under_plainId F.plain_set_new _]
  unfold Builtin.«set.__new__» Builtin.Frozenset.newClass
  have hsub := sub_set_self
  obtain ⟨hp, g, d, tk, os⟩ := s
  dsimp only
  wp_walk
  refine wpAny_askSetting (wpAny_pure ?_)
  dsimp only
  simp only [newObj]
  refine wpAny_bind (wpAny_alloc (wpAny_pure ?_))
  exact wpAny_pure h
end
def allS (xs : List Str) : List Str := xs.foldl putS []
theorem putS_len (xs : List Str) (k : Str) : (putS xs k).length ≤ xs.length + 1 := by
  unfold putS
  split
  · omega
  · simp
theorem allS_take (xs : List Str) : ∀ i, i < xs.length → allS (xs.take (i + 1)) = putS (allS (xs.take i)) (xs.getD i Str.empty) := by
  intro i hi
  unfold allS
  rw [List.take_add_one, List.foldl_append, List.getD_eq_getElem?_getD, List.getElem?_eq_getElem hi]
  rfl
theorem allS_len (xs : List Str) : (allS xs).length ≤ xs.length := by
  have go : ∀ (xs acc : List Str), (xs.foldl putS acc).length ≤ acc.length + xs.length := by
    intro xs
    induction xs with
    | nil => intro acc; simp
    | cons x xs ih =>
      intro acc
      have := ih (putS acc x)
      have := putS_len acc x
      simp only [List.foldl_cons, List.length_cons]
      omega
  have := go xs []
  simpa [allS] using this
section
variable {prog : Program} {w : World} {A : Around} {R : Result → Shared → Prop} {I : Addr} {fp wr : List Addr} {G : Array GenState → Array GenState → Prop} {n : Nat} {P : Nat → Value → Prop} {St : Nat → Shared → Prop}
theorem txt_loop (W : WalksS prog w A.in1 I fp wr G n P St) (S : Addr) (hSf : S ∉ fp) (xs : List Str) (hsz : xs.length = n) (hn1 : n + 1 < scanBound)
    (hval : ∀ i v, P i v → ∃ t, v = .str (xs.getD i Str.empty) t) :
    ∀ (k i : Nat) (s : Shared), n - i = k → i ≤ n → St i s → SetS prog w s.heap S (allS (xs.take i)) →
      (∀ s', Moved (S :: wr) G s s' → SetS prog w s'.heap S (allS xs) → R (.ok (.ret .none)) s') →
      codeAny (model prog w) A (.builtin "set.update.loop" ⟨[.ref S, .ref I], []⟩) R s := by
  have hSw : S ∉ wr := fun h => hSf (W.sub _ h)
  have hsub : ∀ b ∈ wr, b ∈ S :: wr := fun b hb => List.mem_cons_of_mem _ hb
  intro k
  induction k with
  | zero =>
    intro i s hk hi hst hS hR
    have hin : i = n := by omega
    subst hin
    refine codeAny_builtin PyProof.Rows.F.entry_set_update_loop ?_
    rw [Around.under_plainId PyProof.Rows.F.plain_set_update_loop _]
    show wpAny _ A.in1 (pyNext (.ref I) >>= _) _ _ s
    refine wpAny_bind (W.done s _ _ hst fun s' hm => ?_)
    show wpAny _ A.in1 (ret Value.none) _ _ s'
    rw [← hsz, List.take_length] at hS
    exact wpAny_pure (hR s' (hm.mono hsub) (hS.at fun o ho => hm.heap S _ hSw ho))
  | succ k ih =>
    intro i s hk hi hst hS hR
    have hlt : i < n := by omega
    refine codeAny_builtin PyProof.Rows.F.entry_set_update_loop ?_
    rw [Around.under_plainId PyProof.Rows.F.plain_set_update_loop _]
    show wpAny _ A.in1 (pyNext (.ref I) >>= _) _ _ s
    refine wpAny_bind (W.item i s _ _ hlt hst fun v s' hP hst' hm => ?_)
    obtain ⟨t, rfl⟩ := hval i v hP
    have hS' : SetS prog w s'.heap S (allS (xs.take i)) := hS.at fun o ho => hm.heap S _ hSw ho
    show wpAny _ A.in1 (holding [Value.str (xs.getD i Str.empty) t] (setAdd S (.str (xs.getD i Str.empty) t)) >>= _) _ _ s'
    refine wpAny_bind (wpAny_holding ?_)
    unfold setAdd
    refine wpAny_holding ?_
    refine wpAny_bind ((PySem.strKind prog w).pyHash (k := xs.getD i Str.empty) (strKind_is _ _ _ _) ?_)
    refine txt_add (s := { s' with toks := s'.toks + 1 }) hS' (by have := allS_len (xs.take i); rw [List.length_take] at this; omega) fun b h' hsb hS2 => ?_
    rw [← allS_take xs i (by omega)] at hS2
    refine wpAny_pure ⟨plainId_quiet PyProof.Rows.F.plain_set_update_loop _, ih (i + 1) _ (by omega) hlt (W.frame _ s' _ _ hst' (Nat.le_succ _) fun b hb o e => ?_) hS2 fun s'' hm'' hS'' => ?_⟩
    · rw [hsb.2 b (fun h : b = S => hSf (by rw [← h]; exact hb))]; exact e
    · refine hR s'' (Moved.trans W.gtrans ((hm.mono hsub).then_heap (Nat.le_succ _) fun b o hb e => ?_) hm'') hS''
      rw [hsb.2 b (fun h : b = S => hb (by rw [h]; exact List.mem_cons_self))]; exact e
end
section
variable {prog : Program} {w : World} {A : Around} {E : Value → Shared → Prop} {s : Shared}
theorem txt_fresh {h : Heap} (P : Program) (w : World) : SetS P w (h.push { cls := .type "set", dict := none, data := .set #[] 0 (.fresh 0 0 (!w.params.followText "set-order")) }) h.objs.size [] :=
  ⟨_, #[], 0, _, Heap.get?_push_size _ rfl, ⟨rfl, rfl, rfl⟩, rfl, (fun e he => by simp at he), .refl _, List.nodup_nil, (by decide), (by rfl), List.Pairwise.nil, by
    show _ ∨ (!w.params.followText "set-order") = true
    cases w.params.followText "set-order"
    · exact .inr rfl
    · exact .inl rfl⟩
set_option maxHeartbeats 3200000 in
theorem set_of_texts {l : Addr} {items : Array Value} {xs : List Str} {Q : Value → Shared → Prop}
    (hh : A.handled = none) (hl : s.heap.IsList l items) (hi : PyProof.Rows.StrsAre items.toList xs) (hn1 : xs.length + 1 < scanBound)
    (h : ∀ (h' : Heap) (tk : Nat), SetS prog w h' s.heap.objs.size (allS xs) →
      (∀ b o, s.heap.get? b = some o → h'.get? b = some o) → Q (.ref s.heap.objs.size) { s with heap := h', toks := tk }) :
    wpAny (model prog w) A (call (.type "set") [.ref l]) Q E s := by
  obtain ⟨c, tl, hmro⟩ := PySem.F.called_set.mro
  have hmade := PySem.F.called_set.made
  have hsub := PySem.F.called_set.sub
  refine wpAny_call (codeAny_of_tree ?_)
  show wpAny _ _ (callAny (.type "set") _) _ _ _
  refine wpAny_pure ⟨Code.quiet_builtin _ (by decide +kernel), codeAny_builtin PySem.F.entry_type_call ?_⟩
  rw [Around.under_plain (weight_type_call_type "set" [.ref l] []) rfl]
  have h1 := PySem.F.called_set.notType
  have h2 := PySem.F.called_set.canCreate
  have hct := PySem.F.typeCall_set_1 (.ref l)
  repeat (any_goals (first | assumption | wp_step))
  generalize hled : (!w.params.followText "set-order") = led
  have fr := txt_fresh (h := s.heap) prog w
  rw [hled] at fr
  refine codeAny_mono (new_led (.ref l) (E := E) (Q₁ := fun obj s₁ => obj = .ref s.heap.objs.size ∧ s₁ = { s with heap := s.heap.push { cls := .type "set", dict := none, data := .set #[] 0 (.fresh 0 0 led) } }) ⟨rfl, by rw [hled]⟩) fun r s₁ hr => ?_
  cases r with
  | error e => exact hr
  | ok fl =>
    cases fl with
    | ret obj =>
      obtain ⟨rfl, rfl⟩ := hr
      have hS : (s.heap.push { cls := .type "set", dict := none, data := .set #[] 0 (.fresh 0 0 led) }).get? s.heap.objs.size = some { cls := .type "set", dict := none, data := .set #[] 0 (.fresh 0 0 led) } := Heap.get?_push_size _ rfl
      have hT : Shared.TypeIs { s with heap := s.heap.push { cls := .type "set", dict := none, data := .set #[] 0 (.fresh 0 0 led) } } (.ref s.heap.objs.size) "set" := ⟨_, hS, rfl⟩
      have hli := PySem.F.called_set.init.lookup
      have hbi := PySem.F.called_set.init.bind (.ref s.heap.objs.size)
      repeat (any_goals (first | assumption | wp_step))
      refine codeAny_mono (codeAny_call_builtin (R := wants (fun r s₂ => r = .none ∧ ∃ h' tk, s₂ = { s with heap := h', toks := tk } ∧ SetS prog w h' s.heap.objs.size (allS xs) ∧
          (∀ b o, s.heap.get? b = some o → h'.get? b = some o)) E) PySem.F.called_set.init.plain PySem.F.entry_set_init (check_set_init_1 hT ?_)) fun r₂ s₂ hr₂ => ?_
      · obtain ⟨ol, hol, hcl, nl, hdl⟩ := hl
        obtain ⟨ocls, odict, odata, oslots⟩ := ol
        simp only at hcl hdl
        subst hcl; subst hdl
        have hol' : (s.heap.push { cls := .type "set", dict := none, data := .set #[] 0 (.fresh 0 0 led) }).get? l = some { cls := .type "list", dict := odict, data := .seq items nl, slots := oslots } := Heap.get?_push_of_some _ hol
        have hsls := PySem.F.sub_list_set
        have hslf := PySem.F.sub_list_frozenset
        have hne : (Value.type "list" == Value.type "dict") = false := by decide
        have hl1 : (s.heap.push { cls := .type "set", dict := none, data := .set #[] 0 (.fresh 0 0 led) }).IsList l items := ⟨_, hol', rfl, nl, rfl⟩
        unfold Builtin.«set.__init__» noKeywords Builtin.Frozenset.updateFrom
        generalize hPI : pyIter = PI
        wp_walk
        subst hPI
        refine wpAny_pyIter_list hl1 ?_
        refine wpAny_bind (wpAny_runValue ?_)
        have hlS : l < s.heap.objs.size := Heap.lt_size hol
        have hh3 : A.in1.in1.in1.handled = none := by simp [hh]
        have hneI : l ≠ (s.heap.push { cls := .type "set", dict := none, data := .set #[] 0 (.fresh 0 0 led) }).objs.size := by
          rw [Heap.size_push]; exact Nat.ne_of_lt (Nat.lt_succ_of_lt hlS)
        have hSf : s.heap.objs.size ∉ [(s.heap.push { cls := .type "set", dict := none, data := .set #[] 0 (.fresh 0 0 led) }).objs.size, l] := by
          rw [Heap.size_push]; simp only [List.mem_cons, List.mem_singleton, List.not_mem_nil, or_false, not_or]
          exact ⟨Nat.ne_of_lt (Nat.lt_succ_self _), Nat.ne_of_gt hlS⟩
        have hsz : xs.length = items.size := by rw [← StrsAre.len_eq hi, Array.length_toList]
        have hval : ∀ (i : Nat) (v : Value), items[i]? = some v → ∃ t, v = .str (xs.getD i Str.empty) t := fun i v hv => SS.strs_at hi i v (by rw [Array.getElem?_toList]; exact hv)
        refine txt_loop ((Walks.list hh3 _ l hneI items).toS) s.heap.objs.size
          hSf xs hsz (by rw [← hsz]; exact hn1) hval (items.size - 0) 0 _ (by omega) (Nat.zero_le _)
          ⟨⟨_, Heap.get?_push_size _ rfl, rfl, rfl⟩, (hl1.push _)⟩ (by rw [List.take_zero]; exact fr.at fun o ho => Heap.get?_push_of_some _ ho) ?hR
        case hR =>
          intro s' hm hS'
          obtain ⟨h', g', d', tk', os'⟩ := s'
          have eg : g' = s.gens := hm.gens
          have ed : d' = s.drawn := hm.drawn
          have eo : os' = s.os := hm.os
          subst eg; subst ed; subst eo
          show wpAny _ _ _ _ _ _
          refine wpAny_pure ?_
          show wpAny _ _ (ret Value.none) _ _ _
          refine wpAny_pure ⟨rfl, h', tk', rfl, hS', fun b o e => ?_⟩
          have hb := Heap.lt_size e
          have hb1 : b ≠ s.heap.objs.size := Nat.ne_of_lt hb
          have hb2 : b ≠ (s.heap.push { cls := .type "set", dict := none, data := .set #[] 0 (.fresh 0 0 led) }).objs.size := by
            rw [Heap.size_push]; exact Nat.ne_of_lt (Nat.lt_succ_of_lt hb)
          exact hm.heap b o (by simp only [List.mem_cons, List.mem_singleton, List.not_mem_nil, or_false, not_or]; exact ⟨hb1, hb2⟩) (Heap.get?_push_of_some _ (Heap.get?_push_of_some _ e))
      · cases r₂ with
        | error e => exact hr₂
        | ok fl₂ =>
          cases fl₂ with
          | ret r =>
            obtain ⟨rfl, h', tk, rfl, hq, hk⟩ := hr₂
            have hq' := hq
            obtain ⟨oo, _, _, _, hoo, hxx, _⟩ := hq'
            have hT2 : Shared.TypeIs { s with heap := h', toks := tk } (.ref s.heap.objs.size) "set" := ⟨oo, hoo, hxx.1⟩
            have hfin := h h' tk hq hk
            repeat (any_goals (first | assumption | wp_step))
          | _ => exact hr₂.elim
    | _ => exact hr.elim
end
end MP
end
section
set_option Elab.async false
set_option linter.all false
set_option maxRecDepth 100000
/-! MP29: sorted(set(a list of texts)). -/
namespace MP
open PySem PySem.Spec PyProof.Rows L2
def leS : Str → Str → Bool := W.dataLe false fun b : Str => .str b
theorem leS_eq : leS = fun a b => decide (a.cps.toList ≤ b.cps.toList) := W.dataLe_str (fun b : Str => b)
theorem cps_inj {a b : Str} (h : a.cps.toList = b.cps.toList) : a = b := by
  cases a; cases b
  simp only [Str.mk.injEq]
  exact Array.toList_inj.mp h
theorem msortS_pw (xs : List Str) : (xs.mergeSort leS).Pairwise fun a b => leS a b = true := by
  refine List.pairwise_mergeSort (fun a b c h1 h2 => ?_) (fun a b => ?_) xs
  · rw [leS_eq] at *
    simp only [decide_eq_true_eq] at *
    exact List.le_trans h1 h2
  · rw [leS_eq]
    simp only [Bool.or_eq_true, decide_eq_true_eq]
    exact List.le_total _ _
theorem msortS_perm {xs ys : List Str} (h : xs.Perm ys) : xs.mergeSort leS = ys.mergeSort leS := by
  refine List.Perm.eq_of_pairwise (le := fun a b => leS a b = true) (fun a b _ _ h1 h2 => ?_) (msortS_pw xs) (msortS_pw ys) ((List.mergeSort_perm xs leS).trans (h.trans (List.mergeSort_perm ys leS).symm))
  rw [leS_eq] at h1 h2
  simp only [decide_eq_true_eq] at h1 h2
  exact cps_inj (List.le_antisymm h1 h2)
def rawS (v : Value) : Str := match v with | .str k _ => k | _ => Str.empty
theorem each_rawS : ∀ (l : List Value), (∀ v ∈ l, ∃ k tk, v = Value.str k tk) → W.EachIs (fun u (b : Str) => RelV (V.str b) u) l (l.map rawS)
  | [], _ => .nil
  | v :: l, h => by
    obtain ⟨k, tk, rfl⟩ := h v List.mem_cons_self
    exact .cons ⟨tk, rfl⟩ (each_rawS l fun u hu => h u (List.mem_cons_of_mem _ hu))
theorem each_strs {bs : List Str} : ∀ {us : List Value}, W.EachIs (fun u (b : Str) => RelV (V.str b) u) us bs → Vals (bs.map V.str) us := by
  induction bs with
  | nil => intro us h; cases h; exact .nil
  | cons b bs ih =>
    intro us h
    cases h with
    | cons h1 t1 => exact .cons h1 (ih t1)
section
variable {P : Program} {w : World} {A : Around} {E : Value → Shared → Prop} {s : Shared} {a : Addr} {xs : List Str}
theorem sorted_texts {Q : Value → Shared → Prop} (R : SetS P w s.heap a xs) (hh : A.handled = none) (hu : A.units + 10 < cLine)
    (hQ : ∀ s' p (out : List Value) (c : Nat), (∀ b o, s.heap.get? b = some o → s'.heap.get? b = some o) → s'.gens = s.gens → s'.os = s.os → s.heap.objs.size ≤ p →
      s'.heap.get? p = some (seqObj "list" out.toArray c) → Vals ((xs.mergeSort leS).map V.str) out → Q (.ref p) s') :
    wpAny (model P w) A (call (.builtin "sorted") [.ref a]) Q E s := by
  obtain ⟨o, es, ep, t, ho, hex, hd, g, pm0, nd, hb, hf, hr, hl⟩ := R
  refine PySem.Calls.call_function_entry kind_sorted plain_sorted entry_sorted (args_sorted1 _) ?_
  unfold Builtin.«sorted»
  refine wpAny_bind (m := checkCount "sorted" 1 1 _) (wpAny_pure ?_)
  refine wpAny_bind (collect_set (A := A.in1) hh ⟨o, ho, hex.1, hd⟩ hf hb hr hl fun s1 vs k1 hz g1 o1 pm => ?_)
  have hvl : vs.length < scanBound := by rw [pm.length_eq, List.length_map, Array.length_toList]; exact hb
  have hs : ∀ v ∈ vs, ∃ k tk, v = Value.str k tk := fun v hv => by
    obtain ⟨e, he, q⟩ := List.mem_map.mp (pm.mem_iff.mp hv)
    obtain ⟨k, tk, h1, _⟩ := g e he
    exact ⟨k, tk, by rw [← q]; exact h1⟩
  have pk : (vs.map rawS).Perm xs := by
    have q := pm.map rawS
    rw [List.map_map] at q
    exact q.trans pm0
  have hl2 : vs.length ≤ sizeLine := fits_of_scanBound hvl
  refine wpAny_bind (wpAny_newList ?_ hl2)
  have hoL : (s1.heap.push { cls := .type "list", data := .seq vs.toArray }).get? s1.heap.objs.size = some (seqObj "list" vs.toArray 0) := Heap.get?_push_size _ rfl
  have e1 := each_rawS vs hs
  have er : W.EachIs (fun v (b : Str) => ∃ as, Reads (s1.heap.push { cls := .type "list", data := .seq vs.toArray }) v (PyData.str b) as ∧ s1.heap.objs.size ∉ as) vs (vs.map rawS) :=
    e1.mono fun u b ⟨tk, q⟩ => ⟨[], by rw [q]; exact .str b tk, by simp⟩
  refine wpAny_bind (wpAny_holding (PySem.W.list_sort_data (s := { s1 with heap := s1.heap.push { cls := .type "list", data := .seq vs.toArray } }) (A := A.in1) (enc := fun b : Str => PyData.str b) hoL e1 er (W.AllAlike.of fun _ _ => rfl) (W.Sortable.others fun b => ⟨by simp, by simp⟩) (by rw [List.length_map]; exact hl2) (fun b hb => ?_) fun o2 ho2 eo => wpAny_pure ⟨_, rfl, ?_⟩))
  · show A.units + 1 + 1 + _ < _
    simp only [PyData.depth]
    omega
  · obtain ⟨c, hc⟩ := PyProof.Rows.sortedHeap_at (out := o2.toArray) hoL
    have hsz : s1.heap.objs.size < (s1.heap.push { cls := .type "list", data := .seq vs.toArray }).objs.size := Heap.lt_size hoL
    refine hQ _ s1.heap.objs.size o2 c (fun b u e => ?_) g1 o1 hz hc (each_strs ?_)
    · have q := k1 b u e
      have hlt := Heap.lt_size q
      show (sortedHeap (s1.heap.push { cls := .type "list", data := .seq vs.toArray }) s1.heap.objs.size vs o2.toArray).get? b = some u
      rw [PyProof.Rows.sortedHeap_old (Nat.ne_of_lt hlt) (Nat.lt_trans hlt hsz)]
      exact Heap.get?_push_of_some _ q
    · rw [← msortS_perm pk]
      exact eo
end
/-- a set of texts that is held -/
def setSO (P : Program) (w : World) (p : Addr) (xs : List Str) : HO := .ext fun h => SetS P w h p xs
section
variable {X : Cx} {Z : Zt} {Wx : Wish} {G : Pg} {C C1 : Nat → List Wv → Mem → Out Wv} {a b c e : Expr} {ea : Ex} {pos p p2 p3 : Pos}
variable {pins : List (Addr × Obj)} {σ : L2.St} {H H1 : Hp} {s : Shared} {ι ι1 : List Addr} {M : Mem} {sw : Sw}
def rSetS (X : Cx) : List V → Hp → VK → Prop := fun vs H Q => ∃ (a : Addr) (xs : List Str), vs = [V.ref a] ∧ H a = some (.lst (xs.map V.str)) ∧ xs.length + 1 < scanBound ∧ ∀ p, H p = none → Q (.ref p) (upd H p (setSO X.prog X.w p (allS xs)))
theorem cr_setS (hc : X.calm = true) : CallR X (.type "set") (rSetS X) := by
  intro pins s σ H vs us Q I r h
  obtain ⟨a, xs, rfl, ha, hn, q⟩ := h
  rw [Vals.ref1 r]
  obtain ⟨its, rv, hl, hzz⟩ := I.list (SqL.of ha)
  refine set_of_texts (I.ok.hd hc) hl.isList (by simpa using strsAre_of rv) hn fun h' tk hS hk => ?_
  have hp : H s.heap.objs.size = none := I.hok.fresh (Nat.le_refl _)
  exact ⟨.ref _, _, I.laid (t' := tk) (a := s.heap.objs.size) (o := setSO X.prog X.w s.heap.objs.size (allS xs)) hk (Nat.le_refl _) ⟨hS, let ⟨o, _, _, _, ho, _⟩ := hS; ⟨o, ho⟩, fun h1 h2 q k => q.at k⟩, rfl, q _ hp⟩
def rSrtS (X : Cx) : List V → Hp → VK → Prop := fun vs H Q => ∃ (a : Addr) (xs : List Str), vs = [V.ref a] ∧ H a = some (setSO X.prog X.w a xs) ∧ xs.length ≤ sizeLine ∧ ∀ p, H p = none → Q (.ref p) (upd H p (.lst ((xs.mergeSort leS).map V.str)))
theorem cr_srtS (hc : X.calm = true) (hu : X.A.units + 10 < cLine) : CallR X (.builtin "sorted") (rSrtS X) := by
  intro pins s σ H vs us Q I r h
  obtain ⟨a, xs, rfl, ha, hn, q⟩ := h
  rw [Vals.ref1 r]
  have R : SetS X.prog X.w s.heap a xs := (I.hok a _ ha).1
  refine sorted_texts R (I.ok.hd hc) hu fun s' p out c k g o hp hg hv => ?_
  have hlen : ((xs.mergeSort leS).map V.str).length ≤ sizeLine := by rw [List.length_map, List.length_mergeSort]; exact hn
  have hnp : H p = none := I.hok.fresh hp
  have J : Inv X pins σ (upd H p (.lst ((xs.mergeSort leS).map V.str))) { s with heap := s'.heap, gens := s'.gens, drawn := s'.drawn, toks := s'.toks } :=
    I.call (ch := []) (Un.laid k hp hnp) (I.hok.laid k hp ⟨hlen, out, c, hv, hg⟩) (by rw [g]; exact I.bare) (fun _ z => nomatch z)
  have e : s' = { s with heap := s'.heap, gens := s'.gens, drawn := s'.drawn, toks := s'.toks } := by
    cases s'
    cases s
    cases o
    rfl
  rw [e]
  exact ⟨.ref p, _, J, rfl, q p hnp⟩
theorem wsr_strs {ws : List Wv} : ∀ {vs : List V} {xs : List Str}, WsR Z ι H ws vs → strsW ws = some xs → ws = xs.map Wv.str ∧ vs = xs.map V.str := by
  induction ws with
  | nil => intro vs xs r e; cases r; cases e; exact ⟨rfl, rfl⟩
  | cons w ws ih =>
    intro vs xs r e
    cases r with
    | cons r1 r2 =>
      unfold strsW at e
      rw [mapO] at e
      split at e
      · rename_i y ys e1 e2
        cases e
        obtain ⟨i1, i2⟩ := ih r2 e2
        cases w with
        | str z =>
          cases e1
          cases r1
          exact ⟨by rw [i1]; rfl, by rw [i2]; rfl⟩
        | _ => cases e1
      · cases e
theorem oncW_strs (xs : List Str) : oncW (xs.map Wv.str) = (allS xs).map Wv.str := by
  have go : ∀ (xs acc : List Str), (xs.map Wv.str).foldl (fun acc x => if x ∈ acc then acc else acc ++ [x]) (acc.map Wv.str) = (xs.foldl putS acc).map Wv.str := by
    intro xs
    induction xs with
    | nil => intro acc; rfl
    | cons x xs ih =>
      intro acc
      rw [List.map_cons, List.foldl_cons, List.foldl_cons, ← ih]
      congr 1
      unfold putS
      have hi : Wv.str x ∈ acc.map Wv.str ↔ x ∈ acc := by
        rw [List.mem_map]
        exact ⟨fun ⟨y, hy, e⟩ => by cases e; exact hy, fun h => ⟨x, h, rfl⟩⟩
      by_cases c : x ∈ acc
      · rw [if_pos c, if_pos (hi.mpr c)]
      · rw [if_neg c, if_neg (fun z => c (hi.mp z)), List.map_append]; rfl
  exact go xs []
theorem toD_strs (S : List Int) (M : Mem) (n : Nat) : ∀ xs : List Str, mapO (toD S M n) (xs.map Wv.str) = some (xs.map PyData.str)
  | [] => rfl
  | x :: xs => by
    rw [List.map_cons, mapO, toD_strs S M n xs]
    simp only [toD, List.map_cons]
theorem sortBy_strs {xs : List Str} {out : List Wv} (e : sortBy (xs.map PyData.str) (xs.map Wv.str) = some out) : out = (xs.mergeSort leS).map Wv.str := by
  unfold sortBy at e
  split at e
  · cases e
    rw [List.zip_map']
    have e2 := List.map_mergeSort (r := leS) (s := fun a b => W.dataLe false (fun p : PyData × Wv => p.1) a b) (f := fun b : Str => (PyData.str b, Wv.str b)) (l := xs) (fun a _ b _ => rfl)
    rw [← e2, List.map_map]
    rfl
  · cases e
theorem wsr_of_strs : ∀ xs : List Str, WsR Z ι H (xs.map Wv.str) (xs.map V.str)
  | [] => .nil
  | x :: xs => .cons (.str x) (wsr_of_strs xs)
theorem e_sset (k : Bx X Z Wx G) (hm : X.mg "sorted" = none) (hm2 : X.mg "set" = none) (ha : PE X a (TEx Z Wx G C C1 ea)) (hg : gloB X.env "sorted" = true := by kernel_rfl) (hg2 : gloB X.env "set" = true := by kernel_rfl)
    (he2 : starEach [a] X.env = (false, eval a X.env) :: starEach [] X.env := by rfl) (hpl2 : (backTo p3 (starEach [] X.env)).any (·.1) = false := by rfl)
    (he : starEach [Expr.Call (.Name "set" p2) [a] [] p3] X.env = (false, eval (Expr.Call (.Name "set" p2) [a] [] p3) X.env) :: starEach [] X.env := by rfl) (hpl : (backTo pos (starEach [] X.env)).any (·.1) = false := by rfl) :
    PE X (.Call (.Name "sorted" p) [.Call (.Name "set" p2) [a] [] p3] [] pos) (TEx Z Wx G C C1 (.bi .sset (.cons ea .nil))) := by
  obtain ⟨h1, h2, h3⟩ := gloB_ok hg
  obtain ⟨g1, g2, g3⟩ := gloB_ok hg2
  have hu : X.A.units + 10 < cLine := by have := k.toXOk.un; omega
  refine (pe_callB (cr_srtS k.toXOk.calm hu) h1 hm (by rfl) (pa_cons (pe_callTy (cr_setS k.toXOk.calm) g1 hm2 (by rfl) (pa_cons ha pa_nil he2) g3 g2 he2 hpl2) pa_nil he) h3 h2 he hpl).weak fun σ H Q h => ?_
  obtain ⟨ι, sw, M, sr, R, h⟩ := h
  have ev : evE G C C1 (.bi .sset (.cons ea .nil)) = fun sw M => (evE G C C1 ea sw M).bind fun w M => biW G .sset [w] M := by
    funext σ M
    simp only [evE, evL]
    cases evE G C C1 ea σ M <;> rfl
  rw [ev] at h
  refine tE.seqE sr R h fun w M1 v H1 ι1 e1 R1 q1 s1 h1 => ?_
  have h1' := (prim_newL _ _).out h1
  obtain ⟨out, e, hz, h5⟩ := newL_ok h1'
  obtain ⟨ws, ez, e⟩ := Option.bind_eq_some_iff.mp e
  split at e
  · rename_i hsc
    obtain ⟨xs, es, e⟩ := Option.bind_eq_some_iff.mp e
    obtain ⟨ds, ed, es2⟩ := Option.bind_eq_some_iff.mp e
    obtain ⟨ad, vs, rfl, hl, wr⟩ := lstOf_at R1 q1 ez
    obtain ⟨ew, ev⟩ := wsr_strs wr es
    subst ew ev
    rw [oncW_strs] at ed es2
    rw [toD_strs] at ed
    cases ed
    have eo := sortBy_strs es2
    subst eo
    refine ⟨ad, xs, rfl, hl, by rw [List.length_map] at hsc; exact hsc, fun p1 hp1 => ?_⟩
    refine ⟨p1, allS xs, rfl, upd_same, ?_, fun p2 hp2 => ?_⟩
    · have := allS_len xs
      rw [List.length_map] at hsc
      exact fits_of_scanBound (by omega)
    · have R2 := R1.fresh (ho := setSO X.prog X.w p1 (allS xs)) hp1
      have x2 : Ext ι1 ι1 H1 (upd H1 p1 (setSO X.prog X.w p1 (allS xs))) := Ext.fresh ι1 hp1
      have h6 : rOut Z ι1 (upd H1 p1 (setSO X.prog X.w p1 (allS xs))) (.ok (.ref M1.length) (M1 ++ [.lst (((allS xs).mergeSort leS).map Wv.str)])) Q := fun v H' ι' y R4 q4 => h5 v H' ι' (x2.trans y) R4 q4
      exact h6.lst R2 (wsr_of_strs _) hp2
  · cases e
end
end MP
end
section
set_option Elab.async false
set_option linter.all false
set_option maxRecDepth 100000
/-! MP30: range with a step; sorted(a text). -/
namespace MP
open PySem PySem.Spec PyProof.Rows L2
section
variable {X : Cx} {Z : Zt} {Wx : Wish} {G : Pg} {C C1 : Nat → List Wv → Mem → Out Wv} {a b c e tg : Expr} {ea eb ec : Ex} {pos p p2 p3 : Pos}
variable {pins : List (Addr × Obj)} {σ : L2.St} {H H1 : Hp} {s : Shared} {ι ι1 : List Addr} {M : Mem} {sw : Sw}
theorem wk_rngC (lo c : Int) (n : Nat) : Wk Z ι H (Itc lo c n) ((List.range n).map fun k : Nat => .int (lo + (k : Int) * c)) [] := by
  refine ⟨fun i ι' H' M' x R st hi => ?_, fun i ι' H' M' v H2 x R st hi y => ?_, fun ι' H' M' x R st => ?_⟩
  · have : i < n := by simpa using hi
    exact this
  · obtain ⟨rfl, rfl⟩ := y
    have hi : i < n := by simpa using hi
    exact ⟨_, by simp [hi], Ext.refl _ _, R, .int _⟩
  · show n ≤ _
    simp
theorem i_rng3 (k : Bx X Z Wx G) (hm : X.mg "range" = none) (ha : PE X a (TEx Z Wx G C C1 ea)) (hb : PE X b (TEx Z Wx G C C1 eb)) (hc : PE X c (TEx Z Wx G C C1 ec)) (hg : gloB X.env "range" = true := by kernel_rfl)
    (hs : starEach [a, b, c] X.env = (false, eval a X.env) :: starEach [b, c] X.env := by rfl) (hs2 : starEach [b, c] X.env = (false, eval b X.env) :: starEach [c] X.env := by rfl) (hs3 : starEach [c] X.env = (false, eval c X.env) :: starEach [] X.env := by rfl) (hpl : (backTo pos (starEach [b, c] X.env)).any (·.1) = false := by rfl) :
    PI X tg (.Call (.Name "range" p) [a, b, c] [] pos) (tI X Z Wx (evI G C C1 (.rng3 ea eb ec))) := by
  obtain ⟨h1, h2, h3⟩ := gloB_ok hg
  refine (pi_range3 h1 hm (a_cons ha (a_cons hb (a_cons hc a_nil hs3) hs2) hs) hs hpl).weak fun σ H R ⟨ι, sw, M, s, R0, h⟩ => ⟨ι, sw, M, s, R0, ?_⟩
  simp only [evI] at h
  simp only [evL]
  cases e1 : evE G C C1 ea sw M with
  | bad => rw [e1] at h; exact h
  | exc c M1 => rw [e1] at h; exact h
  | ok x M1 =>
    rw [e1] at h
    simp only [Out.bind_ok] at h ⊢
    cases e2 : evE G C C1 eb sw M1 with
    | bad => rw [e2] at h; exact h
    | exc c M2 => rw [e2] at h; exact h
    | ok y M2 =>
      rw [e2] at h
      simp only [Out.bind_ok] at h ⊢
      cases e3 : evE G C C1 ec sw M2 with
      | bad => rw [e3] at h; exact h
      | exc c M3 => rw [e3] at h; exact h
      | ok z M3 =>
        rw [e3] at h
        simp only [Out.bind_ok] at h ⊢
        intro vs H' ι' x1 R1 wr
        cases hx : toI x with
        | none => simp only [hx] at h; exact False.elim h
        | some i =>
          cases hy : toI y with
          | none => simp only [hx, hy] at h; exact False.elim h
          | some j =>
            cases hz : toI z with
            | none => simp only [hx, hy, hz] at h; exact False.elim h
            | some d =>
              simp only [hx, hy, hz] at h
              cases x <;> cases hx
              cases y <;> cases hy
              cases z <;> cases hz
              cases wr with
              | cons w1 t1 =>
                cases t1 with
                | cons w2 t2 =>
                  cases t2 with
                  | cons w3 t3 =>
                    cases t3
                    cases w1; cases w2; cases w3
                    cases hc : (rngOk i && rngOk j && decide (0 < d) && decide (d ≤ 1000)) with
                    | false => rw [hc] at h; exact False.elim h
                    | true =>
                      rw [hc] at h
                      have h : iOut X Z Wx σ ι H (.ok (rngS i j d, []) M3) R := h
                      simp only [Bool.and_eq_true, decide_eq_true_eq, rngOk] at hc
                      obtain ⟨⟨⟨⟨i1, i2⟩, j1, j2⟩, d1⟩, d2⟩ := hc
                      have hrs : Builtin.Range.rangeSize i j d = (((j - i + d - 1) / d).toNat : Nat) := by
                        unfold Builtin.Range.rangeSize
                        rw [if_pos (by omega)]
                        split
                        · rename_i hlt
                          have e1 : (j - i + d - 1) / d = (j - i - 1) / d + 1 := by
                            rw [show j - i + d - 1 = (j - i - 1) + 1 * d by omega, Int.add_mul_ediv_right _ _ (by omega)]
                          have e2 : 0 ≤ (j - i - 1) / d := Int.ediv_nonneg (by omega) (by omega)
                          omega
                        · rename_i hge
                          have e1 : (j - i + d - 1) / d ≤ 0 := by
                            have := Int.ediv_le_ediv (a := j - i + d - 1) (b := d - 1) (c := d) (by omega) (by omega)
                            have e0 : (d - 1) / d = 0 := Int.ediv_eq_zero_of_lt (by omega) (by omega)
                            omega
                          omega
                      have hsm : Builtin.Range.small i j d = true := by
                        unfold Builtin.Range.small
                        rw [hrs]
                        have e2 : ((j - i + d - 1) / d).toNat ≤ (2 ^ 62 : Nat) := by
                          have := Int.ediv_le_self (a := j - i + d - 1) d
                          by_cases h0 : 0 ≤ j - i + d - 1
                          · have := Int.ediv_le_self d h0
                            omega
                          · have : (j - i + d - 1) / d < 0 := Int.ediv_neg_of_neg_of_pos (by omega) (by omega)
                            omega
                        have e3 : (j - i + d - 1) / d * d ≤ j - i + d - 1 := Int.ediv_mul_le _ (by omega)
                        generalize (j - i + d - 1) / d = q at *
                        have e4 : 0 ≤ q → 0 ≤ q * d := fun h => Int.mul_nonneg h (by omega)
                        simp only [Builtin.Range.rangeFitsLong, Bool.and_eq_true, Bool.or_eq_true, decide_eq_true_eq, beq_iff_eq, show d > 0 from d1, if_true]
                        omega
                      refine ⟨i, j, d, _, rfl, ⟨by omega, by omega, hsm, hrs⟩, h _ H' ι' none ((Lk.none R1 LkS.nil).pre x1) (wk_rngC i d _)⟩
/-! ### sorted(a text) -/
def signs (x : Str) : List Str := x.cps.toList.map fun c => ⟨#[c]⟩
theorem signs_len (x : Str) : (signs x).length = x.cps.size := by unfold signs; simp
theorem each_of_ix {α β : Type} {R : α → β → Prop} : ∀ {as : List α} {bs : List β}, as.length = bs.length → (∀ (i : Nat) a b, as[i]? = some a → bs[i]? = some b → R a b) → W.EachIs R as bs
  | [], [], _, _ => .nil
  | a :: as, b :: bs, h, f => .cons (f 0 a b rfl rfl) (each_of_ix (by simpa using h) fun i x y hx hy => f (i + 1) x y (by simpa using hx) (by simpa using hy))
theorem sgnW_signs (x : Str) : sgnW x = (signs x).map Wv.str := by unfold sgnW signs; rw [List.map_map]; rfl
def rSrtT : List V → Hp → VK → Prop := fun vs H Q => ∃ x : Str, vs = [V.str x] ∧ x.length ≤ 1000 ∧ ∀ p, H p = none → Q (.ref p) (upd H p (.lst (((signs x).mergeSort leS).map V.str)))
theorem cr_srtT (hc : X.calm = true) (hu : X.A.units + 10 < cLine) : CallR X (.builtin "sorted") rSrtT := by
  intro pins s σ H vs us Q I r h
  obtain ⟨x, rfl, hx, q⟩ := h
  obtain ⟨u, rfl, ru⟩ := vals1 r
  obtain ⟨t, rfl⟩ := ru
  have hz : 1001 ≤ sizeLine := by decide
  have hxs : x.cps.size ≤ 1000 := hx
  refine PySem.Calls.call_function_entry kind_sorted plain_sorted entry_sorted (args_sorted1 _) ?_
  unfold Builtin.«sorted»
  refine wpAny_bind (m := checkCount "sorted" 1 1 _) (wpAny_pure ?_)
  refine wpAny_bind (wpAny_collect_str (A := X.A.in1) (I.ok.hd hc) x t (fun s1 acc k1 g1 d1 o1 hit => ?_) (by omega))
  have e1 : W.EachIs (fun u (b : Str) => RelV (V.str b) u) acc.toList (signs x) := by
    refine each_of_ix (by rw [Array.length_toList, hit.1, signs_len]) fun i v b hv hb => ?_
    rw [Array.getElem?_toList] at hv
    have := hit.2 i v hv
    unfold signs at hb
    rw [List.getElem?_map, Array.getElem?_toList] at hb
    obtain ⟨c, u, hc2, rfl⟩ := this
    rw [hc2] at hb
    cases hb
    exact ⟨u, rfl⟩
  have hvl : acc.toList.length ≤ 1000 := by rw [Array.length_toList, hit.1]; exact hxs
  refine wpAny_bind (wpAny_newList ?_ (by omega))
  have hoL : (s1.heap.push { cls := .type "list", data := .seq acc.toList.toArray }).get? s1.heap.objs.size = some (seqObj "list" acc.toList.toArray 0) := Heap.get?_push_size _ rfl
  have er : W.EachIs (fun v (b : Str) => ∃ as, Reads (s1.heap.push { cls := .type "list", data := .seq acc.toList.toArray }) v (PyData.str b) as ∧ s1.heap.objs.size ∉ as) acc.toList (signs x) :=
    e1.mono fun u b ⟨tk, q⟩ => ⟨[], by rw [q]; exact .str b tk, by simp⟩
  refine wpAny_bind (wpAny_holding (PySem.W.list_sort_data (s := { s1 with heap := s1.heap.push { cls := .type "list", data := .seq acc.toList.toArray } }) (A := X.A.in1) (enc := fun b : Str => PyData.str b) hoL e1 er (W.AllAlike.of fun _ _ => rfl) (W.Sortable.others fun b => ⟨by simp, by simp⟩) (by rw [signs_len]; omega) (fun b hb => ?_) fun o2 ho2 eo => wpAny_pure ⟨_, rfl, ?_⟩))
  · show X.A.units + 1 + 1 + _ < _
    simp only [PyData.depth]
    omega
  · obtain ⟨c, hc2⟩ := PyProof.Rows.sortedHeap_at (out := o2.toArray) hoL
    have hsz : s1.heap.objs.size < (s1.heap.push { cls := .type "list", data := .seq acc.toList.toArray }).objs.size := Heap.lt_size hoL
    have J0 : Inv X pins σ H { s with heap := s1.heap, gens := s1.gens, drawn := s1.drawn, toks := s1.toks } := I.call (ch := []) (Un.kept k1) (I.hok.kept k1) (by rw [g1]; exact I.bare) (fun _ z => nomatch z)
    have keep : ∀ b u, s1.heap.get? b = some u → (sortedHeap (s1.heap.push { cls := .type "list", data := .seq acc.toList.toArray }) s1.heap.objs.size acc.toList o2.toArray).get? b = some u := fun b u q => by
      have hlt := Heap.lt_size q
      rw [PyProof.Rows.sortedHeap_old (Nat.ne_of_lt hlt) (Nat.lt_trans hlt hsz)]
      exact Heap.get?_push_of_some _ q
    have hlen : (((signs x).mergeSort leS).map V.str).length ≤ sizeLine := by rw [List.length_map, List.length_mergeSort, signs_len]; omega
    have hnp : H s1.heap.objs.size = none := J0.hok.fresh (Nat.le_refl _)
    have J := J0.laid (t' := s1.toks) (a := s1.heap.objs.size) (o := .lst (((signs x).mergeSort leS).map V.str)) keep (Nat.le_refl _) ⟨hlen, o2, c, each_strs eo, hc2⟩
    have e : ({ s1 with heap := sortedHeap (s1.heap.push { cls := .type "list", data := .seq acc.toList.toArray }) s1.heap.objs.size acc.toList o2.toArray } : Shared) = { s with heap := sortedHeap (s1.heap.push { cls := .type "list", data := .seq acc.toList.toArray }) s1.heap.objs.size acc.toList o2.toArray, gens := s1.gens, drawn := s1.drawn, toks := s1.toks } := by
      cases s1
      cases s
      cases o1
      rfl
    show EP X pins σ Q (.ref s1.heap.objs.size) _
    rw [e]
    exact ⟨.ref s1.heap.objs.size, _, J, rfl, q _ hnp⟩
theorem e_sorT (k : Bx X Z Wx G) (hm : X.mg "sorted" = none) (ha : PE X a (TEx Z Wx G C C1 ea)) (hg : gloB X.env "sorted" = true := by kernel_rfl)
    (he : starEach [a] X.env = (false, eval a X.env) :: starEach [] X.env := by rfl) (hpl : (backTo pos (starEach [] X.env)).any (·.1) = false := by rfl) :
    PE X (.Call (.Name "sorted" p) [a] [] pos) (TEx Z Wx G C C1 (.bi .sorT (.cons ea .nil))) := by
  obtain ⟨h1, h2, h3⟩ := gloB_ok hg
  have hu : X.A.units + 10 < cLine := by have := k.toXOk.un; omega
  refine (pe_callB (cr_srtT k.toXOk.calm hu) h1 hm (by rfl) (pa_cons ha pa_nil he) h3 h2 he hpl).weak fun σ H Q h => ?_
  obtain ⟨ι, sw, M, sr, R, h⟩ := h
  have ev : evE G C C1 (.bi .sorT (.cons ea .nil)) = fun sw M => (evE G C C1 ea sw M).bind fun w M => biW G .sorT [w] M := by
    funext σ M
    simp only [evE, evL]
    cases evE G C C1 ea σ M <;> rfl
  rw [ev] at h
  refine tE.seqE sr R h fun w M1 v H1 ι1 e1 R1 q1 s1 h1 => ?_
  cases w with
  | str x =>
    have h1' := (prim_newL _ _).out h1
    obtain ⟨out, e, hz, h5⟩ := newL_ok h1'
    split at e
    · rename_i hsc
      obtain ⟨ds, ed, es2⟩ := Option.bind_eq_some_iff.mp e
      rw [sgnW_signs] at ed es2
      rw [toD_strs] at ed
      cases ed
      have eo := sortBy_strs es2
      subst eo
      cases q1
      exact ⟨x, rfl, hsc, fun p2 hp2 => h5.lst R1 (wsr_of_strs _) hp2⟩
    · cases e
  | _ => exact False.elim ((prim_bi _ _ _).out h1)
end
end MP
end
section
set_option Elab.async false
set_option linter.all false
set_option maxRecDepth 100000
/-! MP31: zip of two lists; list.count of a tuple. -/
namespace MP
open PySem PySem.Spec PyProof.Rows L2
section
variable {X : Cx} {Z : Zt} {Wx : Wish} {G : Pg} {C C1 : Nat → List Wv → Mem → Out Wv} {a b c e tg : Expr} {ea eb ec : Ex} {pos p p2 p3 : Pos}
variable {pins : List (Addr × Obj)} {σ : L2.St} {H H1 : Hp} {s : Shared} {ι ι1 : List Addr} {M : Mem} {sw : Sw}
theorem seqL_at {w : Wv} {v : V} {r : List Wv × List (Nat × Ob)} (h : WR Z ι H w v) (e : seqL w M = some r) : ∃ l a ws, v = .ref a ∧ ι[l]? = some a ∧ M[l]? = some (.lst ws) ∧ r = (ws, [(l, .lst ws)]) := by
  cases h with
  | ref hl =>
    simp only [seqL] at e
    split at e
    · rename_i ws hM
      cases e
      exact ⟨_, _, _, rfl, hl, hM, rfl⟩
    · cases e
  | _ => cases e
theorem wk_zip {l m : Nat} {a b : Addr} {ws us : List Wv} (hl : ι[l]? = some a) (hm : ι[m]? = some b) : Wk Z ι H (Itz Z.K a b) ((ws.zip us).map fun p => .tup [p.1, p.2]) [(l, .lst ws), (m, .lst us)] := by
  have at_ : ∀ {ι' H' M'}, Ext ι ι' H H' → RM Z ι' M' H' → stays [(l, .lst ws), (m, .lst us)] M' = true → ∃ vs ys, H' a = some (.lst vs) ∧ WsR Z ι' H' ws vs ∧ H' b = some (.lst ys) ∧ WsR Z ι' H' us ys := fun {ι' H' M'} x R st => by
    have hM : M'[l]? = some (.lst ws) ∧ M'[m]? = some (.lst us) := by simpa [stays] using st
    obtain ⟨vs, h1, h2⟩ := R.ob _ _ _ hM.1 (x.le.ix _ _ hl)
    obtain ⟨ys, h3, h4⟩ := R.ob _ _ _ hM.2 (x.le.ix _ _ hm)
    exact ⟨vs, ys, h1, h2, h3, h4⟩
  refine ⟨fun i ι' H' M' x R st hi => ?_, fun i ι' H' M' v H2 x R st hi y => ?_, fun ι' H' M' x R st => ?_⟩
  · obtain ⟨vs, ys, h1, h2, h3, h4⟩ := at_ x R st
    have hi : i < ws.length ∧ i < us.length := by simpa [Nat.lt_min] using hi
    have i1 : i < vs.length := by rw [← h2.length]; exact hi.1
    have i2 : i < ys.length := by rw [← h4.length]; exact hi.2
    exact ⟨vs, ys, vs[i], ys[i], SqL.of h1, SqL.of h3, by simp, by simp⟩
  · obtain ⟨vs, ys, h1, h2, h3, h4⟩ := at_ x R st
    obtain ⟨T, v1, v2, rfl, hT, rfl, y1, y2⟩ := y
    obtain ⟨w1, g1, g2⟩ := h2.get2 (y1 vs (SqL.of h1))
    obtain ⟨w2, g3, g4⟩ := h4.get2 (y2 ys (SqL.of h3))
    have ex : Ext ι' ι' H' (upd H' T (.tup [v1, v2])) := Ext.fresh ι' hT
    exact ⟨.tup [w1, w2], by rw [List.getElem?_map, (List.getElem?_zip_eq_some (z := (w1, w2))).mpr ⟨g1, g3⟩]; rfl, ex, R.fresh hT, .tup (SqT.of upd_same) (.cons (g2.mono ex.le) (.cons (g4.mono ex.le) .nil))⟩
  · obtain ⟨vs, ys, h1, h2, h3, h4⟩ := at_ x R st
    have l1 := h2.length
    have l2 := h4.length
    refine ⟨vs, ys, SqL.of h1, SqL.of h3, ?_⟩
    simp only [List.length_map, List.length_zip]
    omega
theorem i_zip {elts : List Expr} {kk : Nat} {tpos : Pos} (k : Bx X Z Wx G) (hm : X.mg "zip" = none) (ha : PE X a (TEx Z Wx G C C1 ea)) (hb : PE X b (TEx Z Wx G C C1 eb)) (hg : gloB X.env "zip" = true := by kernel_rfl)
    (hs : starEach [a, b] X.env = (false, eval a X.env) :: starEach [b] X.env := by rfl) (hs2 : starEach [b] X.env = (false, eval b X.env) :: starEach [] X.env := by rfl) (hpl : (backTo pos (starEach [b] X.env)).any (·.1) = false := by rfl) :
    PI X (.Tuple elts kk tpos) (.Call (.Name "zip" p) [a, b] [] pos) (tI X Z Wx (evI G C C1 (.zip ea eb))) := by
  obtain ⟨h1, h2, h3⟩ := gloB_ok hg
  refine (pi_zip h1 hm (a_cons ha (a_cons hb a_nil hs2) hs) hs hpl).weak fun σ H R ⟨ι, sw, M, s, R0, h⟩ => ⟨ι, sw, M, s, R0, ?_⟩
  simp only [evI] at h
  simp only [evL]
  cases e1 : evE G C C1 ea sw M with
  | bad => rw [e1] at h; exact h
  | exc c M1 => rw [e1] at h; exact h
  | ok x M1 =>
    rw [e1] at h
    simp only [Out.bind_ok] at h ⊢
    cases e2 : evE G C C1 eb sw M1 with
    | bad => rw [e2] at h; exact h
    | exc c M2 => rw [e2] at h; exact h
    | ok y M2 =>
      rw [e2] at h
      simp only [Out.bind_ok] at h ⊢
      intro vs H' ι' x1 R1 wr
      obtain ⟨r, er, h⟩ := iOut.ofO h
      obtain ⟨q, eq, h⟩ := iOut.ofO h
      cases wr with
      | cons w1 t1 =>
        cases t1 with
        | cons w2 t2 =>
          cases t2
          obtain ⟨l1, a1, ws1, rfl, hl1, hM1, rfl⟩ := seqL_at w1 er
          obtain ⟨l2, a2, ws2, rfl, hl2, hM2, rfl⟩ := seqL_at w2 eq
          obtain ⟨xs1, f1, g1⟩ := R1.ob _ _ _ hM1 hl1
          obtain ⟨xs2, f2, g2⟩ := R1.ob _ _ _ hM2 hl2
          have W := wk_zip (Z := Z) (H := H') (ws := ws1) (us := ws2) hl1 hl2
          rw [k.K]
          exact ⟨a1, a2, xs1, xs2, rfl, SqL.of f1, SqL.of f2, h _ H' ι' none ((Lk.none R1 (fun M => ⟨rfl, rfl⟩)).pre x1) W⟩
/-! ### list.count of a tuple -/
def cntL (G : Pg) (x : Wv) (ws : List Wv) (M : Mem) : Out Wv := match ws with
  | [y] => cntW G x y M
  | _ => .bad
theorem prim_cntW (x y : Wv) (M : Mem) : Prim (cntW G x y M) := by
  unfold cntW
  split
  · split
    · exact Prim.ok.chk
    · exact Prim.bad
  · exact Prim.bad
theorem prim_cntL (x : Wv) (ws : List Wv) (M : Mem) : Prim (cntL G x ws M) := by
  unfold cntL
  split
  · exact prim_cntW _ _ _
  · exact Prim.bad
theorem depthAll_le {n : Nat} : ∀ {ds : List PyData}, (∀ d ∈ ds, d.depth ≤ n) → PyData.depthAll ds ≤ n
  | [], _ => Nat.zero_le _
  | d :: ds, h => by
    simp only [PyData.depthAll]
    have h1 := h d (List.mem_cons_self ..)
    have h2 := depthAll_le (ds := ds) fun e he => h e (List.mem_cons_of_mem _ he)
    omega
theorem plainAll_of : ∀ {ds : List PyData}, (∀ d ∈ ds, noL d = true) → PyData.plainAll ds = true
  | [], _ => rfl
  | d :: ds, h => by
    simp only [PyData.plainAll, noL_plain (h d (List.mem_cons_self ..)), plainAll_of (ds := ds) fun e he => h e (List.mem_cons_of_mem _ he), Bool.and_self]
theorem mt_cntT (k : XOk X Z) (hS : Z.S = G.S) : MtR X "list.count" (rM Z (cntL G)) := by
  intro pins s σ H x xs v us Q I rx rxs h
  obtain ⟨ι, M, w, ws, R, hw, hws, h⟩ := h
  unfold cntL at h
  split at h
  · rename_i y
    obtain ⟨x2, rfl, hx⟩ := hws.one
    obtain ⟨u, rfl, ru⟩ := vals1 rxs
    unfold cntW at h
    split at h
    · rename_i zs vs el
      split at h
      · rename_i ds d ed e2
        obtain ⟨c, h⟩ := h.chk
        simp only [Bool.and_eq_true] at c
        obtain ⟨⟨⟨c1, c2⟩, c3⟩, c4⟩ := c
        cases hw with
        | ref hl =>
          rename_i l a
          simp only [lstOf] at el
          split at el
          · rename_i zs' hM
            cases el
            obtain ⟨ys, e1, e3⟩ := R.ob _ _ _ hM hl
            cases rx
            obtain ⟨its, rv, pl, hzz⟩ := I.list (SqL.of (K := X.K) e1)
            obtain ⟨dp, hlen⟩ := mapO_dp hS R e3 ed
            obtain ⟨as, ra⟩ := Dp.readsAll I ds _ _ (by rw [k.K]; exact dp) rv
            obtain ⟨bs, rb⟩ := Dp.reads I d _ _ (by rw [k.K]; exact toD_dp hS R _ hx e2) ru
            have n1 : ∀ d ∈ ds, noL d = true := fun d hd => List.all_eq_true.mp c1 d hd
            have n2 : PyData.depthAll ds ≤ 32 := depthAll_le fun d hd => of_decide_eq_true (List.all_eq_true.mp c3 d hd)
            refine PySem.SeqAt.count_list_data (xs := ds) (d := d) pl.isList (by simpa using ra) rb (plainAll_of n1) (noL_plain c2) (by have := k.un; omega) ?_
            exact ⟨.int _, H, I.tok _, ⟨_, rfl⟩, h.val R (.int _)⟩
          · cases el
        | _ => cases el
      · exact False.elim h
    · exact False.elim h
  · exact False.elim h
theorem e_cntT (k : Bx X Z Wx G) {apos : Pos} (ho : PE X a (TEx Z Wx G C C1 ea)) (hb : PE X b (TEx Z Wx G C C1 eb))
    (hbase : attributeBase a "count" X.env (eval a X.env) = eval a X.env := by rfl)
    (hfew : ((backTo pos (starEach [b] X.env)).all (fun x => !x.1) && (backToKw pos (keywordEach [] X.env)).all (fun x => x.1.isSome)
      && decide (([b] : List Expr).length + ([] : List Keyword).length + (if ([] : List Keyword).isEmpty then 0 else 1) < 30)) = true := by rfl)
    (hline : (apos.endLine == pos.line) = true := by rfl) (hs : starEach [b] X.env = (false, eval b X.env) :: starEach [] X.env := by rfl) (hplain : (backTo pos (starEach [] X.env)).any (·.1) = false := by rfl) :
    PE X (.Call (.Attribute a "count" apos) [b] [] pos) (TEx Z Wx G C C1 (.cntT ea eb)) := by
  have ev : evE G C C1 (.cntT ea eb) = fun sw M => (evE G C C1 ea sw M).bind fun x M => .chk (bmT .lcount x M) ((evL G C C1 (.cons eb .nil) sw M).bind fun ws M => cntL G x ws M) := by
    funext σ M
    simp only [evE, evL]
    cases evE G C C1 ea σ M with
    | ok x M1 =>
      simp only [Out.bind_ok]
      cases evE G C C1 eb σ M1 <;> rfl
    | exc => rfl
    | bad => rfl
  rw [TEx, ev]
  have ha := a_cons (Wx := Wx) hb (a_nil (X := X) (Z := Z) (Wx := Wx) (G := G) (C := C) (C1 := C1)) hs
  refine ⟨fun pins s σ H Q I ⟨ι, sw, M, sr, R, h⟩ => ?_⟩
  have ht : tE Z Wx (evE G C C1 ea) σ H fun v H1 => ∃ ι1 M1 w, RM Z ι1 M1 H1 ∧ SR Z ι1 H1 sw σ ∧ WR Z ι1 H1 w v ∧ bmT .lcount w M1 = true ∧ eOut Z Wx σ ι1 H1 ((evL G C C1 (.cons eb .nil) sw M1).bind fun ws M => cntL G w ws M) Q := tE.seqE sr R h fun x M1 v H1 ι1 e1 R1 q1 s1 h1 => by
    obtain ⟨c, h1⟩ := h1.chk
    exact ⟨ι1, M1, x, R1, s1, q1, c, h1⟩
  refine wpAny_Call_method_late hbase hfew hline rfl (thn (ho.run pins s σ H _ I ht) fun v s1 ⟨x, H1, I1, r1, ι1, M1, w, R1, sr1, q1, ty, h1⟩ => ?_)
  obtain ⟨h3, h4⟩ := bm_type I1 R1 q1 r1 ty
  refine ⟨bmTy .lcount, bmId .lcount, bm_pa .lcount, bm_slot .lcount, bm_desc .lcount, h3, h4, ?_⟩
  have hA := ha.run pos pins s1 σ H1 (fun xs H2 => rM Z (cntL G) x xs H2 Q) I1 (tA.seqE sr1 R1 h1 fun ws M2 vs H2 ι2 e2 R2 q2 s2 h2 => ⟨ι2, M2, w, ws, R2, q1.mono e2.le, q2, (prim_cntL _ _ _).out h2⟩)
  rw [hs] at hA ⊢
  refine Calls.callWith_builtin (by show (false || (backTo pos (starEach [] X.env)).any (·.1)) = false; rw [hplain] <;> rfl) (Calls.evalArgs_plain ?_)
  exact thn hA fun us s2 ⟨vs, H2, I2, r2, q2⟩ => mt_cntT k.toXOk k.hS pins s2 σ H2 x vs v us Q I2 r1 r2 q2
end
end MP
end
section
set_option Elab.async false
set_option linter.all false
set_option maxRecDepth 100000
/-! MP32: try .. except B as e: return [isinstance(e, X1), isinstance(e, X2), isinstance(e, X3)].index(True). -/
namespace MP
open PySem PySem.Spec PyProof.Rows L2
/-- what is to be known of the classes -/
structure TryOk (K : PySem.W.Frag) (mg : Str → Option Value) (Z : Zt) (x x1 x2 x3 : Str) (c1 c2 c3 : Nat) : Prop where
  B : ∃ B, mg x = some (.ref B) ∧ ∀ c ∈ [c1, c2, c3], PySem.W.exmOne K (.ref (Z.exc c)) (.ref B) = some true
  cl : ∀ c ∈ [c1, c2, c3], ExcC K (Z.exc c)
  m1 : mg x1 = some (.ref (Z.exc c1))
  m2 : mg x2 = some (.ref (Z.exc c2))
  m3 : mg x3 = some (.ref (Z.exc c3))
  kit : ∀ c ∈ [c1, c2, c3], ∀ d ∈ [c1, c2, c3], PySem.W.kitOne K (.ref (Z.exc c)) (.ref (Z.exc d)) = some (decide (c = d))
  nd : c1 ≠ c2 ∧ c1 ≠ c3 ∧ c2 ≠ c3
section
variable {X : Cx} {Z : Zt} {Wx : Wish} {G : Pg} {C C1 : Nat → List Wv → Mem → Out Wv} {fu : Nat}
theorem Bx.tr (k : Bx X Z Wx G) {pn : List (Addr × Obj)} {xe : Value → Shared → Prop} {W : Wish} (tk : Takes (X.tr pn xe) (wxO Z W)) : Bx (X.tr pn xe) Z W G :=
  ⟨⟨k.K, k.P, k.w, k.calm, k.un, k.gd⟩, k.hS, k.nd, tk⟩
/-- what is never reached -/
theorem e_no {e : Expr} : PE X e (TEx Z Wx G C C1 .no) := ⟨fun pins s σ H Q I ⟨ι, sw, M, sr, R, h⟩ => by simp only [evE] at h; exact False.elim h⟩
theorem s_no {st : Stmt} : PS X st (TSx Z Wx G C C1 fu (.ex .no)) := ⟨fun pins s σ H D I ⟨ι, sw, M, sr, R, h⟩ => by simp only [evS, evE] at h; exact False.elim h⟩
/-- isinstance(e, x), e the exception held -/
theorem pe_isE {a D : Addr} {oe : Obj} {pn : List (Addr × Obj)} {i : Nat} {n x : Str} {p q r s : Pos} (E : ExcC X.K D) (hz : Zc (.ref D) none oe) (hf : ∃ vs, oe.data = .fields vs) (hm : X.mg "isinstance" = none) {Dx : Addr} (hx : X.mg x = some (.ref Dx)) {b : Bool} (kb : PySem.W.kitOne X.K (.ref D) (.ref Dx) = some b)
    (hg : gloB X.env "isinstance" = true) (hgx : gloB X.env x = true) (hv : varB X.N X.env.scope i n = true)
    (he : starEach [.Name n q, .Name x r] X.env = (false, eval (.Name n q) X.env) :: starEach [.Name x r] X.env) (he2 : starEach [.Name x r] X.env = (false, eval (.Name x r) X.env) :: starEach [] X.env) (hpl : (backTo s (starEach [.Name x r] X.env)).any (·.1) = false) :
    PE (X.suite a ((a, oe) :: pn)) (.Call (.Name "isinstance" p) [.Name n q, .Name x r] [] s) (fun σ H Q => σ[i]? = some (some (.ref a)) ∧ Q (.bl b) H) := by
  obtain ⟨h1, h2, h3⟩ := gloB_ok hg
  obtain ⟨g1, g2, g3⟩ := gloB_ok hgx
  obtain ⟨v1, v2, v3, v4⟩ := varB_ok hv
  have e1 : PE (X.suite a ((a, oe) :: pn)) (.Name n q) (tVar i) := pe_var v1 v2 v3 v4
  have e2 : PE (X.suite a ((a, oe) :: pn)) (.Name x r) (tC (.ref Dx)) := pe_glob (X := X.suite a ((a, oe) :: pn)) g1 hx rfl g2
  have ha : PA (X.suite a ((a, oe) :: pn)) [.Name n q, .Name x r] _ := pa_cons e1 (pa_cons e2 pa_nil he2) he
  refine (pe_callB (X := X.suite a ((a, oe) :: pn)) (call_isE E hz hf) h1 hm (by rfl) ha h3 h2 he hpl).weak fun σ H Q ⟨hs, h⟩ => ?_
  exact ⟨.ref a, hs, .ref Dx, .ref Dx, b, rfl, (fun u ru => ru), kb, h⟩
theorem s_tryI (k : Bx X Z Wx G) (i c1 c2 c3 : Nat) {n x x1 x2 x3 : Str} {body : List Stmt} {sl : Sl} {np pos pos' lp ap cp rp tp p1 q1 r1 s1 p2 q2 r2 s2 p3 q3 r3 s3 : Pos} {j : Nat} (T : TryOk X.K X.mg Z x x1 x2 x3 c1 c2 c3) (hm : X.mg "isinstance" = none)
    (hb : ∀ (W : Wish) (pn : List (Addr × Obj)) (xe : Value → Shared → Prop), Bx (X.tr pn xe) Z W G → PassesOwn (model X.prog X.w) X.A X.env xe → PSs (X.tr pn xe) body (TSl Z W G C C1 fu sl))
    (hs : X.stack = X.env :: X.outer := by rfl) (hf : X.env.frame = some X.env.locals := by rfl) (hln : X.env.kindOf n = some .local := by kernel_rfl) (hv : varB X.N X.env.scope i n = true := by kernel_rfl) (hgb : gloB X.env x = true := by kernel_rfl)
    (hg : gloB X.env "isinstance" = true := by kernel_rfl) (hg1 : gloB X.env x1 = true := by kernel_rfl) (hg2 : gloB X.env x2 = true := by kernel_rfl) (hg3 : gloB X.env x3 = true := by kernel_rfl)
    (ha1 : starEach [.Name n q1, .Name x1 r1] X.env = (false, eval (.Name n q1) X.env) :: starEach [.Name x1 r1] X.env := by rfl) (hb1 : starEach [.Name x1 r1] X.env = (false, eval (.Name x1 r1) X.env) :: starEach [] X.env := by rfl) (hd1 : (backTo s1 (starEach [.Name x1 r1] X.env)).any (·.1) = false := by rfl)
    (ha2 : starEach [.Name n q2, .Name x2 r2] X.env = (false, eval (.Name n q2) X.env) :: starEach [.Name x2 r2] X.env := by rfl) (hb2 : starEach [.Name x2 r2] X.env = (false, eval (.Name x2 r2) X.env) :: starEach [] X.env := by rfl) (hd2 : (backTo s2 (starEach [.Name x2 r2] X.env)).any (·.1) = false := by rfl)
    (ha3 : starEach [.Name n q3, .Name x3 r3] X.env = (false, eval (.Name n q3) X.env) :: starEach [.Name x3 r3] X.env := by rfl) (hb3 : starEach [.Name x3 r3] X.env = (false, eval (.Name x3 r3) X.env) :: starEach [] X.env := by rfl) (hd3 : (backTo s3 (starEach [.Name x3 r3] X.env)).any (·.1) = false := by rfl)
    (hl1 : starEach [.Call (.Name "isinstance" p1) [.Name n q1, .Name x1 r1] [] s1, .Call (.Name "isinstance" p2) [.Name n q2, .Name x2 r2] [] s2, .Call (.Name "isinstance" p3) [.Name n q3, .Name x3 r3] [] s3] X.env = (false, eval (.Call (.Name "isinstance" p1) [.Name n q1, .Name x1 r1] [] s1) X.env) :: starEach [.Call (.Name "isinstance" p2) [.Name n q2, .Name x2 r2] [] s2, .Call (.Name "isinstance" p3) [.Name n q3, .Name x3 r3] [] s3] X.env := by rfl)
    (hl2 : starEach [.Call (.Name "isinstance" p2) [.Name n q2, .Name x2 r2] [] s2, .Call (.Name "isinstance" p3) [.Name n q3, .Name x3 r3] [] s3] X.env = (false, eval (.Call (.Name "isinstance" p2) [.Name n q2, .Name x2 r2] [] s2) X.env) :: starEach [.Call (.Name "isinstance" p3) [.Name n q3, .Name x3 r3] [] s3] X.env := by rfl)
    (hl3 : starEach [.Call (.Name "isinstance" p3) [.Name n q3, .Name x3 r3] [] s3] X.env = (false, eval (.Call (.Name "isinstance" p3) [.Name n q3, .Name x3 r3] [] s3) X.env) :: starEach [] X.env := by rfl)
    (hbase : attributeBase (.List [.Call (.Name "isinstance" p1) [.Name n q1, .Name x1 r1] [] s1, .Call (.Name "isinstance" p2) [.Name n q2, .Name x2 r2] [] s2, .Call (.Name "isinstance" p3) [.Name n q3, .Name x3 r3] [] s3] lp) "index" X.env (eval (.List [.Call (.Name "isinstance" p1) [.Name n q1, .Name x1 r1] [] s1, .Call (.Name "isinstance" p2) [.Name n q2, .Name x2 r2] [] s2, .Call (.Name "isinstance" p3) [.Name n q3, .Name x3 r3] [] s3] lp) X.env) = eval (.List [.Call (.Name "isinstance" p1) [.Name n q1, .Name x1 r1] [] s1, .Call (.Name "isinstance" p2) [.Name n q2, .Name x2 r2] [] s2, .Call (.Name "isinstance" p3) [.Name n q3, .Name x3 r3] [] s3] lp) X.env := by rfl)
    (hfew : ((backTo cp (starEach [.Constant (.bool true) j tp] X.env)).all (fun x => !x.1) && (backToKw cp (keywordEach [] X.env)).all (fun x => x.1.isSome)
      && decide (([.Constant (.bool true) j tp] : List Expr).length + ([] : List Keyword).length + (if ([] : List Keyword).isEmpty then 0 else 1) < 30)) = true := by rfl)
    (hline : (ap.endLine == cp.line) = true := by rfl) (hs1 : starEach [.Constant (.bool true) j tp] X.env = (false, eval (.Constant (.bool true) j tp) X.env) :: starEach [] X.env := by rfl) (hplain : (backTo cp (starEach [] X.env)).any (·.1) = false := by rfl) :
    PS X (.Try body [.ExceptHandler (some (.Name x np)) (some n) [.Return (some (.Call (.Attribute (.List [.Call (.Name "isinstance" p1) [.Name n q1, .Name x1 r1] [] s1, .Call (.Name "isinstance" p2) [.Name n q2, .Name x2 r2] [] s2, .Call (.Name "isinstance" p3) [.Name n q3, .Name x3 r3] [] s3] lp) "index" ap) [.Constant (.bool true) j tp] [] cp)) rp] pos'] [] [] pos) (TSx Z Wx G C C1 fu (.tryI sl [c1, c2, c3])) := by
  obtain ⟨v1, v2, v3, v4⟩ := varB_ok hv
  obtain ⟨b1, b2, b3⟩ := gloB_ok hgb
  obtain ⟨BA, hB, hBx⟩ := T.B
  have hlN : i < X.N.length := (List.getElem?_eq_some_iff.mp v1).1
  -- the suite, for each class
  have hsu : ∀ (a : Addr) (oe : Obj) (cls : Value) (d : Option Addr) (pn : List (Addr × Obj)), Zc cls d oe → (∃ vs, oe.data = .fields vs) →
      PSs (X.suite a ((a, oe) :: pn)) [.Return (some (.Call (.Attribute (.List [.Call (.Name "isinstance" p1) [.Name n q1, .Name x1 r1] [] s1, .Call (.Name "isinstance" p2) [.Name n q2, .Name x2 r2] [] s2, .Call (.Name "isinstance" p3) [.Name n q3, .Name x3 r3] [] s3] lp) "index" ap) [.Constant (.bool true) j tp] [] cp)) rp]
        (fun D σ H => σ.length = X.N.length → ∃ c ∈ [c1, c2, c3], cls = .ref (Z.exc c) ∧ d = none ∧ σ[i]? = some (some (.ref a)) ∧ ∀ p, H p = none → D.rt (.int (([c1, c2, c3].idxOf c : Nat) : Int)) (upd H p (.lst [.bl (decide (c = c1)), .bl (decide (c = c2)), .bl (decide (c = c3))]))) := by
    intro a oe cls d pn hz hfl
    refine ⟨fun pins s σ H D I h => ?_⟩
    obtain ⟨c, hc, rfl, rfl, hsi, hq⟩ := h I.len
    have E := T.cl c hc
    have i1 := pe_isE (X := X) (a := a) (pn := pn) (p := p1) (s := s1) (i := i) E hz hfl hm T.m1 (T.kit c hc c1 (by simp)) hg hg1 hv ha1 hb1 hd1
    have i2 := pe_isE (X := X) (a := a) (pn := pn) (p := p2) (s := s2) (i := i) E hz hfl hm T.m2 (T.kit c hc c2 (by simp)) hg hg2 hv ha2 hb2 hd2
    have i3 := pe_isE (X := X) (a := a) (pn := pn) (p := p3) (s := s3) (i := i) E hz hfl hm T.m3 (T.kit c hc c3 (by simp)) hg hg3 hv ha3 hb3 hd3
    have L := pe_lst (pos := lp) (pa_cons i1 (pa_cons i2 (pa_cons i3 pa_nil hl3) hl2) hl1)
    have TA := pa_cons (X := X.suite a ((a, oe) :: pn)) (pe_bl (X := X.suite a ((a, oe) :: pn)) (pos := tp) (b := true) (j := j)) pa_nil hs1
    have B := pe_bm (X := X.suite a ((a, oe) :: pn)) (apos := ap) (cpos := cp) PySem.F.plainAttrs_list PySem.F.slot_list_index PySem.F.type_list_index (mt_index (X := X.suite a ((a, oe) :: pn))) L TA hbase hfew hline hs1 hplain
    refine (pss_one (ps_ret (pos := rp) B)).run pins s σ H D I ?_
    refine ⟨hsi, hsi, hsi, by show 3 ≤ sizeLine; decide, fun p hp => ⟨.inl ⟨rfl, _, SqL.of upd_same⟩, ?_⟩⟩
    show rIndex _ _ _ _ _
    have hD := hq p hp
    simp only [List.mem_cons, List.not_mem_nil, or_false] at hc
    obtain ⟨n1, n2, n3⟩ := T.nd
    rcases hc with e | e | e
    · subst e
      refine ⟨p, _, .bl true, 0, .bl true, rfl, rfl, SqL.of upd_same, rfl, rfl, ?_, rfl, (fun m z' hm' => by omega), ?_⟩
      · rw [decide_eq_true rfl]; rfl
      · have e0 : [c, c2, c3].idxOf c = 0 := by simp [List.idxOf_cons]
        rw [e0] at hD
        exact hD
    · subst e
      refine ⟨p, _, .bl true, 1, .bl true, rfl, rfl, SqL.of upd_same, rfl, rfl, ?_, rfl, (fun m z' hm' hz' => ?_), ?_⟩
      · rw [decide_eq_true (show c = c from rfl)]; rfl
      · have : m = 0 := by omega
        subst this
        rw [decide_eq_false (Ne.symm n1)] at hz'
        cases hz'
        rfl
      · have e0 : [c1, c, c3].idxOf c = 1 := by rw [List.idxOf_cons, beq_false_of_ne n1, List.idxOf_cons]; simp
        rw [e0] at hD
        exact hD
    · subst e
      refine ⟨p, _, .bl true, 2, .bl true, rfl, rfl, SqL.of upd_same, rfl, rfl, ?_, rfl, (fun m z' hm' hz' => ?_), ?_⟩
      · rw [decide_eq_true (show c = c from rfl)]; rfl
      · rw [decide_eq_false (Ne.symm n2), decide_eq_false (Ne.symm n3)] at hz'
        have : m = 0 ∨ m = 1 := by omega
        rcases this with rfl | rfl <;> cases hz' <;> rfl
      · have e0 : [c1, c2, c].idxOf c = 2 := by rw [List.idxOf_cons, beq_false_of_ne n2, List.idxOf_cons, beq_false_of_ne n3, List.idxOf_cons]; simp
        rw [e0] at hD
        exact hD
  refine (ps_try_as (X := X) (x := x) (c := .ref BA) (i := i) (tb := fun W => TSl Z (fun c σ H => W (.ref (Z.exc c)) none σ H) G C C1 fu sl) (Wout := wxO Z Wx) hs hf k.nd v1 hln ⟨b1, b2, .inl hB⟩ k.tk (fun W pn xe tk po => hb _ pn xe (k.tr (tk.imp fun cls d σ H h => ?_)) po) hsu).weak fun D σ H ⟨ι, sw, M, sr, R, h⟩ => ?_
  · obtain ⟨rfl, c, rfl, h⟩ := h
    exact h
  · refine ⟨ι, sw, M, sr, R, ?_⟩
    simp only [evS] at h
    cases e : evSl G C C1 fu sl sw M with
    | bad => rw [e] at h; exact h
    | ok r M1 =>
      rw [e] at h
      exact h
    | exc c M1 =>
      rw [e] at h
      simp only at h
      intro σ' H' ι' x1' R1
      cases hd : decide (c ∈ [c1, c2, c3]) with
      | false => rw [hd] at h; exact False.elim h
      | true =>
        rw [hd] at h
        have hc := of_decide_eq_true hd
        refine ⟨true, hBx c hc, fun _ a na hlen => ⟨c, hc, rfl, rfl, ?_, fun p hp => ?_⟩, fun z => by cases z⟩
        · rw [List.length_set] at hlen
          rw [List.getElem?_set_self (by omega)]
        · have ex : Ext ι' ι' H' (upd H' p (.lst [.bl (decide (c = c1)), .bl (decide (c = c2)), .bl (decide (c = c3))])) := Ext.fresh ι' hp
          exact h σ _ ι' (x1'.trans ex) (R1.fresh hp) (sr.mono (x1'.trans ex).le) _ (.int _)
end
end MP
end
section
set_option Elab.async false
set_option linter.all false
set_option maxRecDepth 100000
/-! MP33: what the head tells of the classes that a try looks at. -/
namespace MP
open PySem PySem.Spec PyProof.Rows L2
def excCB (K : PySem.W.Frag) (D : Addr) : Bool :=
  He.eqO (PySem.W.findIn K (.ref D) "__getattribute__") (some (some (.builtin "BaseException.__getattribute__"))) && (He.eqO (PySem.W.findIn K (.ref D) "__getattr__") (some none) && (decide (PySem.W.subIn K (.ref D) (.type "BaseException") = some true) && (PySem.W.hasDictIn K D &&
  (He.eqO (PySem.W.findIn K (.ref D) "__class__") (some (some (.builtin "object.__class__"))) && (He.eqO (PySem.W.specialIn K (.builtin "object.__class__") "__get__") (some (some (.builtin "getset_descriptor.__get__"))) && (decide (PySem.W.takesIn K (.builtin "object.__class__") = some true) && decide (PySem.W.mroIn K D (.type "object") = some true)))))))
theorem excC_of {K : PySem.W.Frag} {D : Addr} (h : excCB K D = true) : ExcC K D := by
  obtain ⟨h1, h⟩ := He.ba h
  obtain ⟨h2, h⟩ := He.ba h
  obtain ⟨h3, h⟩ := He.ba h
  obtain ⟨h4, h⟩ := He.ba h
  obtain ⟨h5, h⟩ := He.ba h
  obtain ⟨h6, h⟩ := He.ba h
  obtain ⟨h7, h8⟩ := He.ba h
  exact ⟨He.eqO_ok h1, He.eqO_ok h2, of_decide_eq_true h3, h4, He.eqO_ok h5, He.eqO_ok h6, of_decide_eq_true h7, of_decide_eq_true h8⟩
def tryB (K : PySem.W.Frag) (x : Str) (xs : List (Str × Nat)) : Bool :=
  xs.all fun p => excCB K (He.ga K p.1) && (decide (PySem.W.exmOne K (.ref (He.ga K p.1)) (.ref (He.ga K x)) = some true) && xs.all fun q => decide (PySem.W.kitOne K (.ref (He.ga K p.1)) (.ref (He.ga K q.1)) = some (decide (p.2 = q.2))))
theorem tryOk_of {K : PySem.W.Frag} {mg : Str → Option Value} {Z : Zt} {x x1 x2 x3 : Str} {c1 c2 c3 : Nat} (h : tryB K x [(x1, c1), (x2, c2), (x3, c3)] = true) (hx : mg x = some (.ref (He.ga K x))) (h1 : mg x1 = some (.ref (He.ga K x1))) (h2 : mg x2 = some (.ref (He.ga K x2))) (h3 : mg x3 = some (.ref (He.ga K x3)))
    (e1 : Z.exc c1 = He.ga K x1) (e2 : Z.exc c2 = He.ga K x2) (e3 : Z.exc c3 = He.ga K x3) (n1 : c1 ≠ c2) (n2 : c1 ≠ c3) (n3 : c2 ≠ c3) : TryOk K mg Z x x1 x2 x3 c1 c2 c3 := by
  have key : ∀ c ∈ [c1, c2, c3], ∃ p ∈ [(x1, c1), (x2, c2), (x3, c3)], p.2 = c ∧ Z.exc c = He.ga K p.1 := fun c hc => by
    simp only [List.mem_cons, List.not_mem_nil, or_false] at hc
    rcases hc with rfl | rfl | rfl
    · exact ⟨(x1, _), by simp, rfl, e1⟩
    · exact ⟨(x2, _), by simp, rfl, e2⟩
    · exact ⟨(x3, _), by simp, rfl, e3⟩
  refine ⟨⟨_, hx, fun c hc => ?_⟩, fun c hc => ?_, by rw [e1]; exact h1, by rw [e2]; exact h2, by rw [e3]; exact h3, fun c hc d hd => ?_, n1, n2, n3⟩
  · obtain ⟨p, hp, rfl, e⟩ := key c hc
    obtain ⟨_, g⟩ := He.ba (List.all_eq_true.mp h p hp)
    rw [e]
    exact of_decide_eq_true (He.ba g).1
  · obtain ⟨p, hp, rfl, e⟩ := key c hc
    obtain ⟨g, _⟩ := He.ba (List.all_eq_true.mp h p hp)
    rw [e]
    exact excC_of g
  · obtain ⟨p, hp, rfl, e⟩ := key c hc
    obtain ⟨q, hq, rfl, e'⟩ := key d hd
    obtain ⟨_, g⟩ := He.ba (List.all_eq_true.mp h p hp)
    rw [e, e']
    exact of_decide_eq_true (List.all_eq_true.mp (He.ba g).2 q hq)
end MP
end
section
set_option Elab.async false
set_option linter.all false
set_option maxRecDepth 100000
/-! MP34: a module's tables with text keys; zip of two tuples. -/
namespace MP
open PySem PySem.Spec PyProof.Rows L2
/-- the table at a name -/
structure TabOk (w : World) (K : PySem.W.Frag) (mg : Str → Option Value) (x : Str) (kvs : List (Str × Wv)) : Prop where
  ex : ∃ d es n, mg x = some (.ref d) ∧ KDict K w d es n ∧ (∀ z, kvs.lookup z = none → PySem.W.nsIn K d z = some none) ∧ ∀ z wv, kvs.lookup z = some wv → ∃ u v, PySem.W.nsIn K d z = some (some u) ∧ RelV v u ∧ ∀ (Z : Zt) (ι : List Addr) (H : Hp), Z.K = K → WR Z ι H wv v
section
variable {X : Cx} {Z : Zt} {Wx : Wish} {G : Pg} {C C1 : Nat → List Wv → Mem → Out Wv} {a b c e tg : Expr} {ea eb ec : Ex} {pos p p2 p3 : Pos}
variable {pins : List (Addr × Obj)} {σ : L2.St} {H H1 : Hp} {s : Shared} {ι ι1 : List Addr} {M : Mem} {sw : Sw}
theorem prim_tabW (kvs : List (Str × Wv)) (x : Wv) (M : Mem) : Prim (tabW kvs x M) := by
  intro c N e
  unfold tabW at e
  split at e
  · unfold Out.ofO at e
    split at e <;> cases e
  · cases e
theorem prim_tninW (kvs : List (Str × Wv)) (x : Wv) (M : Mem) : Prim (tninW kvs x M) := by
  intro c N e
  unfold tninW at e
  split at e <;> cases e
def rTab (Z : Zt) (d : Addr) (F : Wv → Mem → Out Wv) : R2 := fun x y H Q => x = .ref d ∧ ∃ ι M w, RM Z ι M H ∧ WR Z ι H w y ∧ rOut Z ι H (F w M) Q
theorem e_tab {x : Str} {kvs : List (Str × Wv)} (k : Bx X Z Wx G) (t : TabOk X.w X.K X.mg x kvs) (hb : PE X b (TEx Z Wx G C C1 eb)) (h : gloB X.env x = true := by kernel_rfl) (hs : PlainIx b := by intro _ _; rfl) : PE X (.Subscript (.Name x p) b pos) (TEx Z Wx G C C1 (.tab kvs eb)) := by
  obtain ⟨d, es, n, hm, D, h0, h1⟩ := t.ex
  obtain ⟨g1, g2, g3⟩ := gloB_ok h
  have this : evE G C C1 (.tab kvs eb) = fun sw M => (evE G C C1 eb sw M).bind fun y M => tabW kvs y M := by funext σ M; simp only [evE]
  rw [TEx, this]
  have ho : IxR X (rTab Z d (tabW kvs)) := by
    intro value slice pins s σ H x y v u Q I rx ry hh hs
    obtain ⟨rfl, ι, M, w, R, wy, q⟩ := hh
    cases rx
    cases wy with
    | str z =>
      simp only [tabW] at q
      obtain ⟨wv, e, q⟩ := rOut.ofO q
      obtain ⟨u0, v0, e1, r0, hw⟩ := h1 z wv e
      exact sub_tail (kd_type D I) slot_dict_getitem.lookup hs (op_item_kd D pins s σ H (.ref d) (.str z) (.ref d) u Q I rfl ry ⟨z, u0, v0, rfl, rfl, e1, r0, q.val R (hw Z ι H k.K.symm)⟩)
    | _ => exact False.elim q
  refine (pe_ix ho (pe_glob g1 hm (v := .ref d) rfl g2) hb hs).weak fun σ H Q ⟨ι, sw, M, s, R, h⟩ => ?_
  exact tE.seqE s R h fun y M2 u H2 ι2 e2 R2 q2 s2 h2 => ⟨rfl, ι2, M2, y, R2, q2, (prim_tabW kvs y M2).out h2⟩
theorem op_tnin {x : Str} {kvs : List (Str × Wv)} {d : Addr} {es : Array DictEntry} {n : Nat} (k : Bx X Z Wx G) (D : KDict X.K X.w d es n) (h0 : ∀ z, kvs.lookup z = none → PySem.W.nsIn X.K d z = some none) (h1 : ∀ z wv, kvs.lookup z = some wv → ∃ u v, PySem.W.nsIn X.K d z = some (some u) ∧ RelV v u ∧ ∀ (Z : Zt) (ι : List Addr) (H : Hp), Z.K = X.K → WR Z ι H wv v) :
    OpR X (compareOp .NotIn) (fun x y H Q => rTab Z d (tninW kvs) y x H Q) := by
  intro pins s σ H x y v u Q I rx ry hh
  obtain ⟨rfl, ι, M, w, R, wy, q⟩ := hh
  cases wy with
  | str z =>
    simp only [tninW] at q
    have hr : ∃ r : Option Value, PySem.W.nsIn X.K d z = some r ∧ r.isSome = (kvs.lookup z).isSome := by
      cases e : kvs.lookup z with
      | none => exact ⟨none, h0 z e, rfl⟩
      | some wv =>
        obtain ⟨u0, v0, e1, _⟩ := h1 z wv e
        exact ⟨some u0, e1, rfl⟩
    obtain ⟨r, er, es⟩ := hr
    refine op_notIn_kd D pins s σ H _ _ _ _ Q I rx ry ⟨z, r, rfl, rfl, er, ?_⟩
    rw [es]
    exact rOut.val q R (.bl _)
  | _ => exact False.elim q
theorem e_tnin {x : Str} {kvs : List (Str × Wv)} (k : Bx X Z Wx G) (t : TabOk X.w X.K X.mg x kvs) (ha : PE X a (TEx Z Wx G C C1 ea)) (h : gloB X.env x = true := by kernel_rfl) (hm2 : behindInMarks .NotIn (.Name x p) = false := by kernel_rfl) : PE X (.Compare a [.NotIn] [.Name x p] pos) (TEx Z Wx G C C1 (.tnin kvs ea)) := by
  obtain ⟨d, es, n, hm, D, h0, h1⟩ := t.ex
  obtain ⟨g1, g2, g3⟩ := gloB_ok h
  have this : evE G C C1 (.tnin kvs ea) = fun sw M => (evE G C C1 ea sw M).bind fun y M => tninW kvs y M := by funext σ M; simp only [evE]
  rw [TEx, this]
  refine (pe_cmpR (op_tnin (x := x) k D h0 h1) ha (pe_glob g1 hm (v := .ref d) rfl g2) hm2).weak fun σ H Q ⟨ι, sw, M, s, R, h⟩ => ?_
  exact tE.seqE s R h fun y M2 u H2 ι2 e2 R2 q2 s2 h2 => ⟨rfl, ι2, M2, y, R2, q2, (prim_tninW kvs y M2).out h2⟩
theorem t_tnin {x : Str} {kvs : List (Str × Wv)} (k : Bx X Z Wx G) (t : TabOk X.w X.K X.mg x kvs) (ha : PE X a (TEx Z Wx G C C1 ea)) (h : gloB X.env x = true := by kernel_rfl) (hm2 : behindInMarks .NotIn (.Name x p) = false := by kernel_rfl) : PT X (.Compare a [.NotIn] [.Name x p] pos) (TTx Z Wx G C C1 (.tnin kvs ea)) := by
  obtain ⟨d, es, n, hm, D, h0, h1⟩ := t.ex
  obtain ⟨g1, g2, g3⟩ := gloB_ok h
  refine (pt_cmpR (op_tnin (x := x) k D h0 h1) ha (pe_glob g1 hm (v := .ref d) rfl g2) hm2).weak fun σ H Q ⟨ι, sw, M, s, R, h⟩ => ?_
  have e : evT G C C1 (.tnin kvs ea) sw M = (evE G C C1 ea sw M).bind fun x M => (tninW kvs x M).bind fun r M => .ofO (truW G r M) M := by
    unfold evT
    simp only [evE]
    cases evE G C C1 ea sw M with
    | ok w M1 => simp only [Out.bind_ok]
    | exc c M1 => rfl
    | bad => rfl
  rw [e] at h
  refine tE.seqB s R h fun x M1 v H1 ι1 e1 R1 q1 s1 h1 => ⟨rfl, ι1, M1, x, R1, q1, ?_⟩
  cases e : tninW kvs x M1 with
  | exc c M' => exact absurd e (prim_tninW kvs x M1 c M')
  | bad => rw [e] at h1; exact False.elim h1
  | ok r M3 =>
    have hq : ∃ q, r = .bl q ∧ M3 = M1 := by
      unfold tninW at e
      split at e
      · cases e; exact ⟨_, rfl, rfl⟩
      · cases e
    obtain ⟨q, rfl, rfl⟩ := hq
    rw [e] at h1
    intro w H3 ι3 e3 R3 q3
    cases q3
    exact ⟨q, rfl, (h1.shift e3) H3 ι3 (Ext.refl _ _) R3⟩
/-! ### zip of two tuples -/
theorem wk_zipT {a b : Addr} {ws us : List Wv} (ha : WR Z ι H (.tup ws) (.ref a)) (hb : WR Z ι H (.tup us) (.ref b)) : Wk Z ι H (RZ.ItzT Z.K a b) ((ws.zip us).map fun p => .tup [p.1, p.2]) [] := by
  have at_ : ∀ {ι' H'}, Ext ι ι' H H' → ∃ vs ys, SqT Z.K H' a vs ∧ WsR Z ι' H' ws vs ∧ SqT Z.K H' b ys ∧ WsR Z ι' H' us ys := fun {ι' H'} x => by
    cases ha.mono x.le with
    | tup h1 h2 =>
      cases hb.mono x.le with
      | tup h3 h4 => exact ⟨_, _, h1, h2, h3, h4⟩
  refine ⟨fun i ι' H' M' x R st hi => ?_, fun i ι' H' M' v H2 x R st hi y => ?_, fun ι' H' M' x R st => ?_⟩
  · obtain ⟨vs, ys, h1, h2, h3, h4⟩ := at_ x
    have hi : i < ws.length ∧ i < us.length := by simpa [Nat.lt_min] using hi
    have i1 : i < vs.length := by rw [← h2.length]; exact hi.1
    have i2 : i < ys.length := by rw [← h4.length]; exact hi.2
    exact ⟨vs, ys, vs[i], ys[i], h1, h3, by simp, by simp⟩
  · obtain ⟨vs, ys, h1, h2, h3, h4⟩ := at_ x
    obtain ⟨T, v1, v2, rfl, hT, rfl, y1, y2⟩ := y
    obtain ⟨w1, g1, g2⟩ := h2.get2 (y1 vs h1)
    obtain ⟨w2, g3, g4⟩ := h4.get2 (y2 ys h3)
    have ex : Ext ι' ι' H' (upd H' T (.tup [v1, v2])) := Ext.fresh ι' hT
    exact ⟨.tup [w1, w2], by rw [List.getElem?_map, (List.getElem?_zip_eq_some (z := (w1, w2))).mpr ⟨g1, g3⟩]; rfl, ex, R.fresh hT, .tup (SqT.of upd_same) (.cons (g2.mono ex.le) (.cons (g4.mono ex.le) .nil))⟩
  · obtain ⟨vs, ys, h1, h2, h3, h4⟩ := at_ x
    have l1 := h2.length
    have l2 := h4.length
    refine ⟨vs, ys, h1, h3, ?_⟩
    simp only [List.length_map, List.length_zip]
    omega
theorem i_zipT {elts : List Expr} {kk : Nat} {tpos : Pos} (k : Bx X Z Wx G) (hm : X.mg "zip" = none) (ha : PE X a (TEx Z Wx G C C1 ea)) (hb : PE X b (TEx Z Wx G C C1 eb)) (hg : gloB X.env "zip" = true := by kernel_rfl)
    (hs : starEach [a, b] X.env = (false, eval a X.env) :: starEach [b] X.env := by rfl) (hs2 : starEach [b] X.env = (false, eval b X.env) :: starEach [] X.env := by rfl) (hpl : (backTo pos (starEach [b] X.env)).any (·.1) = false := by rfl) :
    PI X (.Tuple elts kk tpos) (.Call (.Name "zip" p) [a, b] [] pos) (tI X Z Wx (evI G C C1 (.zipT ea eb))) := by
  obtain ⟨h1, h2, h3⟩ := gloB_ok hg
  refine (RZ.pi_zipA h1 hm (a_cons ha (a_cons hb a_nil hs2) hs) hs hpl).weak fun σ H R ⟨ι, sw, M, s, R0, h⟩ => ⟨ι, sw, M, s, R0, ?_⟩
  simp only [evI] at h
  simp only [evL]
  cases e1 : evE G C C1 ea sw M with
  | bad => rw [e1] at h; exact h
  | exc c M1 => rw [e1] at h; exact h
  | ok x M1 =>
    rw [e1] at h
    simp only [Out.bind_ok] at h ⊢
    cases e2 : evE G C C1 eb sw M1 with
    | bad => rw [e2] at h; exact h
    | exc c M2 => rw [e2] at h; exact h
    | ok y M2 =>
      rw [e2] at h
      simp only [Out.bind_ok] at h ⊢
      intro vs H' ι' x1 R1 wr
      obtain ⟨r, er, h⟩ := iOut.ofO h
      cases wr with
      | cons w1 t1 =>
        cases t1 with
        | cons w2 t2 =>
          cases t2
          unfold zipTW at er
          split at er
          · rename_i ws us
            cases er
            have w1' := w1
            have w2' := w2
            cases w1 with
            | tup f1 g1 =>
              cases w2 with
              | tup f2 g2 =>
                have W := wk_zipT w1' w2'
                rw [k.K]
                exact ⟨_, _, _, _, rfl, .inr ⟨f1, f2, h _ H' ι' none ((Lk.none R1 (fun M => ⟨rfl, rfl⟩)).pre x1) W⟩⟩
          · cases er
end
end MP
end
section
set_option Elab.async false
set_option linter.all false
set_option maxRecDepth 100000
/-! MP35: what the head tells of a module's tables. -/
namespace MP
open PySem PySem.Spec PyProof.Rows L2
def wvAll : List Wv → List Value → Bool
  | [], [] => true
  | .int i :: ws, u :: us => He.relB (.int i) u && wvAll ws us
  | .str x :: ws, u :: us => He.relB (.str x) u && wvAll ws us
  | _, _ => false
theorem wvAll_ok : ∀ {ws : List Wv} {us : List Value}, wvAll ws us = true → ∃ vs, Vals vs us ∧ ∀ (Z : Zt) (ι : List Addr) (H : Hp), WsR Z ι H ws vs
  | [], [], _ => ⟨[], .nil, fun _ _ _ => .nil⟩
  | [], _ :: _, h => by cases h
  | .int i :: ws, [], h => by cases h
  | .str x :: ws, [], h => by cases h
  | .int i :: ws, u :: us, h => by
    obtain ⟨h1, h2⟩ := He.ba (show (He.relB (.int i) u && wvAll ws us) = true from h)
    obtain ⟨vs, e1, e2⟩ := wvAll_ok h2
    exact ⟨.int i :: vs, .cons (He.relB_ok h1) e1, fun Z ι H => .cons (.int i) (e2 Z ι H)⟩
  | .str x :: ws, u :: us, h => by
    obtain ⟨h1, h2⟩ := He.ba (show (He.relB (.str x) u && wvAll ws us) = true from h)
    obtain ⟨vs, e1, e2⟩ := wvAll_ok h2
    exact ⟨.str x :: vs, .cons (He.relB_ok h1) e1, fun Z ι H => .cons (.str x) (e2 Z ι H)⟩
  | .non :: _, [], h => by cases h
  | .non :: _, _ :: _, h => by cases h
  | .bl _ :: _, [], h => by cases h
  | .bl _ :: _, _ :: _, h => by cases h
  | .tup _ :: _, [], h => by cases h
  | .tup _ :: _, _ :: _, h => by cases h
  | .ref _ :: _, [], h => by cases h
  | .ref _ :: _, _ :: _, h => by cases h
  | .scr :: _, [], h => by cases h
  | .scr :: _, _ :: _, h => by cases h
def tupVB (K : PySem.W.Frag) (ws : List Wv) (u : Value) : Bool := match u with
  | .ref a => (match K.lookup a with
    | some ⟨.type c, _, .seq its _, _⟩ => decide (c = "tuple") && (decide (its.size ≤ sizeLine) && wvAll ws its.toList)
    | _ => false)
  | _ => false
theorem tupVB_ok {K : PySem.W.Frag} {ws : List Wv} {u : Value} (h : tupVB K ws u = true) : ∃ v, RelV v u ∧ ∀ (Z : Zt) (ι : List Addr) (H : Hp), Z.K = K → WR Z ι H (.tup ws) v := by
  unfold tupVB at h
  cases u with
  | ref a =>
    simp only at h
    cases q : K.lookup a with
    | none => rw [q] at h; cases h
    | some o =>
      obtain ⟨oc, od, dt, osl⟩ := o
      rw [q] at h
      cases oc with
      | type c =>
        cases dt with
        | seq its n =>
          obtain ⟨h1, h2⟩ := He.ba (show (decide (c = "tuple") && (decide (its.size ≤ sizeLine) && wvAll ws its.toList)) = true from h)
          obtain ⟨h3, h4⟩ := He.ba h2
          obtain ⟨vs, e1, e2⟩ := wvAll_ok h4
          exact ⟨.ref a, rfl, fun Z ι H hK => .tup (by rw [hK]; exact .inr ⟨_, its, n, q, congrArg Value.type (of_decide_eq_true h1), rfl, of_decide_eq_true h3, e1⟩) (e2 Z ι H)⟩
        | _ => cases h
      | _ => cases dt <;> cases h
  | _ => cases h
def tabB (K : PySem.W.Frag) (x : Str) (kvs : List (Str × Wv)) : Bool := kvs.all fun q => match PySem.W.nsIn K (He.ga K x) q.1, q.2 with
  | some (some u), .tup ws => tupVB K ws u
  | _, _ => false
theorem saysT_dic {fa : List He.Fa} {fn : List He.DefD} {ts : List He.Tab} {w : World} {K : PySem.W.Frag} (c : He.SaysT fa fn ts w K) (i : Nat) {t : He.Tab} (h : ts[i]? = some t := by rfl) : He.dicW K (t.1 K) = some (He.keysIn w.params t.2) := by
  have e : ts.map (fun t => He.dicW K (t.1 K)) = ts.map fun t => some (He.keysIn w.params t.2) := congrArg (fun z : He.AlT => z.2) c
  have e2 : (ts.map fun t => He.dicW K (t.1 K))[i]? = (ts.map fun t => some (He.keysIn w.params t.2))[i]? := by rw [e]
  rw [List.getElem?_map, List.getElem?_map, h] at e2
  exact Option.some.inj e2
theorem dic_miss {K : PySem.W.Frag} {P : Params} {a : Addr} {ks : List Str} (h : He.dicW K a = some (He.keysIn P ks)) {z : Str} (hz : z ∉ ks) : PySem.W.nsIn K a z = some none := by
  unfold He.dicW at h
  cases q : K.lookup a with
  | none => rw [q] at h; cases h
  | some o =>
    obtain ⟨oc, od, dt, osl⟩ := o
    rw [q] at h
    cases oc with
    | type c =>
      cases od with
      | none =>
        cases dt with
        | dict es n =>
          simp only at h
          split at h
          · have hk := Option.some.inj h
            have each : ∀ e ∈ es.toList, ∃ k t, e.key = .str k t ∧ k ∈ ks := fun e he => by
              have hm : He.keyOf e ∈ He.keysIn P ks := by rw [← hk]; exact List.mem_map.mpr ⟨e, he, rfl⟩
              unfold He.keysIn at hm
              obtain ⟨k, hk1, hk2⟩ := List.mem_map.mp hm
              unfold He.keyOf at hk2
              split at hk2
              · rename_i x t hx
                injection hk2 with hk2
                injection hk2 with e1 e2
                exact ⟨x, t, hx, by rw [← e1]; exact hk1⟩
              · cases hk2
            unfold PySem.W.nsIn
            rw [q]
            have f0 : es.toList.find? (fun e => e.key.isStr z) = none := List.find?_eq_none.mpr fun e he => by
              obtain ⟨k, t, e1, e2⟩ := each e he
              rw [e1]
              intro hx
              apply hz
              have : k = z := by simpa [Value.isStr] using hx
              rw [← this]; exact e2
            have f1 : es.toList.any (fun e => e.refKey) = false := by
              rw [List.any_eq_false]
              intro e he
              obtain ⟨k, t, e1, e2⟩ := each e he
              simp [DictEntry.refKey, e1]
            simp only [f0, f1]
            rfl
          · cases h
        | _ => cases h
      | some b => cases dt <;> cases h
    | _ => cases od <;> cases dt <;> cases h
theorem lookup_none {kvs : List (Str × Wv)} {z : Str} (h : kvs.lookup z = none) : z ∉ kvs.map (·.1) := by
  intro hz
  obtain ⟨p, hp, e⟩ := List.mem_map.mp hz
  induction kvs with
  | nil => cases hp
  | cons q r ih =>
    obtain ⟨k, v⟩ := q
    simp only [List.lookup] at h
    split at h
    · cases h
    · rename_i hne
      rcases List.mem_cons.mp hp with rfl | hp
      · simp only at e
        rw [e] at hne
        simp at hne
      · exact ih h (by exact List.mem_map.mpr ⟨p, hp, e⟩) hp
theorem lookup_some {kvs : List (Str × Wv)} {z : Str} {v : Wv} (h : kvs.lookup z = some v) : (z, v) ∈ kvs := by
  induction kvs with
  | nil => cases h
  | cons q r ih =>
    obtain ⟨k, u⟩ := q
    simp only [List.lookup] at h
    split at h
    · rename_i he
      injection h with h
      rw [eq_of_beq he, h]; exact List.mem_cons_self ..
    · exact List.mem_cons_of_mem _ (ih h)
theorem tabOk_of {w : World} {K : PySem.W.Frag} {mg : Str → Option Value} {x : Str} {kvs : List (Str × Wv)} (hm : mg x = some (.ref (He.ga K x))) (hd : He.dicW K (He.ga K x) = some (He.keysIn w.params (kvs.map (·.1)))) (hb : tabB K x kvs = true) : TabOk w K mg x kvs := by
  obtain ⟨es, n, D⟩ := He.dicW_ok hd
  refine ⟨_, es, n, hm, D, fun z hz => dic_miss hd (lookup_none hz), fun z wv hz => ?_⟩
  have := List.all_eq_true.mp hb _ (lookup_some hz)
  simp only at this
  split at this
  · rename_i u ws h1
    obtain ⟨v, r, hw⟩ := tupVB_ok this
    exact ⟨u, v, h1, r, hw⟩
  · cases this
end MP
end
section
set_option Elab.async false
set_option linter.all false
set_option maxRecDepth 100000
/-! MQ1: how ends of the small Python are shown: sat, and the rules of its loops. -/
namespace MP
open PySem
/-- it ends well, in what Q says -/
def Out.sat {α : Type} (x : Out α) (Q : α → Mem → Prop) : Prop := match x with
  | .ok a M => Q a M
  | _ => False
section
variable {α β : Type} {Q R : α → Mem → Prop}
theorem sat_ok (a : α) (M : Mem) : (Out.ok a M).sat Q ↔ Q a M := Iff.rfl
theorem sat_bind (x : Out α) (f : α → Mem → Out β) (Q : β → Mem → Prop) : (x.bind f).sat Q ↔ x.sat fun a M => (f a M).sat Q := by
  cases x <;> exact Iff.rfl
theorem sat_some (a : α) (M : Mem) : (Out.ofO (some a) M).sat Q ↔ Q a M := Iff.rfl
theorem sat_chk (b : Bool) (x : Out α) : (Out.chk b x).sat Q ↔ b = true ∧ x.sat Q := by
  cases b
  · exact ⟨fun h => h.elim, fun h => by cases h.1⟩
  · exact ⟨fun h => ⟨rfl, h⟩, fun h => h.2⟩
theorem sat_mono {x : Out α} (h : x.sat Q) (m : ∀ a M, Q a M → R a M) : x.sat R := by
  cases x with
  | ok a M => exact m a M h
  | exc _ _ => exact h
  | bad => exact h
theorem sat_ex {x : Out α} (h : x.sat Q) : ∃ a M, x = .ok a M ∧ Q a M := by
  cases x with
  | ok a M => exact ⟨a, M, rfl, h⟩
  | exc _ _ => exact h.elim
  | bad => exact h.elim
theorem sat_of {x : Out α} {a : α} {M : Mem} (e : x = .ok a M) (h : Q a M) : x.sat Q := by rw [e]; exact h
theorem sat_ite (c : Prop) [Decidable c] (x y : Out α) : (if c then x else y).sat Q ↔ if c then x.sat Q else y.sat Q := by
  split <;> exact Iff.rfl
theorem sat_noExc (x : Out α) : x.noExc.sat Q ↔ x.sat Q := by cases x <;> exact Iff.rfl
theorem sat_unlk (ps : List (Nat × Ob)) (x : Out α) : (x.unlk ps).sat Q ↔ x.sat fun a M => Q a (unlkM ps M) := by cases x <;> exact Iff.rfl
theorem sat_ofO (o : Option α) (M : Mem) : (Out.ofO o M).sat Q ↔ ∃ a, o = some a ∧ Q a M := by
  cases o with
  | none => exact ⟨fun h => h.elim, fun ⟨_, h, _⟩ => by cases h⟩
  | some a => exact ⟨fun h => ⟨a, rfl, h⟩, fun ⟨_, h, q⟩ => by cases h; exact q⟩
end
/-! ### lookups -/
theorem get_some {i : Nat} {σ : Sw} {w : Wv} (h : σ[i]? = some (some w)) : getV i σ = some w := by unfold getV; rw [h]
@[simp] theorem getV_0 (w : Wv) (σ : Sw) : getV 0 (some w :: σ) = some w := rfl
@[simp] theorem getV_s (i : Nat) (a : Option Wv) (σ : Sw) : getV (i + 1) (a :: σ) = getV i σ := rfl
/-! ### memory that grows -/
theorem pre_get {M M' : Mem} (h : M <+: M') {l : Nat} {o : Ob} (e : M[l]? = some o) : M'[l]? = some o := by
  obtain ⟨L, rfl⟩ := h
  rw [List.getElem?_append_left (List.getElem?_eq_some_iff.mp e).1]
  exact e
theorem pre_set {M M' : Mem} (h : M <+: M') {l : Nat} {o : Ob} (hl : M.length ≤ l) : M <+: M'.set l o := by
  obtain ⟨L, rfl⟩ := h
  rw [List.set_append_right _ _ hl]
  exact ⟨_, rfl⟩
theorem pre_snoc {M M' : Mem} (h : M <+: M') (o : Ob) : M <+: M' ++ [o] := h.trans (List.prefix_append _ _)
theorem pre_len {M M' : Mem} (h : M <+: M') : M.length ≤ M'.length := h.length_le
theorem at_new (M : Mem) (o : Ob) : (M ++ [o])[M.length]? = some o := by simp
/-! ### loops -/
variable {G : Pg}
theorem whl_rule {t : Sw → Mem → Out Wv} {b : Sw → Mem → Out (Fl × Sw)} {Q : Fl × Sw → Mem → Prop} (I : Nat → Sw → Mem → Prop)
    (step : ∀ m σ M, I m σ M → (t σ M).sat fun x M1 => ∃ c, truW G x M1 = some c ∧ (c = true → (b σ M1).sat fun r M2 => match r.1 with
      | .nx => ∃ m', m' < m ∧ I m' r.2 M2
      | .ct => ∃ m', m' < m ∧ I m' r.2 M2
      | .brk => Q (.nx, r.2) M2
      | .ret w => Q (.ret w, r.2) M2) ∧ (c = false → Q (.nx, σ) M1)) :
    ∀ (n m : Nat) (σ : Sw) (M : Mem), I m σ M → m < n → (whlGo G t b n σ M).sat Q
  | 0, m, _, _, _, h => absurd h (Nat.not_lt_zero m)
  | n + 1, m, σ, M, hI, h => by
    unfold whlGo
    rw [sat_bind]
    refine sat_mono (step m σ M hI) fun x M1 ⟨c, hc, h1, h2⟩ => ?_
    rw [hc]
    show Out.sat (if c = true then _ else _) Q
    cases c with
    | false => exact h2 rfl
    | true =>
      rw [if_pos rfl, sat_bind]
      refine sat_mono (h1 rfl) fun r M2 hr => ?_
      obtain ⟨fl, σ2⟩ := r
      cases fl with
      | nx => obtain ⟨m', hm, hI'⟩ := hr; exact whl_rule I step n m' _ _ hI' (by omega)
      | ct => obtain ⟨m', hm, hI'⟩ := hr; exact whl_rule I step n m' _ _ hI' (by omega)
      | brk => exact hr
      | ret w => exact hr
theorem for_rule {t : Tg} {b : Sw → Mem → Out (Fl × Sw)} {ps : List (Nat × Ob)} {Q : Fl × Sw → Mem → Prop} (I : List Wv → List Wv → Sw → Mem → Prop)
    (step : ∀ pre x post σ M, I pre (x :: post) σ M → stays ps M = true ∧ ∃ τ, tgW t x σ = some τ ∧ (b τ M).sat fun r M2 => match r.1 with
      | .nx => I (pre ++ [x]) post r.2 M2
      | .ct => I (pre ++ [x]) post r.2 M2
      | .brk => Q (.nx, r.2) M2
      | .ret w => Q (.ret w, r.2) M2)
    (stop : ∀ pre σ M, I pre [] σ M → stays ps M = true ∧ Q (.nx, σ) M) :
    ∀ (xs pre : List Wv) (σ : Sw) (M : Mem), I pre xs σ M → (forGo t b ps xs σ M).sat Q
  | [], pre, σ, M, h => by
    unfold forGo
    rw [sat_chk]
    exact stop pre σ M h
  | x :: xs, pre, σ, M, h => by
    unfold forGo
    rw [sat_chk]
    obtain ⟨h1, τ, h2, h3⟩ := step pre x xs σ M h
    refine ⟨h1, ?_⟩
    rw [h2]
    show Out.sat (Out.bind (b τ M) _) Q
    rw [sat_bind]
    refine sat_mono h3 fun r M2 hr => ?_
    obtain ⟨fl, σ2⟩ := r
    cases fl with
    | nx => exact for_rule I step stop xs _ _ _ hr
    | ct => exact for_rule I step stop xs _ _ _ hr
    | brk => exact hr
    | ret w => exact hr
theorem lc_rule {t : Tg} {c e : Sw → Mem → Out Wv} {ps : List (Nat × Ob)} {σ : Sw} {Q : List Wv → Mem → Prop} (I : List Wv → List Wv → List Wv → Mem → Prop)
    (step : ∀ pre x post acc M, I pre (x :: post) acc M → stays ps M = true ∧ ∃ τ, tgW t x σ = some τ ∧ (c τ M).sat fun b M1 => ∃ q, truW G b M1 = some q ∧
      (q = true → (e τ M1).sat fun y M2 => lenOk (acc.length + 1) = true ∧ I (pre ++ [x]) post (acc ++ [y]) M2) ∧ (q = false → I (pre ++ [x]) post acc M1))
    (stop : ∀ pre acc M, I pre [] acc M → stays ps M = true ∧ Q acc M) :
    ∀ (xs pre acc : List Wv) (M : Mem), I pre xs acc M → (lcGo G t c e ps xs σ acc M).sat Q
  | [], pre, acc, M, h => by
    unfold lcGo
    rw [sat_chk]
    exact stop pre acc M h
  | x :: xs, pre, acc, M, h => by
    unfold lcGo
    rw [sat_chk]
    obtain ⟨h1, τ, h2, h3⟩ := step pre x xs acc M h
    refine ⟨h1, ?_⟩
    rw [h2]
    show Out.sat (Out.bind (c τ M) _) Q
    rw [sat_bind]
    refine sat_mono h3 fun b M1 ⟨q, hq, g1, g2⟩ => ?_
    rw [hq]
    show Out.sat (if q = true then _ else _) Q
    cases q with
    | false => exact lc_rule I step stop xs _ _ _ (g2 rfl)
    | true =>
      rw [if_pos rfl, sat_bind]
      refine sat_mono (g1 rfl) fun y M2 ⟨hl, hI⟩ => ?_
      rw [sat_chk]
      exact ⟨hl, lc_rule I step stop xs _ _ _ hI⟩
/-- a comprehension that leaves the memory as it is -/
theorem lc_pure {t : Tg} {c e : Sw → Mem → Out Wv} {ps : List (Nat × Ob)} {σ : Sw} {M : Mem} {xs : List Wv} (p : Wv → Bool) (f : Wv → Wv) (hs : stays ps M = true) (hl : xs.length ≤ sizeLine)
    (h : ∀ x ∈ xs, ∃ τ, tgW t x σ = some τ ∧ (∃ b, c τ M = .ok b M ∧ truW G b M = some (p x)) ∧ (p x = true → e τ M = .ok (f x) M)) :
    lcGo G t c e ps xs σ [] M = .ok ((xs.filter p).map f) M := by
  have key : ∀ (xs acc : List Wv), acc.length + xs.length ≤ sizeLine → (∀ x ∈ xs, ∃ τ, tgW t x σ = some τ ∧ (∃ b, c τ M = .ok b M ∧ truW G b M = some (p x)) ∧ (p x = true → e τ M = .ok (f x) M)) →
      lcGo G t c e ps xs σ acc M = .ok (acc ++ (xs.filter p).map f) M := by
    intro xs
    induction xs with
    | nil =>
      intro acc _ _
      unfold lcGo
      rw [hs]
      simp [Out.chk]
    | cons x xs ih =>
      intro acc hl h
      obtain ⟨τ, h1, ⟨b, h2, h3⟩, h4⟩ := h x (List.mem_cons_self ..)
      unfold lcGo
      rw [hs, h1]
      simp only [Out.chk, h2, Out.bind_ok, h3, Out.ofO]
      simp only [List.length_cons] at hl
      cases hp : p x with
      | false =>
        simp only [Bool.false_eq_true, if_false]
        rw [ih acc (by omega) fun y hy => h y (List.mem_cons_of_mem _ hy)]
        simp [List.filter_cons, hp]
      | true =>
        simp only [if_true, h4 hp, Out.bind_ok]
        have : lenOk (acc.length + 1) = true := decide_eq_true (by omega)
        rw [this]
        simp only []
        rw [ih (acc ++ [f x]) (by simp; omega) fun y hy => h y (List.mem_cons_of_mem _ hy)]
        simp [List.filter_cons, hp]
  have := key xs [] (by simpa using hl) h
  simpa using this
theorem dc_pure {t : Tg} {c k v : Sw → Mem → Out Wv} {ps : List (Nat × Ob)} {σ : Sw} {M : Mem} {xs : List Wv} (f g : Wv → Wv) (hs : stays ps M = true)
    (h : ∀ x ∈ xs, ∃ τ, tgW t x σ = some τ ∧ (∃ b, c τ M = .ok b M ∧ truW G b M = some true) ∧ k τ M = .ok (f x) M ∧ v τ M = .ok (g x) M) :
    ∀ acc, (∀ pre post x, xs = pre ++ x :: post → keyOk (dputs acc (pre.map fun y => (f y, g y))) (f x) = true ∧ lenOk ((dputs acc (pre.map fun y => (f y, g y))).length + 1) = true) →
    dcGo G t c k v ps xs σ acc M = .ok (dputs acc (xs.map fun y => (f y, g y))) M := by
  induction xs with
  | nil =>
    intro acc _
    unfold dcGo
    rw [hs]
    rfl
  | cons x xs ih =>
    intro acc hk
    obtain ⟨τ, h1, ⟨b, h2, h3⟩, h4, h5⟩ := h x (List.mem_cons_self ..)
    unfold dcGo
    rw [hs, h1]
    simp only [Out.chk, h2, Out.bind_ok, h3, Out.ofO, if_true, h4, h5]
    obtain ⟨k1, k2⟩ := hk [] xs x rfl
    simp only [List.map_nil, dputs] at k1 k2
    rw [k1, k2]
    simp only [Bool.and_self, List.map_cons, dputs]
    refine ih (fun y hy => h y (List.mem_cons_of_mem _ hy)) _ fun pre post y e => ?_
    have := hk (x :: pre) post y (by rw [e]; rfl)
    simpa [dputs] using this
end MP
end
section
set_option Elab.async false
set_option linter.all false
set_option maxRecDepth 100000
/-! MQ2: how the small Python's code is stepped through: one rule a construct. -/
namespace MP
open PySem
section
variable (G : Pg) (C C1 : Nat → List Wv → Mem → Out Wv) (fu : Nat)
/-- what comes behind a statement -/
def kont (r : Sl) (Q : Fl × Sw → Mem → Prop) (q : Fl × Sw) (M : Mem) : Prop := match q.1 with
  | .nx => (evSl G C C1 fu r q.2 M).sat Q
  | f => Q (f, q.2) M
/-- branches, not looked into as long as the test is not known -/
def brS (k : Bool) (a b : Sl) (σ : Sw) (M : Mem) (Q : Fl × Sw → Mem → Prop) : Prop := if k = true then (evSl G C C1 fu a σ M).sat Q else (evSl G C C1 fu b σ M).sat Q
def brE (k : Bool) (a b : Ex) (σ : Sw) (M : Mem) (Q : Wv → Mem → Prop) : Prop := if k = true then (evE G C C1 a σ M).sat Q else (evE G C C1 b σ M).sat Q
def brA (k : Bool) (b : Ex) (σ : Sw) (M : Mem) (x : Wv) (Q : Wv → Mem → Prop) : Prop := if k = true then (evE G C C1 b σ M).sat Q else Q x M
def brO (k : Bool) (b : Ex) (σ : Sw) (M : Mem) (x : Wv) (Q : Wv → Mem → Prop) : Prop := if k = true then Q x M else (evE G C C1 b σ M).sat Q
def brC (k : Bool) (d : Cm) (e : Ex) (y : Wv) (σ : Sw) (M : Mem) (Q : Wv → Mem → Prop) : Prop := if k = true then (evE G C C1 e σ M).sat fun z M => (cmpW G d y z M).sat Q else Q (.bl false) M
/-- a test's answer -/
def tru (x : Wv) (M : Mem) (Q : Bool → Prop) : Prop := ∃ k, truW G x M = some k ∧ Q k
variable {σ : Sw} {M : Mem} {Q : Wv → Mem → Prop} {QS : Fl × Sw → Mem → Prop} {QL : List Wv → Mem → Prop} {QI : List Wv × List (Nat × Ob) → Mem → Prop}
/-! ### statements -/
theorem q_nil : (evSl G C C1 fu .nil σ M).sat QS ↔ QS (.nx, σ) M := by simp only [evSl]; exact Iff.rfl
theorem q_cons (s : St) (r : Sl) : (evSl G C C1 fu (.cons s r) σ M).sat QS ↔ (evS G C C1 fu s σ M).sat (kont G C C1 fu r QS) := by
  simp only [evSl, sat_bind]
  cases evS G C C1 fu s σ M with
  | ok q M1 =>
    obtain ⟨f, σ2⟩ := q
    cases f <;> exact Iff.rfl
  | exc _ _ => exact Iff.rfl
  | bad => exact Iff.rfl
theorem k_nx (r : Sl) : kont G C C1 fu r QS (.nx, σ) M ↔ (evSl G C C1 fu r σ M).sat QS := Iff.rfl
theorem k_ret (r : Sl) (w : Wv) : kont G C C1 fu r QS (.ret w, σ) M ↔ QS (.ret w, σ) M := Iff.rfl
theorem k_brk (r : Sl) : kont G C C1 fu r QS (.brk, σ) M ↔ QS (.brk, σ) M := Iff.rfl
theorem k_ct (r : Sl) : kont G C C1 fu r QS (.ct, σ) M ↔ QS (.ct, σ) M := Iff.rfl
theorem q_asg (t : Tg) (e : Ex) : (evS G C C1 fu (.asg t e) σ M).sat QS ↔ (evE G C C1 e σ M).sat fun x M => (Out.ofO (tgW t x σ) M).sat fun σ M => QS (.nx, σ) M := by
  simp only [evS, sat_bind, sat_ok]
theorem q_asgA (o : Ex) (f : Str) (e : Ex) : (evS G C C1 fu (.asgA o f e) σ M).sat QS ↔ (evE G C C1 e σ M).sat fun x M => (evE G C C1 o σ M).sat fun y M => (setA G y f x M).sat fun _ M => QS (.nx, σ) M := by
  simp only [evS, sat_bind, sat_ok]
theorem q_asgS (o i e : Ex) : (evS G C C1 fu (.asgS o i e) σ M).sat QS ↔ (evE G C C1 e σ M).sat fun x M => (evE G C C1 o σ M).sat fun y M => (evE G C C1 i σ M).sat fun z M => (setW y z x M).sat fun _ M => QS (.nx, σ) M := by
  simp only [evS, sat_bind, sat_ok]
theorem q_aug (i : Nat) (p : Op) (e : Ex) : (evS G C C1 fu (.aug i p e) σ M).sat QS ↔ (Out.ofO (getV i σ) M).sat fun x M => (evE G C C1 e σ M).sat fun y M => (augW p x y M).sat fun z M => QS (.nx, σ.set i (some z)) M := by
  simp only [evS, sat_bind, sat_ok]
theorem q_ex (e : Ex) : (evS G C C1 fu (.ex e) σ M).sat QS ↔ (evE G C C1 e σ M).sat fun _ M => QS (.nx, σ) M := by
  simp only [evS, sat_bind, sat_ok]
theorem q_ret (e : Ex) : (evS G C C1 fu (.ret e) σ M).sat QS ↔ (evE G C C1 e σ M).sat fun x M => QS (.ret x, σ) M := by
  simp only [evS, sat_bind, sat_ok]
theorem q_retN : (evS G C C1 fu .retN σ M).sat QS ↔ QS (.ret .non, σ) M := by
  simp only [evS, sat_ok]
theorem q_pass : (evS G C C1 fu .pass σ M).sat QS ↔ QS (.nx, σ) M := by
  simp only [evS, sat_ok]
theorem q_brk : (evS G C C1 fu .brk σ M).sat QS ↔ QS (.brk, σ) M := by
  simp only [evS, sat_ok]
theorem q_cont : (evS G C C1 fu .cont σ M).sat QS ↔ QS (.ct, σ) M := by
  simp only [evS, sat_ok]
theorem q_ifs (t : Ex) (a b : Sl) : (evS G C C1 fu (.ifs t a b) σ M).sat QS ↔ (evE G C C1 t σ M).sat fun x M => tru G x M fun k => brS G C C1 fu k a b σ M QS := by
  simp only [evS, sat_bind, sat_ofO, tru, brS, sat_ite]
theorem q_for (t : Tg) (it : It) (b : Sl) : (evS G C C1 fu (.for_ t it b) σ M).sat QS ↔ (evI G C C1 it σ M).sat fun r M => (forGo t (evSl G C C1 fu b) r.2 r.1 σ (lockM r.2 M)).sat fun q M => QS q (unlkM r.2 M) := by
  simp only [evS, sat_bind, sat_unlk]
theorem q_whl (t : Ex) (b : Sl) : (evS G C C1 fu (.whl t b) σ M).sat QS ↔ (whlGo G (evE G C C1 t) (evSl G C C1 fu b) fu σ M).sat QS := by
  simp only [evS]
theorem b_t (a b : Sl) : brS G C C1 fu true a b σ M QS ↔ (evSl G C C1 fu a σ M).sat QS := by simp only [brS, if_true]
theorem b_f (a b : Sl) : brS G C C1 fu false a b σ M QS ↔ (evSl G C C1 fu b σ M).sat QS := by simp only [brS, Bool.false_eq_true, if_false]
theorem be_t (a b : Ex) : brE G C C1 true a b σ M Q ↔ (evE G C C1 a σ M).sat Q := by simp only [brE, if_true]
theorem be_f (a b : Ex) : brE G C C1 false a b σ M Q ↔ (evE G C C1 b σ M).sat Q := by simp only [brE, Bool.false_eq_true, if_false]
theorem ba_t (b : Ex) (x : Wv) : brA G C C1 true b σ M x Q ↔ (evE G C C1 b σ M).sat Q := by simp only [brA, if_true]
theorem ba_f (b : Ex) (x : Wv) : brA G C C1 false b σ M x Q ↔ Q x M := by simp only [brA, Bool.false_eq_true, if_false]
theorem bo_t (b : Ex) (x : Wv) : brO G C C1 true b σ M x Q ↔ Q x M := by simp only [brO, if_true]
theorem bo_f (b : Ex) (x : Wv) : brO G C C1 false b σ M x Q ↔ (evE G C C1 b σ M).sat Q := by simp only [brO, Bool.false_eq_true, if_false]
theorem bc_t (d : Cm) (e : Ex) (y : Wv) : brC G C C1 true d e y σ M Q ↔ (evE G C C1 e σ M).sat fun z M => (cmpW G d y z M).sat Q := by simp only [brC, if_true]
theorem bc_f (d : Cm) (e : Ex) (y : Wv) : brC G C C1 false d e y σ M Q ↔ Q (.bl false) M := by simp only [brC, Bool.false_eq_true, if_false]
theorem t_bl (b : Bool) (Q : Bool → Prop) : tru G (.bl b) M Q ↔ Q b := ⟨fun ⟨k, h, q⟩ => by cases h; exact q, fun q => ⟨b, rfl, q⟩⟩
theorem t_int (i : Int) (Q : Bool → Prop) : tru G (.int i) M Q ↔ Q (i != 0) := ⟨fun ⟨k, h, q⟩ => by cases h; exact q, fun q => ⟨_, rfl, q⟩⟩
theorem t_non (Q : Bool → Prop) : tru G .non M Q ↔ Q false := ⟨fun ⟨k, h, q⟩ => by cases h; exact q, fun q => ⟨_, rfl, q⟩⟩
/-! ### expressions -/
theorem no_no : Ex.isNo .no = true := rfl
theorem q_var (i : Nat) : (evE G C C1 (.var i) σ M).sat Q ↔ (Out.ofO (getV i σ) M).sat Q := by simp only [evE]
theorem q_con (w : Wv) : (evE G C C1 (.con w) σ M).sat Q ↔ Q w M := by simp only [evE, sat_ok]
theorem q_glb (x : Str) : (evE G C C1 (.glb x) σ M).sat Q ↔ (Out.ofO (G.con x) M).sat Q := by simp only [evE]
theorem q_tup (es : El) : (evE G C C1 (.tup es) σ M).sat Q ↔ (evL G C C1 es σ M).sat fun ws M => lenOk ws.length = true ∧ Q (.tup ws) M := by simp only [evE, sat_bind, sat_chk, sat_ok]
theorem q_lst (es : El) : (evE G C C1 (.lst es) σ M).sat Q ↔ (evL G C C1 es σ M).sat fun ws M => lenOk ws.length = true ∧ Q (.ref M.length) (M ++ [.lst ws]) := by simp only [evE, sat_bind, sat_chk, sat_ok]
theorem q_dict0 : (evE G C C1 .dict0 σ M).sat Q ↔ Q (.ref M.length) (M ++ [.dct false []]) := by simp only [evE, sat_ok]
theorem q_bin (o : Op) (a b : Ex) : (evE G C C1 (.bin o a b) σ M).sat Q ↔ (evE G C C1 a σ M).sat fun x M => (evE G C C1 b σ M).sat fun y M => (binW o x y M).sat Q := by simp only [evE, sat_bind]
theorem q_neg (a : Ex) : (evE G C C1 (.neg a) σ M).sat Q ↔ (evE G C C1 a σ M).sat fun x M => (Out.ofO ((toI x).map fun i => .int (-i)) M).sat Q := by simp only [evE, sat_bind]
theorem q_not (a : Ex) : (evE G C C1 (.not a) σ M).sat Q ↔ (evE G C C1 a σ M).sat fun x M => tru G x M fun b => Q (.bl (!b)) M := by
  simp only [evE, sat_bind, sat_ofO, tru, Option.map_eq_some_iff]
  constructor
  · refine fun h => sat_mono h fun x M h => ?_
    obtain ⟨a, ⟨b, h1, rfl⟩, h2⟩ := h
    exact ⟨b, h1, h2⟩
  · refine fun h => sat_mono h fun x M h => ?_
    obtain ⟨b, h1, h2⟩ := h
    exact ⟨_, ⟨b, h1, rfl⟩, h2⟩
theorem q_and (a b : Ex) : (evE G C C1 (.and a b) σ M).sat Q ↔ (evE G C C1 a σ M).sat fun x M => tru G x M fun c => brA G C C1 c b σ M x Q := by
  simp only [evE, sat_bind, sat_ofO, tru, brA, sat_ite, sat_ok]
theorem q_or (a b : Ex) : (evE G C C1 (.or a b) σ M).sat Q ↔ (evE G C C1 a σ M).sat fun x M => tru G x M fun c => brO G C C1 c b σ M x Q := by
  simp only [evE, sat_bind, sat_ofO, tru, brO, sat_ite, sat_ok]
theorem q_ife (t a b : Ex) : (evE G C C1 (.ife t a b) σ M).sat Q ↔ (evE G C C1 t σ M).sat fun x M => tru G x M fun c => brE G C C1 c a b σ M Q := by
  simp only [evE, sat_bind, sat_ofO, tru, brE, sat_ite]
theorem q_cmp (c : Cm) (a b : Ex) : (evE G C C1 (.cmp c a b) σ M).sat Q ↔ (evE G C C1 a σ M).sat fun x M => (evE G C C1 b σ M).sat fun y M => (cmpW G c x y M).sat Q := by simp only [evE, sat_bind]
theorem q_cmp2 (c d : Cm) (a b e : Ex) : (evE G C C1 (.cmp2 c d a b e) σ M).sat Q ↔ (evE G C C1 a σ M).sat fun x M => (evE G C C1 b σ M).sat fun y M => (cmpW G c x y M).sat fun r M => tru G r M fun k => if k = true then (evE G C C1 e σ M).sat fun z M => (cmpW G d y z M).sat Q else Q r M := by
  simp only [evE, sat_bind, sat_ofO, tru, sat_ite, sat_ok]
theorem q_attr (a : Ex) (f : Str) : (evE G C C1 (.attr a f) σ M).sat Q ↔ (evE G C C1 a σ M).sat fun x M => (attrW G x f M).sat Q := by simp only [evE, sat_bind]
theorem q_sub (a i : Ex) : (evE G C C1 (.sub a i) σ M).sat Q ↔ (evE G C C1 a σ M).sat fun x M => (evE G C C1 i σ M).sat fun y M => (subW G x y M).sat Q := by simp only [evE, sat_bind]
theorem q_slcN (a hi : Ex) (hh : hi.isNo = false) : (evE G C C1 (.slc a .no hi) σ M).sat Q ↔ (evE G C C1 a σ M).sat fun x M => (evE G C C1 hi σ M).sat fun y M => (Out.ofO (toI y) M).sat fun h M => (slcW x none (some h) M).sat Q := by
  simp only [evE, sat_bind, no_no, if_true, sat_ok, hh, Bool.false_eq_true, if_false, sat_ofO, Option.map_eq_some_iff]
  constructor
  · refine fun h => sat_mono h fun x M h => sat_mono h fun y M h => ?_
    obtain ⟨_, ⟨i, h1, rfl⟩, h2⟩ := h
    exact ⟨i, h1, h2⟩
  · refine fun h => sat_mono h fun x M h => sat_mono h fun y M h => ?_
    obtain ⟨i, h1, h2⟩ := h
    exact ⟨_, ⟨i, h1, rfl⟩, h2⟩
theorem q_slc (a lo hi : Ex) (hl : lo.isNo = false) (hh : hi.isNo = false) : (evE G C C1 (.slc a lo hi) σ M).sat Q ↔ (evE G C C1 a σ M).sat fun x M => (evE G C C1 lo σ M).sat fun z M => (Out.ofO (toI z) M).sat fun l M => (evE G C C1 hi σ M).sat fun y M => (Out.ofO (toI y) M).sat fun h M => (slcW x (some l) (some h) M).sat Q := by
  simp only [evE, sat_bind, hl, hh, Bool.false_eq_true, if_false, sat_ofO, Option.map_eq_some_iff]
  constructor
  · refine fun h => sat_mono h fun x M h => sat_mono h fun z M h => ?_
    obtain ⟨_, ⟨i, h1, rfl⟩, h2⟩ := h
    refine ⟨i, h1, sat_mono h2 fun y M h => ?_⟩
    obtain ⟨_, ⟨j, h1, rfl⟩, h2⟩ := h
    exact ⟨j, h1, h2⟩
  · refine fun h => sat_mono h fun x M h => sat_mono h fun z M h => ?_
    obtain ⟨i, h1, h2⟩ := h
    refine ⟨_, ⟨i, h1, rfl⟩, sat_mono h2 fun y M h => ?_⟩
    obtain ⟨j, h1, h2⟩ := h
    exact ⟨_, ⟨j, h1, rfl⟩, h2⟩
theorem q_slcL (a lo : Ex) (hl : lo.isNo = false) : (evE G C C1 (.slc a lo .no) σ M).sat Q ↔ (evE G C C1 a σ M).sat fun x M => (evE G C C1 lo σ M).sat fun z M => (Out.ofO (toI z) M).sat fun l M => (slcW x (some l) none M).sat Q := by
  simp only [evE, sat_bind, no_no, if_true, sat_ok, hl, Bool.false_eq_true, if_false, sat_ofO, Option.map_eq_some_iff]
  constructor
  · refine fun h => sat_mono h fun x M h => sat_mono h fun y M h => ?_
    obtain ⟨_, ⟨i, h1, rfl⟩, h2⟩ := h
    exact ⟨i, h1, h2⟩
  · refine fun h => sat_mono h fun x M h => sat_mono h fun y M h => ?_
    obtain ⟨i, h1, h2⟩ := h
    exact ⟨_, ⟨i, h1, rfl⟩, h2⟩
theorem q_srev (z : Bool) (a : Ex) : (evE G C C1 (.srev z a) σ M).sat Q ↔ (evE G C C1 a σ M).sat fun x M => (revW z x M).sat Q := by simp only [evE, sat_bind]
theorem q_call (f : Nat) (es : El) (ds : List Wv) : (evE G C C1 (.call f es ds) σ M).sat Q ↔ (evL G C C1 es σ M).sat fun ws M => (C f (ws ++ ds) M).sat Q := by simp only [evE, sat_bind]
theorem q_callk (f : Nat) (es : El) (k : Ex) : (evE G C C1 (.callk f es k) σ M).sat Q ↔ (evL G C C1 es σ M).sat fun ws M => (evE G C C1 k σ M).sat fun w M => (C f (ws ++ [w]) M).sat Q := by simp only [evE, sat_bind]
theorem q_meth (m : Str) (a : Ex) (es : El) (ds : List Wv) : (evE G C C1 (.meth m a es ds) σ M).sat Q ↔ (evE G C C1 a σ M).sat fun x M => (Out.ofO (metW G m x M) M).sat fun f M => (evL G C C1 es σ M).sat fun ws M => (C f (x :: (ws ++ ds)) M).sat Q := by simp only [evE, sat_bind]
theorem q_bm (m : Bm) (a : Ex) (es : El) : (evE G C C1 (.bm m a es) σ M).sat Q ↔ (evE G C C1 a σ M).sat fun x M => bmT m x M = true ∧ (evL G C C1 es σ M).sat fun ws M => (bmW m x ws M).sat Q := by simp only [evE, sat_bind, sat_chk]
theorem q_new (c : Nat) (es : El) : (evE G C C1 (.new c es) σ M).sat Q ↔ (evL G C C1 es σ M).sat fun ws M => (newW G C1 c ws M).sat Q := by simp only [evE, sat_bind]
theorem q_bi (b : Bi) (es : El) : (evE G C C1 (.bi b es) σ M).sat Q ↔ (evL G C C1 es σ M).sat fun ws M => (biW G b ws M).sat Q := by simp only [evE, sat_bind]
theorem q_isi (k : Kd) (a : Ex) : (evE G C C1 (.isi k a) σ M).sat Q ↔ (evE G C C1 a σ M).sat fun x M => (Out.ofO ((isiW k x M).map .bl) M).sat Q := by simp only [evE, sat_bind]
theorem q_lc (e : Ex) (t : Tg) (it : It) (c : Ex) : (evE G C C1 (.lc e t it c) σ M).sat Q ↔ (evI G C C1 it σ M).sat fun r M => (lcGo G t (evE G C C1 c) (evE G C C1 e) r.2 r.1 (wipeW σ t.slots) [] (lockM r.2 M)).sat fun ws M => Q (.ref (unlkM r.2 M).length) (unlkM r.2 M ++ [.lst ws]) := by
  simp only [evE, sat_bind, sat_unlk, sat_noExc, sat_ok]
theorem q_dc (k v : Ex) (t : Tg) (it : It) (c : Ex) : (evE G C C1 (.dc k v t it c) σ M).sat Q ↔ (evI G C C1 it σ M).sat fun r M => (dcGo G t (evE G C C1 c) (evE G C C1 k) (evE G C C1 v) r.2 r.1 (wipeW σ t.slots) [] (lockM r.2 M)).sat fun ws M => Q (.ref (unlkM r.2 M).length) (unlkM r.2 M ++ [.dct false ws]) := by
  simp only [evE, sat_bind, sat_unlk, sat_noExc, sat_ok]
theorem q_sortk (a : Ex) (k : Ke) : (evE G C C1 (.sortk a k) σ M).sat Q ↔ (evE G C C1 a σ M).sat fun x M => (newL ((lstOf x M).bind fun ws => (mapO (keyOf G k M) ws).bind fun ds => sortBy ds ws) M).sat Q := by simp only [evE, sat_bind]
theorem q_sortvM (a : Ex) : (evE G C C1 (.sortvM a) σ M).sat Q ↔ (evE G C C1 a σ M).sat fun x M => (newL ((valsOf x M).bind fun ws => (mapO (keyOf G kday M) ws).bind fun ds => sortMix ds ws) M).sat Q := by simp only [evE, sat_bind]
theorem q_maxk (a : Ex) : (evE G C C1 (.maxk a) σ M).sat Q ↔ (evE G C C1 a σ M).sat fun x M => (Out.ofO ((lstOf x M).bind fun ws => (mapO (keyOf G kday M) ws).bind fun ds => maxBy ds ws) M).sat Q := by simp only [evE, sat_bind]
theorem q_sortv (a : Ex) (k : Ke) : (evE G C C1 (.sortv a k) σ M).sat Q ↔ (evE G C C1 a σ M).sat fun x M => (newL ((valsOf x M).bind fun ws => (mapO (keyOf G k M) ws).bind fun ds => sortBy ds ws) M).sat Q := by simp only [evE, sat_bind]
theorem q_dict2 (k1 : Str) (v1 : Int) (k2 : Str) (v2 : Int) : (evE G C C1 (.dict2 k1 v1 k2 v2) σ M).sat Q ↔ decide (k1 ≠ k2) = true ∧ Q (.ref M.length) (M ++ [.dct false [(.str k1, .int v1), (.str k2, .int v2)]]) := by simp only [evE, sat_chk, sat_ok]
theorem q_anil : (evL G C C1 .nil σ M).sat QL ↔ QL [] M := by simp only [evL, sat_ok]
theorem q_acons (e : Ex) (es : El) : (evL G C C1 (.cons e es) σ M).sat QL ↔ (evE G C C1 e σ M).sat fun w M => (evL G C C1 es σ M).sat fun ws M => QL (w :: ws) M := by simp only [evL, sat_bind, sat_ok]
theorem q_ival (e : Ex) : (evI G C C1 (.val e) σ M).sat QI ↔ (evE G C C1 e σ M).sat fun x M => (Out.ofO (walkV G x M) M).sat QI := by simp only [evI, sat_bind]
theorem q_items (e : Ex) : (evI G C C1 (.items e) σ M).sat QI ↔ (evE G C C1 e σ M).sat fun x M => (Out.ofO (itmW x M) M).sat fun r M => QI (r.1.map fun p => .tup [p.1, p.2], r.2) M := by simp only [evI, sat_bind, sat_ok]
theorem q_vals (e : Ex) : (evI G C C1 (.vals e) σ M).sat QI ↔ (evE G C C1 e σ M).sat fun x M => (Out.ofO (itmW x M) M).sat fun r M => QI (r.1.map fun p => p.2, r.2) M := by simp only [evI, sat_bind, sat_ok]
theorem q_rng (a b : Ex) : (evI G C C1 (.rng a b) σ M).sat QI ↔ (evE G C C1 a σ M).sat fun x M => (evE G C C1 b σ M).sat fun y M => (Out.ofO (toI x) M).sat fun i M => (Out.ofO (toI y) M).sat fun j M => (rngOk i && rngOk j) = true ∧ QI (rngW i j, []) M := by
  simp only [evI, sat_bind]
  refine ⟨fun h => sat_mono h fun x M h => sat_mono h fun y M h => ?_, fun h => sat_mono h fun x M h => sat_mono h fun y M h => ?_⟩
  · cases ex : toI x with
    | none => rw [ex] at h; exact h.elim
    | some i =>
      cases ey : toI y with
      | none => rw [ex, ey] at h; exact h.elim
      | some j =>
        rw [ex, ey] at h
        rw [sat_chk] at h
        exact h
  · cases ex : toI x with
    | none => rw [ex] at h; exact h.elim
    | some i =>
      cases ey : toI y with
      | none => rw [ex, ey] at h; exact h.elim
      | some j =>
        rw [ex, ey] at h
        simp only [sat_chk]
        exact h
/-! ### operators -/
theorem o_add (i j : Int) : (binW .add (.int i) (.int j) M).sat Q ↔ Q (.int (i + j)) M := Iff.rfl
theorem o_sub (i j : Int) : (binW .sub (.int i) (.int j) M).sat Q ↔ Q (.int (i - j)) M := Iff.rfl
theorem o_mul (i j : Int) : (binW .mul (.int i) (.int j) M).sat Q ↔ mulOk i j = true ∧ Q (.int (i * j)) M := by simp only [binW, sat_chk, sat_ok]
theorem o_fdiv (i j : Int) : (binW .fdiv (.int i) (.int j) M).sat Q ↔ (decide (0 < j) && decide (j < 2 ^ 200)) = true ∧ Q (.int (i / j)) M := by simp only [binW, sat_chk, sat_ok]
theorem o_mod (i j : Int) : (binW .mod (.int i) (.int j) M).sat Q ↔ decide (0 < j) = true ∧ Q (.int (i % j)) M := by simp only [binW, sat_chk, sat_ok]
theorem o_pow18 : (binW .pow (.int 10) (.int 18) M).sat Q ↔ Q (.int 1000000000000000000) M := Iff.rfl
theorem o_addT (a b : List Wv) : (binW .add (.tup a) (.tup b) M).sat Q ↔ lenOk (a.length + b.length) = true ∧ Q (.tup (a ++ b)) M := by simp only [binW, sat_chk, sat_ok]
theorem o_addL (a b : Nat) (xs ys : List Wv) (ha : M[a]? = some (.lst xs)) (hb : M[b]? = some (.lst ys)) (hl : lenOk (xs.length + ys.length) = true) (h : Q (.ref M.length) (M ++ [.lst (xs ++ ys)])) : (binW .add (.ref a) (.ref b) M).sat Q := by
  simp only [binW, ha, hb, sat_chk, sat_ok]
  exact ⟨hl, h⟩
theorem ag_add (i j : Int) : (augW .add (.int i) (.int j) M).sat Q ↔ Q (.int (i + j)) M := Iff.rfl
theorem ag_sub (i j : Int) : (augW .sub (.int i) (.int j) M).sat Q ↔ Q (.int (i - j)) M := Iff.rfl
theorem c_lt (i j : Int) : (cmpW G .lt (.int i) (.int j) M).sat Q ↔ Q (.bl (decide (i < j))) M := Iff.rfl
theorem c_gt (i j : Int) : (cmpW G .gt (.int i) (.int j) M).sat Q ↔ Q (.bl (decide (j < i))) M := Iff.rfl
theorem c_le (i j : Int) : (cmpW G .le (.int i) (.int j) M).sat Q ↔ Q (.bl (decide (i ≤ j))) M := Iff.rfl
theorem c_ge (i j : Int) : (cmpW G .ge (.int i) (.int j) M).sat Q ↔ Q (.bl (decide (j ≤ i))) M := Iff.rfl
theorem c_eq (x y : Wv) : (cmpW G .eq x y M).sat Q ↔ ∃ b, eqW G x y M = some b ∧ Q (.bl b) M := by simp only [cmpW, sat_bind, sat_ofO, sat_ok]
theorem c_ne (x y : Wv) : (cmpW G .ne x y M).sat Q ↔ ∃ b, eqW G x y M = some b ∧ Q (.bl (!b)) M := by
  simp only [cmpW, sat_bind, sat_ofO, sat_ok, notO, Option.map_eq_some_iff]
  exact ⟨fun ⟨_, ⟨b, h, e⟩, q⟩ => ⟨b, h, e ▸ q⟩, fun ⟨b, h, q⟩ => ⟨_, ⟨b, h, rfl⟩, q⟩⟩
theorem c_is (x y : Wv) : (cmpW G .is_ x y M).sat Q ↔ ∃ b, isW x y = some b ∧ Q (.bl b) M := by simp only [cmpW, sat_bind, sat_ofO, sat_ok]
theorem c_isn (x y : Wv) : (cmpW G .isn x y M).sat Q ↔ ∃ b, isW x y = some b ∧ Q (.bl (!b)) M := by
  simp only [cmpW, sat_bind, sat_ofO, sat_ok, notO, Option.map_eq_some_iff]
  exact ⟨fun ⟨_, ⟨b, h, e⟩, q⟩ => ⟨b, h, e ▸ q⟩, fun ⟨b, h, q⟩ => ⟨_, ⟨b, h, rfl⟩, q⟩⟩
theorem c_in (x y : Wv) : (cmpW G .in_ x y M).sat Q ↔ ∃ b, inW G x y M = some b ∧ Q (.bl b) M := by simp only [cmpW, sat_bind, sat_ofO, sat_ok]
theorem c_nin (x y : Wv) : (cmpW G .nin x y M).sat Q ↔ ∃ b, inW G x y M = some b ∧ Q (.bl (!b)) M := by
  simp only [cmpW, sat_bind, sat_ofO, sat_ok, notO, Option.map_eq_some_iff]
  exact ⟨fun ⟨_, ⟨b, h, e⟩, q⟩ => ⟨b, h, e ▸ q⟩, fun ⟨b, h, q⟩ => ⟨_, ⟨b, h, rfl⟩, q⟩⟩
theorem u_tup (ws : List Wv) (j : Int) : (subW G (.tup ws) (.int j) M).sat Q ↔ (Out.ofO (atI ws j) M).sat Q := Iff.rfl
theorem u_scr (j : Int) : (subW G .scr (.int j) M).sat Q ↔ ∃ i, atI G.S j = some i ∧ Q (.int i) M := by
  show (Out.ofO ((atI G.S j).map .int) M).sat Q ↔ _
  simp only [sat_ofO, Option.map_eq_some_iff]
  exact ⟨fun ⟨_, ⟨b, h, e⟩, q⟩ => ⟨b, h, e ▸ q⟩, fun ⟨b, h, q⟩ => ⟨_, ⟨b, h, rfl⟩, q⟩⟩
theorem n_scr : (biW G .len [.scr] M).sat Q ↔ Q (.int G.S.length) M := Iff.rfl
theorem n_tup (ws : List Wv) : (biW G .len [.tup ws] M).sat Q ↔ Q (.int ws.length) M := Iff.rfl
theorem n_str (s : Str) : (biW G .len [.str s] M).sat Q ↔ lenOk s.length = true ∧ Q (.int s.length) M := by simp only [biW, sat_chk, sat_ok]
theorem n_abs (i : Int) : (biW G .abs [.int i] M).sat Q ↔ Q (.int (if i < 0 then -i else i)) M := Iff.rfl
theorem n_min2 (i j : Int) : (biW G .min [.int i, .int j] M).sat Q ↔ Q (.int (if j < i then j else i)) M := Iff.rfl
theorem n_max2 (i j : Int) : (biW G .max [.int i, .int j] M).sat Q ↔ Q (.int (if j > i then j else i)) M := Iff.rfl
theorem intsW_map (ns : List Int) : intsW (ns.map .int) = some ns := by
  unfold intsW
  induction ns with
  | nil => rfl
  | cons n ns ih => simp only [List.map_cons, mapO, ih, toI]
theorem bls_map (ns : List Bool) : bls (ns.map .bl) = some ns := by
  unfold bls
  induction ns with
  | nil => rfl
  | cons n ns ih => simp only [List.map_cons, mapO, ih]
theorem n_sum (l : Nat) (ns : List Int) (h : M[l]? = some (.lst (ns.map .int))) : biW G .sum [.ref l] M = .ok (.int ns.sum) M := by
  simp only [biW, lstOf, h, Option.bind_some, intsW_map, Out.ofO, Out.bind_ok]
theorem n_all (l : Nat) (ns : List Bool) (h : M[l]? = some (.lst (ns.map .bl))) : biW G .all [.ref l] M = .ok (.bl (ns.all id)) M := by
  simp only [biW, lstOf, h, Option.bind_some, bls_map, Out.ofO, Out.bind_ok]
theorem n_lenL (l : Nat) (ws : List Wv) (h : M[l]? = some (.lst ws)) : biW G .len [.ref l] M = .ok (.int ws.length) M := by
  simp only [biW, h]
theorem tg_nm (i : Nat) (w : Wv) : tgW (.nm i) w σ = some (σ.set i (some w)) := rfl
theorem i_int (i : Int) : toI (.int i) = some i := rfl
end
end MP
end
section
set_option Elab.async false
set_option linter.all false
set_option maxRecDepth 100000
/-! MQ3: data: what reads as what, equal things, sorted things. -/
namespace MP
open PySem PySem.W
section
variable {G : Pg} {M : Mem} {S : List Int} {n : Nat}
theorem toDs_map {α : Type} {f : α → Wv} {g : α → PyData} : ∀ {xs : List α}, (∀ x ∈ xs, toD S M n (f x) = some (g x)) → toDs S M n (xs.map f) = some (xs.map g)
  | [], _ => by simp only [List.map_nil, toDs]
  | x :: xs, h => by
    simp only [List.map_cons, toDs]
    rw [h x (List.mem_cons_self ..), toDs_map fun y hy => h y (List.mem_cons_of_mem _ hy)]
theorem mapO_map {α β γ : Type} {f : α → β} {g : β → Option γ} {h : α → γ} : ∀ {xs : List α}, (∀ x ∈ xs, g (f x) = some (h x)) → mapO g (xs.map f) = some (xs.map h)
  | [], _ => rfl
  | x :: xs, e => by
    simp only [List.map_cons, mapO]
    rw [e x (List.mem_cons_self ..), mapO_map fun y hy => e y (List.mem_cons_of_mem _ hy)]
theorem toD_lst {l : Nat} {ws : List Wv} {ds : List PyData} (h : M[l]? = some (.lst ws)) (e : toDs S M n ws = some ds) : toD S M (n + 1) (.ref l) = some (.list ds) := by
  simp only [toD, h, e, Option.map_some]
theorem canLayAll_map {α : Type} {g : α → PyData} : ∀ {xs : List α}, (∀ x ∈ xs, (g x).canLay0 = true) → PyData.canLayAll0 (xs.map g) = true
  | [], _ => by simp only [List.map_nil, PyData.canLayAll0]
  | x :: xs, h => by
    simp only [List.map_cons, PyData.canLayAll0]
    rw [h x (List.mem_cons_self ..), canLayAll_map fun y hy => h y (List.mem_cons_of_mem _ hy)]
    rfl
theorem depthAll_map {α : Type} {g : α → PyData} {d : Nat} : ∀ {xs : List α}, (∀ x ∈ xs, (g x).depth ≤ d) → PyData.depthAll (xs.map g) ≤ d
  | [], _ => by simp only [List.map_nil, PyData.depthAll]; exact Nat.zero_le _
  | x :: xs, h => by
    simp only [List.map_cons, PyData.depthAll]
    exact Nat.max_le.mpr ⟨h x (List.mem_cons_self ..), depthAll_map fun y hy => h y (List.mem_cons_of_mem _ hy)⟩
theorem shaped_lst {α : Type} {g : α → PyData} {d : Nat} {xs : List α} (hd : d < 64) (h : ∀ x ∈ xs, (g x).canLay0 = true ∧ (g x).depth ≤ d) : SeqAt.shaped (.list (xs.map g)) = true := by
  unfold SeqAt.shaped
  rw [Bool.and_eq_true]
  refine ⟨?_, decide_eq_true ?_⟩
  · simp only [PyData.canLay0]
    exact canLayAll_map fun x hx => (h x hx).1
  · simp only [PyData.depth]
    have := depthAll_map (g := g) (d := d) (xs := xs) fun x hx => (h x hx).2
    omega
theorem eqW_same {x y : Wv} {d : PyData} (hx : toD G.S M deepD x = some d) (hy : toD G.S M deepD y = some d) (hs : SeqAt.shaped d = true) : eqW G x y M = some true := by
  unfold eqW
  rw [hx, hy]
  simp only [hs, Bool.and_self, if_true]
  have : d.canLay0 = true := by
    unfold SeqAt.shaped at hs
    rw [Bool.and_eq_true] at hs
    exact hs.1
  rw [SeqAt.eqv_refl d this]
theorem eqW_of {x y : Wv} {d e : PyData} (hx : toD G.S M deepD x = some d) (hy : toD G.S M deepD y = some e) (hs : SeqAt.shaped d = true) (ht : SeqAt.shaped e = true) : eqW G x y M = some (PyData.eqv d e) := by
  unfold eqW
  rw [hx, hy]
  simp only [hs, ht, Bool.and_self, if_true]
/-- a list against the empty one -/
theorem eqW_nil {x : Wv} {l : Nat} {ds : List PyData} (hx : toD G.S M deepD x = some (.list ds)) (hl : M[l]? = some (.lst [])) (hs : SeqAt.shaped (.list ds) = true) : eqW G x (.ref l) M = some ds.isEmpty := by
  rw [eqW_of (e := .list []) hx (toD_lst (n := 11) hl (by simp only [toDs])) hs (by decide)]
  cases ds <;> rfl
theorem eqW_scr {l : Nat} (hl : M[l]? = some (.lst [])) : eqW G .scr (.ref l) M = some G.S.isEmpty := by
  have h1 : toD G.S M deepD .scr = some (.list (G.S.map .int)) := by simp only [deepD, toD]
  rw [eqW_nil h1 hl (shaped_lst (d := 0) (by omega) fun x _ => ⟨rfl, Nat.le_refl _⟩)]
  simp
theorem eqW_int (i j : Int) : eqW G (.int i) (.int j) M = some (decide (i = j)) := by
  have : PyData.eqv (.int i) (.int j) = decide (i = j) := by simp [PyData.eqv]; rfl
  rw [eqW_of (d := .int i) (e := .int j) (by simp only [deepD, toD]) (by simp only [deepD, toD]) rfl rfl, this]
theorem eqW_str {i j : Str} (hi : SeqAt.shaped (.str i) = true) (hj : SeqAt.shaped (.str j) = true) : eqW G (.str i) (.str j) M = some (decide (i = j)) := by
  have : PyData.eqv (.str i) (.str j) = decide (i = j) := by
    simp only [PyData.eqv]
    by_cases h : i = j
    · subst h; simp
    · simp [h]
  rw [eqW_of (d := .str i) (e := .str j) (by simp only [deepD, toD]) (by simp only [deepD, toD]) hi hj, this]
theorem tg_2 {σ : Sw} (i j : Nat) (a b : Wv) : tgW (.tup [i, j]) (.tup [a, b]) σ = some ((σ.set i (some a)).set j (some b)) := rfl
theorem tg_3 {σ : Sw} (i j k : Nat) (a b c : Wv) : tgW (.tup [i, j, k]) (.tup [a, b, c]) σ = some (((σ.set i (some a)).set j (some b)).set k (some c)) := rfl
theorem at_0 {α : Type} (x : α) (xs : List α) : atI (x :: xs) 0 = some x := rfl
theorem at_1 {α : Type} (x y : α) (xs : List α) : atI (x :: y :: xs) 1 = some y := rfl
theorem at_2 {α : Type} (x y z : α) (xs : List α) : atI (x :: y :: z :: xs) 2 = some z := rfl
theorem at_3 {α : Type} (x y z u : α) (xs : List α) : atI (x :: y :: z :: u :: xs) 3 = some u := rfl
theorem at_4 {α : Type} (x y z u v : α) (xs : List α) : atI (x :: y :: z :: u :: v :: xs) 4 = some v := rfl
theorem isi_int (i : Int) : isiW .int (.int i) M = some true := rfl
theorem isi_bool (i : Int) : isiW .bool (.int i) M = some false := rfl
theorem isi_str (s : Str) : isiW .str (.str s) M = some true := rfl
theorem mul_l {i j : Int} (h : i.natAbs < 2 ^ 62) : mulOk i j = true := by unfold mulOk; rw [decide_eq_true h]; rfl
theorem mul_r {i j : Int} (h : j.natAbs < 2 ^ 62) : mulOk i j = true := by unfold mulOk; rw [decide_eq_true h, Bool.or_true]
theorem len_ok {n : Nat} (h : n ≤ sizeLine) : lenOk n = true := decide_eq_true h
theorem at_nat {α : Type} {xs : List α} {i : Nat} {x : α} (h : xs[i]? = some x) : atI xs (i : Int) = some x := by
  unfold atI
  rw [if_pos (by omega)]
  simpa using h
end
end MP
end
section
set_option Elab.async false
set_option linter.all false
set_option maxRecDepth 100000
/-! MQ4: dicts as key lists; locks. -/
namespace MP
open PySem PySem.W
section
variable {G : Pg} {M : Mem}
def addK (g : List Wv) (k : Wv) : List Wv := if k ∈ g then g else g ++ [k]
def sets (g : List Wv) : List (Wv × Wv) := g.map fun x => (x, .bl true)
theorem dput_sets (g : List Wv) (k : Wv) : dput (sets g) k (.bl true) = sets (addK g k) := by
  unfold sets addK
  induction g with
  | nil => rfl
  | cons x g ih =>
    simp only [List.map_cons, dput]
    by_cases h : x = k
    · subst h; simp
    · rw [if_neg h, ih]
      have h2 : ¬ k = x := fun e => h e.symm
      by_cases hm : k ∈ g
      · simp [hm, h2]
      · simp [hm, h2]
theorem dget_sets (g : List Wv) (k : Wv) : (dget (sets g) k).isSome = decide (k ∈ g) := by
  unfold sets
  induction g with
  | nil => rfl
  | cons x g ih =>
    simp only [List.map_cons, dget]
    by_cases h : x = k
    · subst h; simp
    · rw [if_neg h, ih]
      have h2 : ¬ k = x := fun e => h e.symm
      simp [h2]
theorem sets_len (g : List Wv) : (sets g).length = g.length := by unfold sets; simp
theorem sets_keys (g : List Wv) : (sets g).map (·.1) = g := by unfold sets; simp [List.map_map, Function.comp_def]
theorem keyOk_T {kvs : List (Wv × Wv)} {k : Wv} (h : keyT k = true) (hk : ∀ p ∈ kvs, keyT p.1 = true) : keyOk kvs k = true := by
  unfold keyOk
  rw [h, List.all_eq_true.mpr hk]
  simp
theorem keyOk_sets {g : List Wv} {k : Wv} (h : keyT k = true) (hk : ∀ x ∈ g, keyT x = true) : keyOk (sets g) k = true := by
  refine keyOk_T h fun p hp => ?_
  unfold sets at hp
  obtain ⟨x, hx, rfl⟩ := List.mem_map.mp hp
  exact hk x hx
theorem addK_mem {g : List Wv} {k x : Wv} (h : x ∈ addK g k) : x ∈ g ∨ x = k := by
  unfold addK at h
  split at h
  · exact .inl h
  · rcases List.mem_append.mp h with h | h
    · exact .inl h
    · exact .inr (List.mem_singleton.mp h)
theorem addK_len (g : List Wv) (k : Wv) : (addK g k).length ≤ g.length + 1 := by
  unfold addK
  split
  · omega
  · simp
/-- keys put one behind another -/
def keysOf (ws : List Wv) : List Wv := ws.foldl addK []
theorem dputs_sets (g ws : List Wv) : dputs (sets g) (ws.map fun x => (x, .bl true)) = sets (ws.foldl addK g) := by
  induction ws generalizing g with
  | nil => rfl
  | cons x ws ih => simp only [List.map_cons, dputs, List.foldl_cons, dput_sets, ih]
theorem foldl_addK_mem {g ws : List Wv} {x : Wv} (h : x ∈ ws.foldl addK g) : x ∈ g ∨ x ∈ ws := by
  induction ws generalizing g with
  | nil => exact .inl h
  | cons y ws ih =>
    rcases ih h with h | h
    · rcases addK_mem h with h | h
      · exact .inl h
      · exact .inr (h ▸ List.mem_cons_self ..)
    · exact .inr (List.mem_cons_of_mem _ h)
theorem foldl_addK_len (g ws : List Wv) : (ws.foldl addK g).length ≤ g.length + ws.length := by
  induction ws generalizing g with
  | nil => simp
  | cons y ws ih =>
    have := ih (addK g y)
    have := addK_len g y
    simp only [List.foldl_cons, List.length_cons]
    omega
theorem foldl_addK_nodup {g ws : List Wv} (h : (g ++ ws).Nodup) : ws.foldl addK g = g ++ ws := by
  induction ws generalizing g with
  | nil => simp
  | cons y ws ih =>
    have hy : y ∉ g := by
      intro hy
      have := List.nodup_append.mp h
      exact this.2.2 y hy y (List.mem_cons_self ..) rfl
    have e : addK g y = g ++ [y] := by unfold addK; rw [if_neg hy]
    rw [List.foldl_cons, e, ih (by simpa using h)]
    simp
theorem keysOf_nodup {ws : List Wv} (h : ws.Nodup) : keysOf ws = ws := foldl_addK_nodup (g := []) (by simpa using h)
/-! ### locks -/
theorem set_self {α : Type} {M : List α} {l : Nat} {o : α} (h : M[l]? = some o) : M.set l o = M := by
  refine List.ext_getElem? fun i => ?_
  rw [List.getElem?_set]
  split
  · rename_i e
    subst e
    rw [if_pos (List.getElem?_eq_some_iff.mp h).1, h]
  · rfl
theorem unlk_lock {l : Nat} {kvs : List (Wv × Wv)} (h : M[l]? = some (.dct false kvs)) : unlkM [(l, .dct false kvs)] (lockM [(l, .dct false kvs)] M) = M := by
  simp only [unlkM, lockM, List.set_set]
  exact set_self h
/-- a dict is unlocked again: all grew -/
theorem pre_unlk {M M' : Mem} {l : Nat} {kvs : List (Wv × Wv)} (h : M[l]? = some (.dct false kvs)) (hp : M.set l (.dct true kvs) <+: M') : M <+: M'.set l (.dct false kvs) := by
  obtain ⟨L, rfl⟩ := hp
  have hl : l < M.length := (List.getElem?_eq_some_iff.mp h).1
  rw [List.set_append_left _ _ (by simpa using hl), List.set_set, set_self h]
  exact List.prefix_append _ _
end
end MP
namespace MP
open PySem PySem.W
section
variable {G : Pg} {M : Mem}
theorem walk_lst {l : Nat} {ws : List Wv} (h : M[l]? = some (.lst ws)) : walkV G (.ref l) M = some (ws, [(l, .lst ws)]) := by simp only [walkV, h]
theorem walk_dct {l : Nat} {z : Bool} {kvs : List (Wv × Wv)} (h : M[l]? = some (.dct z kvs)) : walkV G (.ref l) M = some (kvs.map (·.1), [(l, .dct z kvs)]) := by simp only [walkV, h]
theorem stays_lst {l : Nat} {ws : List Wv} (h : M[l]? = some (.lst ws)) : stays [(l, .lst ws)] M = true := by
  unfold stays
  simp [h]
theorem stays_dct (l : Nat) (z : Bool) (kvs : List (Wv × Wv)) : stays [(l, .dct z kvs)] M = true := rfl
theorem lock_lst (l : Nat) (ws : List Wv) : lockM [(l, .lst ws)] M = M := rfl
theorem unlk_lst (l : Nat) (ws : List Wv) : unlkM [(l, .lst ws)] M = M := rfl
/-- a comprehension's end -/
theorem lc_done {t : Tg} {c e : Sw → Mem → Out Wv} {ps : List (Nat × Ob)} {xs ws : List Wv} {σ : Sw} {Q : Wv → Mem → Prop} (h : lcGo G t c e ps xs σ [] (lockM ps M) = .ok ws (lockM ps M)) (hu : unlkM ps (lockM ps M) = M) (q : Q (.ref M.length) (M ++ [.lst ws])) :
    (lcGo G t c e ps xs σ [] (lockM ps M)).sat fun ws M => Q (.ref (unlkM ps M).length) (unlkM ps M ++ [.lst ws]) := by
  rw [h]
  show Q (.ref (unlkM ps (lockM ps M)).length) (unlkM ps (lockM ps M) ++ [.lst ws])
  rw [hu]
  exact q
theorem n_listD {l : Nat} {z : Bool} {kvs : List (Wv × Wv)} (h : M[l]? = some (.dct z kvs)) (hl : kvs.length ≤ sizeLine) : biW G .list [.ref l] M = .ok (.ref M.length) (M ++ [.lst (kvs.map (·.1))]) := by
  simp only [biW, itemsOf, h, newL, List.length_map, len_ok hl, Out.chk]
theorem bm_append {l : Nat} {ws : List Wv} {y : Wv} (h : M[l]? = some (.lst ws)) (hl : ws.length + 1 ≤ sizeLine) : bmW .append (.ref l) [y] M = .ok .non (M.set l (.lst (ws ++ [y]))) := by
  simp only [bmW, h, len_ok hl, Out.chk]
theorem bmT_append {l : Nat} {ws : List Wv} (h : M[l]? = some (.lst ws)) : bmT .append (.ref l) M = true := by simp only [bmT, h]
theorem bmT_get {l : Nat} {z : Bool} {kvs : List (Wv × Wv)} (h : M[l]? = some (.dct z kvs)) : bmT .get (.ref l) M = true := by simp only [bmT, h]
theorem bm_get2 {l : Nat} {z : Bool} {kvs : List (Wv × Wv)} {k d : Wv} (h : M[l]? = some (.dct z kvs)) (hk : keyOk kvs k = true) : bmW .get (.ref l) [k, d] M = .ok ((dget kvs k).getD d) M := by
  simp only [bmW, h, hk, Out.chk]
theorem set_dct {l : Nat} {kvs : List (Wv × Wv)} {k v : Wv} (h : M[l]? = some (.dct false kvs)) (hk : keyOk kvs k = true) (hl : kvs.length + 1 ≤ sizeLine) : setW (.ref l) k v M = .ok () (M.set l (.dct false (dput kvs k v))) := by
  simp only [setW, h, hk, len_ok hl, Bool.and_self, Out.chk]
theorem in_dct {l : Nat} {z : Bool} {kvs : List (Wv × Wv)} {k : Wv} (h : M[l]? = some (.dct z kvs)) (hk : keyOk kvs k = true) : inW G k (.ref l) M = some (dget kvs k).isSome := by
  simp only [inW, h, hk, if_true]
theorem rev_lst {l : Nat} {ws : List Wv} (h : M[l]? = some (.lst ws)) : revW true (.ref l) M = .ok (.ref M.length) (M ++ [.lst ws.tail.reverse]) := by
  simp only [revW, h, if_true]
theorem sub_dct {l : Nat} {z : Bool} {kvs : List (Wv × Wv)} {k v : Wv} (h : M[l]? = some (.dct z kvs)) (hk : keyOk kvs k = true) (hv : dget kvs k = some v) : subW G (.ref l) k M = .ok v M := by
  simp only [subW, h, hk, hv, Out.chk, Out.ofO]
theorem sub_lst {l : Nat} {ws : List Wv} {j : Int} {v : Wv} (h : M[l]? = some (.lst ws)) (hv : atI ws j = some v) : subW G (.ref l) (.int j) M = .ok v M := by
  simp only [subW, h, hv, Out.ofO]
end
end MP
namespace MP
open PySem PySem.W
theorem for_step {t : Tg} {b : Sw → Mem → Out (Fl × Sw)} {ps : List (Nat × Ob)} {x : Wv} {xs : List Wv} {σ τ : Sw} {M : Mem} {Q : Fl × Sw → Mem → Prop} (hs : stays ps M = true) (ht : tgW t x σ = some τ)
    (h : (b τ M).sat fun r M2 => r.1 = .nx ∧ (forGo t b ps xs r.2 M2).sat Q) : (forGo t b ps (x :: xs) σ M).sat Q := by
  unfold forGo
  rw [sat_chk]
  refine ⟨hs, ?_⟩
  rw [ht]
  show Out.sat (Out.bind (b τ M) _) Q
  rw [sat_bind]
  refine sat_mono h fun r M2 ⟨h1, h2⟩ => ?_
  obtain ⟨f, σ2⟩ := r
  simp only at h1
  subst h1
  exact h2
theorem for_nil {t : Tg} {b : Sw → Mem → Out (Fl × Sw)} {ps : List (Nat × Ob)} {σ : Sw} {M : Mem} {Q : Fl × Sw → Mem → Prop} (hs : stays ps M = true) (h : Q (.nx, σ) M) : (forGo t b ps [] σ M).sat Q := by
  unfold forGo
  rw [sat_chk]
  exact ⟨hs, h⟩
end MP
end
section
set_option Elab.async false
set_option linter.all false
set_option maxRecDepth 100000
/-! MQ5: pure values: numbers, texts, None, tuples of these; their data. -/
namespace MP
open PySem PySem.W
mutual
def dat : Wv → PyData
  | .non => .none
  | .int i => .int i
  | .str s => .str s
  | .tup ws => .tuple (dats ws)
  | .bl b => .bool b
  | .ref _ => .none
  | .scr => .none
def dats : List Wv → List PyData
  | [] => []
  | w :: ws => dat w :: dats ws
end
mutual
/-- pure, so deep -/
def pur : Nat → Wv → Bool
  | _, .non => true
  | _, .int _ => true
  | _, .str s => PyData.strOk s
  | n + 1, .tup ws => purs n ws
  | 0, .tup _ => false
  | _, .bl _ => false
  | _, .ref _ => false
  | _, .scr => false
def purs : Nat → List Wv → Bool
  | _, [] => true
  | n, w :: ws => pur n w && purs n ws
end
mutual
theorem toD_pur {S : List Int} {M : Mem} : ∀ {n m : Nat} {w : Wv}, pur n w = true → n ≤ m → toD S M m w = some (dat w)
  | _, _, .non, _, _ => by simp only [toD, dat]
  | _, _, .int _, _, _ => by simp only [toD, dat]
  | _, _, .str _, _, _ => by simp only [toD, dat]
  | 0, _, .tup _, h, _ => by simp [pur] at h
  | n + 1, 0, .tup _, _, h => by omega
  | n + 1, m + 1, .tup ws, h, hm => by
    simp only [pur] at h
    simp only [toD, dat, toDs_pur (n := n) (m := m) h (Nat.le_of_succ_le_succ hm), Option.map_some]
  | _, _, .bl _, h, _ => by simp [pur] at h
  | _, _, .ref _, h, _ => by simp [pur] at h
  | _, _, .scr, h, _ => by simp [pur] at h
theorem toDs_pur {S : List Int} {M : Mem} : ∀ {n m : Nat} {ws : List Wv}, purs n ws = true → n ≤ m → toDs S M m ws = some (dats ws)
  | _, _, [], _, _ => by simp only [toDs, dats]
  | n, m, w :: ws, h, hm => by
    simp only [purs, Bool.and_eq_true] at h
    simp only [toDs, dats, toD_pur h.1 hm, toDs_pur h.2 hm]
end
mutual
theorem ofD_dat : ∀ {n : Nat} {w : Wv}, pur n w = true → ofD (dat w) = some w
  | _, .non, _ => by simp only [ofD, dat]
  | _, .int _, _ => by simp only [ofD, dat]
  | _, .str _, _ => by simp only [ofD, dat]
  | 0, .tup _, h => by simp [pur] at h
  | n + 1, .tup ws, h => by
    simp only [pur] at h
    simp only [ofD, dat, ofDs_dats h, Option.map_some]
  | _, .bl _, h => by simp [pur] at h
  | _, .ref _, h => by simp [pur] at h
  | _, .scr, h => by simp [pur] at h
theorem ofDs_dats : ∀ {n : Nat} {ws : List Wv}, purs n ws = true → ofDs (dats ws) = some ws
  | _, [], _ => by simp only [ofDs, dats]
  | n, w :: ws, h => by
    simp only [purs, Bool.and_eq_true] at h
    simp only [ofDs, dats, ofD_dat h.1, ofDs_dats h.2]
end
mutual
theorem dat_depth : ∀ {n : Nat} {w : Wv}, pur n w = true → (dat w).depth ≤ n
  | _, .non, _ => by simp [dat, PyData.depth]
  | _, .int _, _ => by simp [dat, PyData.depth]
  | _, .str _, _ => by simp [dat, PyData.depth]
  | 0, .tup _, h => by simp [pur] at h
  | n + 1, .tup ws, h => by
    simp only [pur] at h
    simp only [dat, PyData.depth]
    have := dats_depth h
    omega
  | _, .bl _, h => by simp [pur] at h
  | _, .ref _, h => by simp [pur] at h
  | _, .scr, h => by simp [pur] at h
theorem dats_depth : ∀ {n : Nat} {ws : List Wv}, purs n ws = true → PyData.depthAll (dats ws) ≤ n
  | _, [], _ => by simp [dats, PyData.depthAll]
  | n, w :: ws, h => by
    simp only [purs, Bool.and_eq_true] at h
    simp only [dats, PyData.depthAll]
    exact Nat.max_le.mpr ⟨dat_depth h.1, dats_depth h.2⟩
end
mutual
theorem dat_lay : ∀ {n : Nat} {w : Wv}, pur n w = true → (dat w).canLay0 = true
  | _, .non, _ => by simp [dat, PyData.canLay0]
  | _, .int _, _ => by simp [dat, PyData.canLay0]
  | _, .str _, h => by simpa [dat, PyData.canLay0, pur] using h
  | 0, .tup _, h => by simp [pur] at h
  | n + 1, .tup ws, h => by
    simp only [pur] at h
    simp only [dat, PyData.canLay0]
    exact dats_lay h
  | _, .bl _, h => by simp [pur] at h
  | _, .ref _, h => by simp [pur] at h
  | _, .scr, h => by simp [pur] at h
theorem dats_lay : ∀ {n : Nat} {ws : List Wv}, purs n ws = true → PyData.canLayAll0 (dats ws) = true
  | _, [], _ => by simp [dats, PyData.canLayAll0]
  | n, w :: ws, h => by
    simp only [purs, Bool.and_eq_true] at h
    simp only [dats, PyData.canLayAll0, dat_lay h.1, dats_lay h.2, Bool.and_self]
end
mutual
theorem noL_dat : ∀ {n : Nat} {w : Wv}, pur n w = true → noL (dat w) = true
  | _, .non, _ => by simp [dat, noL]
  | _, .int _, _ => by simp [dat, noL]
  | _, .str _, h => by simp [dat, noL]
  | 0, .tup _, h => by simp [pur] at h
  | n + 1, .tup ws, h => by
    simp only [pur] at h
    simp only [dat, noL]
    exact noLs_dats h
  | _, .bl _, h => by simp [pur] at h
  | _, .ref _, h => by simp [pur] at h
  | _, .scr, h => by simp [pur] at h
theorem noLs_dats : ∀ {n : Nat} {ws : List Wv}, purs n ws = true → noLs (dats ws) = true
  | _, [], _ => by simp [dats, noLs]
  | n, w :: ws, h => by
    simp only [purs, Bool.and_eq_true] at h
    simp only [dats, noLs, noL_dat h.1, noLs_dats h.2, Bool.and_self]
end
mutual
theorem alike_dat : ∀ {n : Nat} {w : Wv}, pur n w = true → alike (dat w) (dat w) = true
  | _, .non, _ => by simp [dat, alike]
  | _, .int _, _ => by simp [dat, alike]
  | _, .str _, h => by simp [dat, alike]
  | 0, .tup _, h => by simp [pur] at h
  | n + 1, .tup ws, h => by
    simp only [pur] at h
    simp only [dat, alike]
    exact alikes_dats h
  | _, .bl _, h => by simp [pur] at h
  | _, .ref _, h => by simp [pur] at h
  | _, .scr, h => by simp [pur] at h
theorem alikes_dats : ∀ {n : Nat} {ws : List Wv}, purs n ws = true → alikeAll (dats ws) (dats ws) = true
  | _, [], _ => by simp [dats, alikeAll]
  | n, w :: ws, h => by
    simp only [purs, Bool.and_eq_true] at h
    simp only [dats, alikeAll, alike_dat h.1, alikes_dats h.2, Bool.and_self]
end
mutual
theorem eqv_dat : ∀ {n m : Nat} {v w : Wv}, pur n v = true → pur m w = true → PyData.eqv (dat v) (dat w) = decide (v = w)
  | _, _, .non, .non, _, _ => by simp [dat, PyData.eqv]
  | _, _, .int i, .int j, _, _ => by
    simp only [dat, PyData.eqv, Wv.int.injEq]
    by_cases h : i = j
    · subst h; simp
    · simp [h]
  | _, _, .str i, .str j, _, _ => by
    simp only [dat, PyData.eqv, Wv.str.injEq]
    by_cases h : i = j
    · subst h; simp
    · simp [h]
  | n + 1, m + 1, .tup vs, .tup ws, h1, h2 => by
    simp only [pur] at h1 h2
    simp only [dat, PyData.eqv, eqvs_dats h1 h2, Wv.tup.injEq]
  | 0, _, .tup _, _, h, _ => by simp [pur] at h
  | _, 0, _, .tup _, _, h => by simp [pur] at h
  | _, _, .non, .int _, _, _ => by simp [dat, PyData.eqv]
  | _, _, .non, .str _, _, _ => by simp [dat, PyData.eqv]
  | _, _, .non, .tup _, _, _ => by simp [dat, PyData.eqv]
  | _, _, .int _, .non, _, _ => by simp [dat, PyData.eqv]
  | _, _, .int _, .str _, _, _ => by simp [dat, PyData.eqv]
  | _, _, .int _, .tup _, _, _ => by simp [dat, PyData.eqv]
  | _, _, .str _, .non, _, _ => by simp [dat, PyData.eqv]
  | _, _, .str _, .int _, _, _ => by simp [dat, PyData.eqv]
  | _, _, .str _, .tup _, _, _ => by simp [dat, PyData.eqv]
  | _, _, .tup _, .non, _, _ => by simp [dat, PyData.eqv]
  | _, _, .tup _, .int _, _, _ => by simp [dat, PyData.eqv]
  | _, _, .tup _, .str _, _, _ => by simp [dat, PyData.eqv]
  | _, _, .bl _, _, h, _ => by simp [pur] at h
  | _, _, .ref _, _, h, _ => by simp [pur] at h
  | _, _, .scr, _, h, _ => by simp [pur] at h
  | _, _, _, .bl _, _, h => by simp [pur] at h
  | _, _, _, .ref _, _, h => by simp [pur] at h
  | _, _, _, .scr, _, h => by simp [pur] at h
theorem eqvs_dats : ∀ {n m : Nat} {vs ws : List Wv}, purs n vs = true → purs m ws = true → PyData.eqvAll (dats vs) (dats ws) = decide (vs = ws)
  | _, _, [], [], _, _ => by simp [dats, PyData.eqvAll]
  | _, _, [], _ :: _, _, _ => by simp [dats, PyData.eqvAll]
  | _, _, _ :: _, [], _, _ => by simp [dats, PyData.eqvAll]
  | _, _, v :: vs, w :: ws, h1, h2 => by
    simp only [purs, Bool.and_eq_true] at h1 h2
    simp only [dats, PyData.eqvAll, eqv_dat h1.1 h2.1, eqvs_dats h1.2 h2.2, List.cons.injEq]
    by_cases h : v = w
    · subst h; simp
    · simp [h]
end
theorem shaped_dat {n : Nat} {w : Wv} (h : pur n w = true) (hn : n ≤ 64) : SeqAt.shaped (dat w) = true := by
  unfold SeqAt.shaped
  rw [Bool.and_eq_true]
  exact ⟨dat_lay h, decide_eq_true (Nat.le_trans (dat_depth h) hn)⟩
theorem eqW_pur {G : Pg} {M : Mem} {n m : Nat} {v w : Wv} (h1 : pur n v = true) (h2 : pur m w = true) (hn : n ≤ 12) (hm : m ≤ 12) : eqW G v w M = some (decide (v = w)) := by
  rw [eqW_of (toD_pur h1 hn) (toD_pur h2 hm) (shaped_dat h1 (by omega)) (shaped_dat h2 (by omega)), eqv_dat h1 h2]
end MP
end
section
set_option Elab.async false
set_option linter.all false
set_option maxRecDepth 100000
/-! MQ6: sorted things, by a number that tells them apart. -/
namespace MP
open PySem PySem.W
mutual
theorem pur_le : ∀ {n m : Nat} {w : Wv}, pur n w = true → n ≤ m → pur m w = true
  | _, _, .non, _, _ => by simp [pur]
  | _, _, .int _, _, _ => by simp [pur]
  | _, _, .str _, h, _ => by simpa [pur] using h
  | 0, _, .tup _, h, _ => by simp [pur] at h
  | n + 1, 0, .tup _, _, h => by omega
  | n + 1, m + 1, .tup ws, h, hm => by
    simp only [pur] at h ⊢
    exact purs_le h (Nat.le_of_succ_le_succ hm)
  | _, _, .bl _, h, _ => by simp [pur] at h
  | _, _, .ref _, h, _ => by simp [pur] at h
  | _, _, .scr, h, _ => by simp [pur] at h
theorem purs_le : ∀ {n m : Nat} {ws : List Wv}, purs n ws = true → n ≤ m → purs m ws = true
  | _, _, [], _, _ => by simp [purs]
  | n, m, w :: ws, h, hm => by
    simp only [purs, Bool.and_eq_true] at h ⊢
    exact ⟨pur_le h.1 hm, purs_le h.2 hm⟩
end
theorem pw_inj {α : Type} {m : α → Int} {ys : List α} (h : ys.Pairwise fun a b => m a < m b) {a b : α} (ha : a ∈ ys) (hb : b ∈ ys) (e : m a = m b) : a = b := by
  induction ys with
  | nil => cases ha
  | cons y ys ih =>
    rw [List.pairwise_cons] at h
    rcases List.mem_cons.mp ha with ha | ha
    · rcases List.mem_cons.mp hb with hb | hb
      · rw [ha, hb]
      · have := h.1 b hb
        rw [ha] at e; omega
    · rcases List.mem_cons.mp hb with hb | hb
      · have := h.1 a ha
        rw [hb] at e; omega
      · exact ih h.2 ha hb
theorem sort_int {α : Type} (m : α → Int) {xs ys : List α} (hp : xs.Perm ys) (hy : ys.Pairwise fun a b => m a < m b) : xs.mergeSort (fun a b => decide (m a ≤ m b)) = ys := by
  refine List.Perm.eq_of_pairwise (le := fun a b => m a ≤ m b) ?_ ?_ ?_ ((List.mergeSort_perm _ _).trans hp)
  · intro a b ha hb h1 h2
    exact pw_inj hy (hp.subset ((List.mergeSort_perm _ _).subset ha)) hb (by omega)
  · have := List.pairwise_mergeSort (le := fun a b => decide (m a ≤ m b)) (fun a b c h1 h2 => by
      have g1 := of_decide_eq_true h1
      have g2 := of_decide_eq_true h2
      exact decide_eq_true (by omega)) (fun a b => by
      by_cases h : m a ≤ m b
      · rw [decide_eq_true h]; rfl
      · rw [decide_eq_true (show m b ≤ m a by omega), Bool.or_true]) xs
    exact this.imp fun h => of_decide_eq_true h
  · exact hy.imp fun h => by omega
theorem sortBy_int {α : Type} {f : α → PyData} {g : α → Wv} (m : α → Int) {xs ys : List α} (hp : xs.Perm ys) (hy : ys.Pairwise fun a b => m a < m b)
    (hlt : ∀ a ∈ xs, ∀ b ∈ xs, W.dataLt (f a) (f b) = decide (m a < m b)) (ha : alikeAllB (xs.map f) = true) (hs : sortableB (xs.map f) = true) (hd : (xs.map f).all dcap = true) : sortBy (xs.map f) (xs.map g) = some (ys.map g) := by
  unfold sortBy
  rw [ha, hs, hd]
  simp only [Bool.and_self, if_true]
  have e1 : (xs.map f).zip (xs.map g) = xs.map fun a => (f a, g a) := by rw [List.zip_map']
  have e2 := List.map_mergeSort (r := fun a b => decide (m a ≤ m b)) (s := fun a b => W.dataLe false (fun p : PyData × Wv => p.1) a b) (f := fun a => (f a, g a)) (l := xs) (fun a ha b hb => by
    rw [W.dataLe_eq]
    show _ = !(W.dataLt (f b) (f a))
    rw [hlt b hb a ha]
    by_cases h : m a ≤ m b
    · rw [decide_eq_true h, decide_eq_false (by omega)]; rfl
    · rw [decide_eq_false h, decide_eq_true (by omega)]; rfl)
  rw [e1, ← e2, sort_int m hp hy, List.map_map]
  rfl
theorem alikeAllB_map {α : Type} {f : α → PyData} {xs : List α} (h : ∀ a ∈ xs, ∀ b ∈ xs, W.alike (f a) (f b) = true) : alikeAllB (xs.map f) = true := by
  unfold alikeAllB
  rw [List.all_eq_true]
  intro d hd
  rw [List.all_eq_true]
  intro e he
  obtain ⟨a, ha, rfl⟩ := List.mem_map.mp hd
  obtain ⟨b, hb, rfl⟩ := List.mem_map.mp he
  exact h a ha b hb
theorem sortableB_tup {α : Type} {f : α → PyData} {xs : List α} (h : ∀ a ∈ xs, ∃ d ds, f a = .tuple (d :: ds)) : sortableB (xs.map f) = true := by
  unfold sortableB
  rw [Bool.or_eq_true]
  refine .inl ?_
  rw [List.all_eq_true]
  intro d hd
  obtain ⟨a, ha, rfl⟩ := List.mem_map.mp hd
  obtain ⟨d, ds, e⟩ := h a ha
  rw [e]
theorem sortableB_int {α : Type} {f : α → Int} {xs : List α} : sortableB (xs.map fun a => .int (f a)) = true := by
  unfold sortableB
  rw [Bool.or_eq_true]
  refine .inr ?_
  rw [List.all_eq_true]
  intro d hd
  obtain ⟨a, ha, rfl⟩ := List.mem_map.mp hd
  rfl
theorem dcap_map {α : Type} {f : α → PyData} {xs : List α} (h : ∀ a ∈ xs, (f a).depth ≤ 32) : (xs.map f).all dcap = true := by
  rw [List.all_eq_true]
  intro d hd
  obtain ⟨a, ha, rfl⟩ := List.mem_map.mp hd
  exact decide_eq_true (h a ha)
end MP
end
section
set_option Elab.async false
set_option linter.all false
set_option maxRecDepth 100000
/-! MQ7: range with a step. -/
namespace MP
open PySem PySem.W
theorem q_rng3 (G : Pg) (C C1 : Nat → List Wv → Mem → Out Wv) (a b c : Ex) {σ : Sw} {M : Mem} {QI : List Wv × List (Nat × Ob) → Mem → Prop} (h : (evE G C C1 a σ M).sat fun x M => (evE G C C1 b σ M).sat fun y M => (evE G C C1 c σ M).sat fun z M => ∃ i j d, x = .int i ∧ y = .int j ∧ z = .int d ∧ (rngOk i && rngOk j && decide (0 < d) && decide (d ≤ 1000)) = true ∧ QI (rngS i j d, []) M) : (evI G C C1 (.rng3 a b c) σ M).sat QI := by
  simp only [evI, sat_bind]
  refine sat_mono h fun x M h => sat_mono h fun y M h => sat_mono h fun z M h => ?_
  obtain ⟨i, j, d, rfl, rfl, rfl, h1, h2⟩ := h
  simp only [toI, h1, Out.chk]
  exact h2
end MP
end
section
set_option Elab.async false
set_option linter.all false
set_option maxRecDepth 100000
/-! MQ8: zip; how often a tuple stands in a list. -/
namespace MP
open PySem PySem.W
section
variable {G : Pg} {C C1 : Nat → List Wv → Mem → Out Wv} {σ : Sw} {M : Mem} {Q : Wv → Mem → Prop} {QI : List Wv × List (Nat × Ob) → Mem → Prop}
theorem q_zip (a b : Ex) : (evI G C C1 (.zip a b) σ M).sat QI ↔ (evE G C C1 a σ M).sat fun x M => (evE G C C1 b σ M).sat fun y M => (Out.ofO (seqL x M) M).sat fun r M => (Out.ofO (seqL y M) M).sat fun q M => QI ((r.1.zip q.1).map fun p => .tup [p.1, p.2], r.2 ++ q.2) M := by simp only [evI, sat_bind, sat_ok]
theorem q_cntT (a b : Ex) : (evE G C C1 (.cntT a b) σ M).sat Q ↔ (evE G C C1 a σ M).sat fun x M => bmT .lcount x M = true ∧ (evE G C C1 b σ M).sat fun y M => (cntW G x y M).sat Q := by simp only [evE, sat_bind, sat_chk]
theorem q_tab (kvs : List (Str × Wv)) (a : Ex) : (evE G C C1 (.tab kvs a) σ M).sat Q ↔ (evE G C C1 a σ M).sat fun x M => (tabW kvs x M).sat Q := by simp only [evE, sat_bind]
theorem q_tnin (kvs : List (Str × Wv)) (a : Ex) : (evE G C C1 (.tnin kvs a) σ M).sat Q ↔ (evE G C C1 a σ M).sat fun x M => (tninW kvs x M).sat Q := by simp only [evE, sat_bind]
theorem q_zipT (a b : Ex) : (evI G C C1 (.zipT a b) σ M).sat QI ↔ (evE G C C1 a σ M).sat fun x M => (evE G C C1 b σ M).sat fun y M => (Out.ofO (zipTW x y) M).sat fun r M => QI (r, []) M := by simp only [evI, sat_bind, sat_ok]
theorem seq_lst {y : Nat} {ws : List Wv} (h : M[y]? = some (.lst ws)) : seqL (.ref y) M = some (ws, [(y, .lst ws)]) := by simp only [seqL, h]
theorem bmT_lcount {y : Nat} {ws : List Wv} (h : M[y]? = some (.lst ws)) : bmT .lcount (.ref y) M = true := by simp only [bmT, h]
theorem cnt_tup {y : Nat} {ws vs : List Wv} (h : M[y]? = some (.lst ws)) (hw : ∀ w ∈ ws, pur 9 w = true) (hv : pur 9 (.tup vs) = true) : cntW G (.ref y) (.tup vs) M = .ok (.int ((ws.countP fun w => decide (w = .tup vs) : Nat) : Int)) M := by
  have e1 : mapO (toD G.S M deepD) ws = some (ws.map dat) := by
    have := mapO_map (f := id) (g := toD G.S M deepD) (h := dat) (xs := ws) fun w hw2 => toD_pur (hw w hw2) (by decide)
    rw [List.map_id] at this
    exact this
  have e2 : toD G.S M deepD (.tup vs) = some (dat (.tup vs)) := toD_pur hv (by decide)
  have c1 : (ws.map dat).all noL = true := by
    rw [List.all_map, List.all_eq_true]
    exact fun w h => noL_dat (hw w h)
  have c3 : (ws.map dat).all dcap = true := by
    rw [List.all_map, List.all_eq_true]
    exact fun w h => decide_eq_true (Nat.le_trans (dat_depth (hw w h)) (by omega))
  have c4 : dcap (dat (.tup vs)) = true := decide_eq_true (Nat.le_trans (dat_depth hv) (by omega))
  simp only [cntW, lstOf, h, e1, e2, c1, noL_dat hv, c3, c4, Bool.and_self, Out.chk]
  congr 3
  rw [List.countP_map]
  refine List.countP_congr fun w h => ?_
  simp only [Function.comp_def]
  rw [eqv_dat (hw w h) hv]
end
end MP
end
section
set_option Elab.async false
set_option linter.all false
set_option maxRecDepth 100000
set_option maxHeartbeats 0

namespace Bh
open PySem PySem.Spec PyProof.Rows L2 MP
def top (i : Nat) : Stmt := PySem.Challenge.pw_basinhouse_k01_truths.main.body.getD i (.Pass ⟨0, 0, 0, 0⟩)
def ix_is_whole : Nat := 0
def ix_is_day : Nat := 1
def ix_is_name : Nat := 2
def ix_is_part : Nat := 3
def ix_is_plain : Nat := 4
def ix_is_truth : Nat := 5
def ix__law_drawn : Nat := 6
def ix__law_day : Nat := 7
def ix__law_place : Nat := 8
def ix__law_right : Nat := 9
def ix__law_base : Nat := 10
def ix__law_truth : Nat := 11
def ix__law_truths : Nat := 12
def ix__law_all_truths : Nat := 13
def ix_law : Nat := 14
def tab_PARTS : List (Str × Wv) := [("place", .tup [.str "day", .str "name", .str "below", .str "travel", .str "water"]), ("read", .tup [.str "day", .str "name", .str "water"]), ("right", .tup [.str "day", .str "name", .str "name", .str "name", .str "rank", .str "water", .str "much", .str "season", .str "season", .str "part", .str "below", .str "delay"]), ("ask", .tup [.str "day", .str "name", .str "water"]), ("store", .tup [.str "day", .str "name"]), ("dam", .tup [.str "day", .str "name", .str "much", .str "part"]), ("share", .tup [.str "day", .str "name", .str "name", .str "much"]), ("release", .tup [.str "day", .str "name", .str "name", .str "name", .str "water"]), ("sold", .tup [.str "day", .str "name", .str "name"]), ("leased", .tup [.str "day", .str "name", .str "name", .str "day"]), ("moved", .tup [.str "day", .str "name", .str "name"])]
def tab_RANGES : List (Str × Wv) := [("travel", .tup [.int 1, .int 9]), ("water", .tup [.int 0, .int 9999]), ("much", .tup [.int 0, .int 999999]), ("rank", .tup [.int 1, .int 99]), ("season", .tup [.int 0, .int 364]), ("part", .tup [.int 0, .int 1000]), ("delay", .tup [.int 0, .int 30])]
def N0 : List Str := ["thing", "least", "most"]
def ps0 : List Str := ["thing", "least", "most"]
def sl_is_whole : MP.Sl := (.cons (.ret (.and (.isi .int (.var 0)) (.and (.not (.isi .bool (.var 0))) (.cmp2 .le .le (.var 1) (.var 0) (.var 2)))))
  .nil)
def df_is_whole : MP.Df := ⟨3, 3, [], sl_is_whole⟩
def N1 : List Str := ["thing"]
def ps1 : List Str := ["thing"]
def sl_is_day : MP.Sl := (.cons (.ret (.call ix_is_whole (.cons (.var 0) (.cons (.con (.int 0)) (.cons (.glb "LAST_DAY") .nil))) []))
  .nil)
def df_is_day : MP.Df := ⟨1, 1, [], sl_is_day⟩
def N2 : List Str := ["thing", "sign"]
def ps2 : List Str := ["thing"]
def sl_is_name : MP.Sl := (.cons (.ret (.and (.isi .str (.var 0)) (.and (.cmp2 .le .le (.con (.int 1)) (.bi .len (.cons (.var 0) .nil)) (.con (.int 8))) (.bi .all (.cons (.lc (.cmp .in_ (.var 1) (.glb "SMALL")) (.nm 1) (.val (.var 0)) (.con (.bl true))) .nil)))))
  .nil)
def df_is_name : MP.Df := ⟨2, 1, [], sl_is_name⟩
def N3 : List Str := ["thing", "kind", "least", "most"]
def ps3 : List Str := ["thing", "kind"]
def sl_is_part : MP.Sl := (.cons (.ifs (.cmp .eq (.var 1) (.glb "DAY")) (.cons (.ret (.call ix_is_day (.cons (.var 0) .nil) []))
  .nil) .nil)
  (.cons (.ifs (.cmp .eq (.var 1) (.glb "NAME")) (.cons (.ret (.call ix_is_name (.cons (.var 0) .nil) []))
  .nil) .nil)
  (.cons (.ifs (.cmp .eq (.var 1) (.glb "BELOW")) (.cons (.ret (.or (.call ix_is_name (.cons (.var 0) .nil) []) (.and (.isi .str (.var 0)) (.cmp .eq (.var 0) (.glb "NOWHERE")))))
  .nil) .nil)
  (.cons (.asg (.tup [2, 3]) (.tab tab_RANGES (.var 1)))
  (.cons (.ret (.call ix_is_whole (.cons (.var 0) (.cons (.var 2) (.cons (.var 3) .nil))) []))
  .nil)))))
def df_is_part : MP.Df := ⟨4, 2, [], sl_is_part⟩
def N4 : List Str := ["thing", "kinds", "part", "kind"]
def ps4 : List Str := ["thing"]
def sl_is_plain : MP.Sl := (.cons (.ifs (.or (.not (.isi .tuple (.var 0))) (.or (.cmp .eq (.var 0) (.tup .nil)) (.or (.not (.isi .str (.sub (.var 0) (.con (.int 0))))) (.tnin tab_PARTS (.sub (.var 0) (.con (.int 0))))))) (.cons (.ret (.con (.bl false)))
  .nil) .nil)
  (.cons (.asg (.nm 1) (.tab tab_PARTS (.sub (.var 0) (.con (.int 0)))))
  (.cons (.ret (.and (.cmp .eq (.bi .len (.cons (.var 0) .nil)) (.bin .add (.bi .len (.cons (.var 1) .nil)) (.con (.int 1)))) (.bi .all (.cons (.lc (.call ix_is_part (.cons (.var 2) (.cons (.var 3) .nil)) []) (.tup [2, 3]) (.zipT (.slc (.var 0) (.con (.int 1)) .no) (.var 1)) (.con (.bl true))) .nil))))
  .nil)))
def df_is_plain : MP.Df := ⟨4, 1, [], sl_is_plain⟩
def N5 : List Str := ["thing", "deep"]
def ps5 : List Str := ["thing"]
def sl_is_truth : MP.Sl := (.cons (.for_ (.nm 1) (.rng (.con (.int 0)) (.glb "MOST_DEEP")) (.cons (.ifs (.or (.not (.isi .tuple (.var 0))) (.or (.cmp .ne (.bi .len (.cons (.var 0) .nil)) (.con (.int 2))) (.or (.not (.isi .str (.sub (.var 0) (.con (.int 0))))) (.cmp .ne (.sub (.var 0) (.con (.int 0))) (.glb "VOID"))))) (.cons (.ret (.call ix_is_plain (.cons (.var 0) .nil) []))
  .nil) .nil)
  (.cons (.asg (.nm 0) (.sub (.var 0) (.con (.int 1))))
  .nil)))
  (.cons (.ret (.call ix_is_plain (.cons (.var 0) .nil) []))
  .nil))
def df_is_truth : MP.Df := ⟨2, 1, [], sl_is_truth⟩
def N6 : List Str := ["script", "k", "many", "cell", "turn", "rest"]
def ps6 : List Str := ["script", "k", "many"]
def sl__law_drawn : MP.Sl := (.cons (.asg (.nm 3) (.bin .mul (.con (.int 7)) (.var 1)))
  (.cons (.ifs (.cmp .ne (.var 0) (.lst .nil)) (.cons (.asg (.nm 3) (.sub (.var 0) (.bin .mod (.var 1) (.bi .len (.cons (.var 0) .nil)))))
  (.cons (.asg (.nm 4) (.bin .fdiv (.var 1) (.bi .len (.cons (.var 0) .nil))))
  (.cons (.ifs (.and (.cmp .ge (.var 3) (.bin .pow (.con (.int 10)) (.con (.int 18)))) (.cmp .lt (.var 4) (.con (.int 60)))) (.cons (.asg (.nm 5) (.bin .fdiv (.var 3) (.bin .pow (.con (.int 10)) (.con (.int 18)))))
  (.cons (.whl (.and (.cmp .gt (.var 5) (.con (.int 0))) (.cmp .gt (.var 4) (.con (.int 0)))) (.cons (.asg (.nm 5) (.bin .fdiv (.var 5) (.con (.int 1000000))))
  (.cons (.asg (.nm 4) (.bin .sub (.var 4) (.con (.int 1))))
  .nil)))
  (.cons (.ifs (.cmp .gt (.var 5) (.con (.int 0))) (.cons (.ret (.bin .mod (.bin .mod (.var 5) (.con (.int 1000000))) (.var 2)))
  .nil) .nil)
  .nil))) .nil)
  (.cons (.asg (.nm 3) (.bin .add (.var 3) (.bin .mul (.con (.int 6553)) (.bin .fdiv (.var 1) (.bi .len (.cons (.var 0) .nil))))))
  .nil)))) .nil)
  (.cons (.asg (.nm 3) (.bin .mod (.bin .add (.bin .mul (.bin .mod (.var 3) (.con (.int 2147483563))) (.con (.int 69069))) (.bin .mul (.con (.int 104723)) (.bin .add (.var 1) (.con (.int 1))))) (.con (.int 2147483563))))
  (.cons (.asg (.nm 3) (.bin .mod (.bin .add (.bin .mul (.var 3) (.var 3)) (.bin .fdiv (.var 3) (.con (.int 3)))) (.con (.int 2147483399))))
  (.cons (.ret (.bin .mod (.bin .fdiv (.bin .mod (.bin .add (.bin .mul (.var 3) (.var 3)) (.bin .fdiv (.var 3) (.con (.int 7)))) (.con (.int 2147483647))) (.con (.int 11))) (.var 2)))
  .nil)))))
def df__law_drawn : MP.Df := ⟨6, 3, [], sl__law_drawn⟩
def N7 : List Str := ["script", "at"]
def ps7 : List Str := ["script", "at"]
def sl__law_day : MP.Sl := (.cons (.ret (.call ix__law_drawn (.cons (.var 0) (.cons (.var 1) (.cons (.con (.int 31)) .nil))) []))
  .nil)
def df__law_day : MP.Df := ⟨2, 2, [], sl__law_day⟩
def N8 : List Str := ["script", "at"]
def ps8 : List Str := ["script", "at"]
def sl__law_place : MP.Sl := (.cons (.ret (.sub (.con (.str "abcd")) (.call ix__law_drawn (.cons (.var 0) (.cons (.var 1) (.cons (.con (.int 4)) .nil))) [])))
  .nil)
def df__law_place : MP.Df := ⟨2, 2, [], sl__law_place⟩
def N9 : List Str := ["script", "at", "day", "name", "place", "owner", "rate", "most", "first", "last", "back"]
def ps9 : List Str := ["script", "at", "day"]
def sl__law_right : MP.Sl := (.cons (.asg (.tup [3, 4]) (.tup (.cons (.sub (.con (.str "rstv")) (.call ix__law_drawn (.cons (.var 0) (.cons (.var 1) (.cons (.con (.int 4)) .nil))) [])) (.cons (.call ix__law_place (.cons (.var 0) (.cons (.bin .add (.var 1) (.con (.int 1))) .nil)) []) .nil))))
  (.cons (.asg (.nm 5) (.sub (.con (.str "ow")) (.call ix__law_drawn (.cons (.var 0) (.cons (.bin .add (.var 1) (.con (.int 2))) (.cons (.con (.int 2)) .nil))) [])))
  (.cons (.asg (.tup [6, 7]) (.tup (.cons (.sub (.lst (.cons (.con (.int 3)) (.cons (.con (.int 10)) (.cons (.con (.int 40)) (.cons (.con (.int 9999)) .nil))))) (.call ix__law_drawn (.cons (.var 0) (.cons (.bin .add (.var 1) (.con (.int 3))) (.cons (.con (.int 4)) .nil))) [])) (.cons (.sub (.lst (.cons (.con (.int 5)) (.cons (.con (.int 60)) (.cons (.con (.int 999999)) .nil)))) (.call ix__law_drawn (.cons (.var 0) (.cons (.bin .add (.var 1) (.con (.int 4))) (.cons (.con (.int 3)) .nil))) [])) .nil))))
  (.cons (.asg (.tup [8, 9]) (.sub (.lst (.cons (.tup (.cons (.con (.int 0)) (.cons (.con (.int 364)) .nil))) (.cons (.tup (.cons (.con (.int 5)) (.cons (.con (.int 20)) .nil))) (.cons (.tup (.cons (.con (.int 300)) (.cons (.con (.int 12)) .nil))) .nil)))) (.call ix__law_drawn (.cons (.var 0) (.cons (.bin .add (.var 1) (.con (.int 5))) (.cons (.con (.int 3)) .nil))) [])))
  (.cons (.asg (.nm 10) (.sub (.lst (.cons (.tup (.cons (.con (.int 0)) (.cons (.con (.str "-")) (.cons (.con (.int 0)) .nil)))) (.cons (.tup (.cons (.con (.int 500)) (.cons (.con (.str "c")) (.cons (.con (.int 2)) .nil)))) (.cons (.tup (.cons (.con (.int 300)) (.cons (.con (.str "b")) (.cons (.con (.int 0)) .nil)))) .nil)))) (.call ix__law_drawn (.cons (.var 0) (.cons (.bin .add (.var 1) (.con (.int 6))) (.cons (.con (.int 3)) .nil))) [])))
  (.cons (.ret (.bin .add (.tup (.cons (.con (.str "right")) (.cons (.var 2) (.cons (.var 3) (.cons (.var 4) (.cons (.var 5) (.cons (.bin .add (.con (.int 1)) (.call ix__law_drawn (.cons (.var 0) (.cons (.bin .add (.var 1) (.con (.int 7))) (.cons (.con (.int 5)) .nil))) [])) (.cons (.var 6) (.cons (.var 7) (.cons (.var 8) (.cons (.var 9) .nil))))))))))) (.var 10)))
  .nil))))))
def df__law_right : MP.Df := ⟨11, 3, [], sl__law_right⟩
def N10 : List Str := ["script", "at", "travel", "loss", "found", "k"]
def ps10 : List Str := ["script", "at"]
def sl__law_base : MP.Sl := (.cons (.asg (.nm 2) (.lc (.bin .add (.con (.int 1)) (.call ix__law_drawn (.cons (.var 0) (.cons (.bin .add (.var 1) (.var 5)) (.cons (.con (.int 3)) .nil))) [])) (.nm 5) (.rng (.con (.int 0)) (.con (.int 4))) (.con (.bl true))))
  (.cons (.asg (.nm 3) (.lc (.sub (.lst (.cons (.con (.int 0)) (.cons (.con (.int 0)) (.cons (.con (.int 2)) (.cons (.con (.int 5)) .nil))))) (.call ix__law_drawn (.cons (.var 0) (.cons (.bin .add (.bin .add (.var 1) (.con (.int 4))) (.var 5)) (.cons (.con (.int 4)) .nil))) [])) (.nm 5) (.rng (.con (.int 0)) (.con (.int 4))) (.con (.bl true))))
  (.cons (.asg (.nm 4) (.lst (.cons (.tup (.cons (.con (.str "place")) (.cons (.con (.int 0)) (.cons (.con (.str "a")) (.cons (.con (.str "b")) (.cons (.sub (.var 2) (.con (.int 0))) (.cons (.sub (.var 3) (.con (.int 0))) .nil))))))) .nil)))
  (.cons (.asg (.nm 4) (.bin .add (.var 4) (.lst (.cons (.tup (.cons (.con (.str "place")) (.cons (.con (.int 0)) (.cons (.con (.str "b")) (.cons (.con (.str "c")) (.cons (.sub (.var 2) (.con (.int 1))) (.cons (.sub (.var 3) (.con (.int 1))) .nil))))))) .nil))))
  (.cons (.asg (.nm 4) (.bin .add (.var 4) (.lst (.cons (.tup (.cons (.con (.str "place")) (.cons (.con (.int 0)) (.cons (.con (.str "c")) (.cons (.con (.str "-")) (.cons (.sub (.var 2) (.con (.int 2))) (.cons (.sub (.var 3) (.con (.int 2))) .nil))))))) .nil))))
  (.cons (.asg (.nm 4) (.bin .add (.var 4) (.lst (.cons (.tup (.cons (.con (.str "place")) (.cons (.con (.int 0)) (.cons (.con (.str "d")) (.cons (.con (.str "c")) (.cons (.sub (.var 2) (.con (.int 3))) (.cons (.sub (.var 3) (.con (.int 3))) .nil))))))) .nil))))
  (.cons (.asg (.nm 4) (.bin .add (.var 4) (.lst (.cons (.tup (.cons (.con (.str "dam")) (.cons (.con (.int 0)) (.cons (.con (.str "b")) (.cons (.con (.int 100)) (.cons (.sub (.lst (.cons (.con (.int 0)) (.cons (.con (.int 20)) (.cons (.con (.int 100)) .nil)))) (.call ix__law_drawn (.cons (.var 0) (.cons (.bin .add (.var 1) (.con (.int 8))) (.cons (.con (.int 3)) .nil))) [])) .nil)))))) .nil))))
  (.cons (.asg (.nm 4) (.bin .add (.var 4) (.lst (.cons (.tup (.cons (.con (.str "share")) (.cons (.con (.int 0)) (.cons (.con (.str "b")) (.cons (.con (.str "o")) (.cons (.con (.int 60)) .nil)))))) .nil))))
  (.cons (.asg (.nm 4) (.bin .add (.var 4) (.lst (.cons (.tup (.cons (.con (.str "share")) (.cons (.con (.int 0)) (.cons (.con (.str "b")) (.cons (.con (.str "w")) (.cons (.sub (.lst (.cons (.con (.int 10)) (.cons (.con (.int 50)) .nil))) (.call ix__law_drawn (.cons (.var 0) (.cons (.bin .add (.var 1) (.con (.int 9))) (.cons (.con (.int 2)) .nil))) [])) .nil)))))) .nil))))
  (.cons (.ret (.bin .add (.var 4) (.lc (.call ix__law_right (.cons (.var 0) (.cons (.bin .add (.bin .add (.var 1) (.con (.int 10))) (.bin .mul (.con (.int 10)) (.var 5))) (.cons (.con (.int 0)) .nil))) []) (.nm 5) (.rng (.con (.int 0)) (.con (.int 3))) (.con (.bl true)))))
  .nil))))))))))
def df__law_base : MP.Df := ⟨6, 2, [], sl__law_base⟩
def N11 : List Str := ["script", "at", "day", "way", "amount", "right", "owner", "who", "until"]
def ps11 : List Str := ["script", "at"]
def sl__law_truth : MP.Sl := (.cons (.asg (.tup [2, 3]) (.tup (.cons (.call ix__law_day (.cons (.var 0) (.cons (.var 1) .nil)) []) (.cons (.call ix__law_drawn (.cons (.var 0) (.cons (.bin .add (.var 1) (.con (.int 1))) (.cons (.con (.int 16)) .nil))) []) .nil))))
  (.cons (.asg (.tup [4, 5]) (.tup (.cons (.sub (.lst (.cons (.con (.int 0)) (.cons (.con (.int 4)) (.cons (.con (.int 12)) (.cons (.con (.int 50)) .nil))))) (.call ix__law_drawn (.cons (.var 0) (.cons (.bin .add (.var 1) (.con (.int 2))) (.cons (.con (.int 4)) .nil))) [])) (.cons (.sub (.con (.str "rstv")) (.call ix__law_drawn (.cons (.var 0) (.cons (.bin .add (.var 1) (.con (.int 3))) (.cons (.con (.int 4)) .nil))) [])) .nil))))
  (.cons (.asg (.nm 6) (.sub (.con (.str "ow")) (.call ix__law_drawn (.cons (.var 0) (.cons (.bin .add (.var 1) (.con (.int 4))) (.cons (.con (.int 2)) .nil))) [])))
  (.cons (.ifs (.cmp .lt (.var 3) (.con (.int 6))) (.cons (.ret (.tup (.cons (.con (.str "read")) (.cons (.var 2) (.cons (.call ix__law_place (.cons (.var 0) (.cons (.bin .add (.var 1) (.con (.int 5))) .nil)) []) (.cons (.var 4) .nil))))))
  .nil) .nil)
  (.cons (.ifs (.cmp .lt (.var 3) (.con (.int 10))) (.cons (.ret (.tup (.cons (.con (.str "ask")) (.cons (.var 2) (.cons (.var 5) (.cons (.var 4) .nil))))))
  .nil) .nil)
  (.cons (.ifs (.cmp .eq (.var 3) (.con (.int 10))) (.cons (.ret (.tup (.cons (.con (.str "store")) (.cons (.var 2) (.cons (.var 5) .nil)))))
  .nil) .nil)
  (.cons (.ifs (.cmp .eq (.var 3) (.con (.int 11))) (.cons (.ret (.tup (.cons (.con (.str "release")) (.cons (.var 2) (.cons (.con (.str "b")) (.cons (.var 6) (.cons (.var 5) (.cons (.var 4) .nil))))))))
  .nil) .nil)
  (.cons (.ifs (.cmp .eq (.var 3) (.con (.int 12))) (.cons (.ret (.tup (.cons (.con (.str "sold")) (.cons (.var 2) (.cons (.var 5) (.cons (.var 6) .nil))))))
  .nil) .nil)
  (.cons (.ifs (.cmp .eq (.var 3) (.con (.int 13))) (.cons (.asg (.tup [7, 8]) (.tup (.cons (.sub (.con (.str "xy")) (.call ix__law_drawn (.cons (.var 0) (.cons (.bin .add (.var 1) (.con (.int 5))) (.cons (.con (.int 2)) .nil))) [])) (.cons (.bin .add (.var 2) (.call ix__law_drawn (.cons (.var 0) (.cons (.bin .add (.var 1) (.con (.int 6))) (.cons (.con (.int 12)) .nil))) [])) .nil))))
  (.cons (.ret (.tup (.cons (.con (.str "leased")) (.cons (.var 2) (.cons (.var 5) (.cons (.var 7) (.cons (.var 8) .nil)))))))
  .nil)) .nil)
  (.cons (.ifs (.cmp .eq (.var 3) (.con (.int 14))) (.cons (.ret (.tup (.cons (.con (.str "moved")) (.cons (.var 2) (.cons (.var 5) (.cons (.call ix__law_place (.cons (.var 0) (.cons (.bin .add (.var 1) (.con (.int 5))) .nil)) []) .nil))))))
  .nil) .nil)
  (.cons (.ret (.tup (.cons (.con (.str "share")) (.cons (.var 2) (.cons (.con (.str "b")) (.cons (.var 6) (.cons (.sub (.lst (.cons (.con (.int 0)) (.cons (.con (.int 20)) (.cons (.con (.int 80)) .nil)))) (.call ix__law_drawn (.cons (.var 0) (.cons (.bin .add (.var 1) (.con (.int 5))) (.cons (.con (.int 3)) .nil))) [])) .nil)))))))
  .nil)))))))))))
def df__law_truth : MP.Df := ⟨9, 2, [], sl__law_truth⟩
def N12 : List Str := ["script", "at", "many", "found", "k", "here", "truth"]
def ps12 : List Str := ["script", "at", "many"]
def sl__law_truths : MP.Sl := (.cons (.asg (.nm 3) (.lst .nil))
  (.cons (.for_ (.nm 4) (.rng (.con (.int 0)) (.var 2)) (.cons (.asg (.nm 5) (.bin .add (.var 1) (.bin .mul (.con (.int 9)) (.var 4))))
  (.cons (.ifs (.and (.cmp .eq (.call ix__law_drawn (.cons (.var 0) (.cons (.bin .add (.var 5) (.con (.int 8))) (.cons (.con (.int 8)) .nil))) []) (.con (.int 0))) (.cmp .ne (.var 3) (.lst .nil))) (.cons (.asg (.nm 6) (.sub (.var 3) (.call ix__law_drawn (.cons (.var 0) (.cons (.var 5) (.cons (.bi .len (.cons (.var 3) .nil)) .nil))) [])))
  (.cons (.ex (.bm .append (.var 3) (.cons (.ife (.cmp .lt (.bm .scount (.bi .str (.cons (.var 6) .nil)) (.cons (.con (.str "void")) .nil)) (.con (.int 3))) (.tup (.cons (.con (.str "void")) (.cons (.var 6) .nil))) (.var 6)) .nil)))
  .nil)) (.cons (.ex (.bm .append (.var 3) (.cons (.call ix__law_truth (.cons (.var 0) (.cons (.var 5) .nil)) []) .nil)))
  .nil))
  .nil)))
  (.cons (.ret (.var 3))
  .nil)))
def df__law_truths : MP.Df := ⟨7, 3, [], sl__law_truths⟩
def N13 : List Str := ["script", "at", "many"]
def ps13 : List Str := ["script", "at", "many"]
def sl__law_all_truths : MP.Sl := (.cons (.ret (.bin .add (.call ix__law_base (.cons (.var 0) (.cons (.var 1) .nil)) []) (.call ix__law_truths (.cons (.var 0) (.cons (.bin .add (.var 1) (.con (.int 60))) (.cons (.var 2) .nil))) [])))
  .nil)
def df__law_all_truths : MP.Df := ⟨3, 3, [], sl__law_all_truths⟩
def N14 : List Str := ["script", "truths", "truth", "deep", "k", "plain", "good", "at", "thing", "right", "bad"]
def ps14 : List Str := ["script"]
def sl_law : MP.Sl := (.cons (.asg (.nm 1) (.call ix__law_all_truths (.cons (.var 0) (.cons (.con (.int 10)) (.cons (.con (.int 5)) .nil))) []))
  (.cons (.for_ (.nm 2) (.val (.var 1)) (.cons (.asg (.nm 3) (.bm .scount (.bi .str (.cons (.var 2) .nil)) (.cons (.con (.str "void")) .nil)))
  (.cons (.for_ (.nm 4) (.rng (.con (.int 0)) (.con (.int 5))) (.cons (.ifs (.cmp .ne (.call ix_is_truth (.cons (.var 2) .nil) []) (.cmp .le (.var 3) (.con (.int 3)))) (.cons (.ret (.con (.bl false)))
  .nil) .nil)
  (.cons (.asg (.tup [2, 3]) (.tup (.cons (.tup (.cons (.con (.str "void")) (.cons (.var 2) .nil))) (.cons (.bin .add (.var 3) (.con (.int 1))) .nil))))
  .nil)))
  .nil)))
  (.cons (.asg (.nm 5) (.lc (.var 2) (.nm 2) (.val (.var 1)) (.cmp .ne (.sub (.var 2) (.con (.int 0))) (.con (.str "void")))))
  (.cons (.asg (.nm 6) (.sub (.var 5) (.call ix__law_drawn (.cons (.var 0) (.cons (.con (.int 1)) (.cons (.bi .len (.cons (.var 5) .nil)) .nil))) [])))
  (.cons (.for_ (.nm 7) (.rng (.con (.int 0)) (.bi .len (.cons (.var 6) .nil))) (.cons (.for_ (.nm 8) (.val (.tup (.cons (.con .non) (.cons (.con (.bl true)) (.cons (.con (.str "")) (.cons (.con (.str "A")) (.cons (.con (.str "abcdefghi")) (.cons (.neg (.con (.int 1))) (.cons (.con (.int 1000000)) (.cons (.tup .nil) (.cons (.lst (.cons (.con (.str "a")) .nil)) (.cons (.con (.str "a.b")) .nil)))))))))))) (.cons (.ifs (.cmp .isn (.call ix_is_truth (.cons (.bin .add (.bin .add (.slc (.var 6) .no (.var 7)) (.tup (.cons (.var 8) .nil))) (.slc (.var 6) (.bin .add (.var 7) (.con (.int 1))) .no)) .nil) []) (.con (.bl false))) (.cons (.ret (.con (.bl false)))
  .nil) .nil)
  .nil))
  .nil))
  (.cons (.ifs (.or (.cmp .isn (.call ix_is_truth (.cons (.slc (.var 6) .no (.neg (.con (.int 1)))) .nil) []) (.con (.bl false))) (.cmp .isn (.call ix_is_truth (.cons (.bin .add (.var 6) (.tup (.cons (.con (.int 0)) .nil))) .nil) []) (.con (.bl false)))) (.cons (.ret (.con (.bl false)))
  .nil) .nil)
  (.cons (.ifs (.cmp .isn (.call ix_is_truth (.cons (.bi .list (.cons (.var 6) .nil)) .nil) []) (.con (.bl false))) (.cons (.ret (.con (.bl false)))
  .nil) .nil)
  (.cons (.ifs (.cmp .isn (.call ix_is_truth (.cons (.bin .add (.bin .add (.slc (.var 6) .no (.con (.int 1))) (.tup (.cons (.con (.int 10000)) .nil))) (.slc (.var 6) (.con (.int 2)) .no)) .nil) []) (.con (.bl false))) (.cons (.ret (.con (.bl false)))
  .nil) .nil)
  (.cons (.asg (.nm 9) (.tup (.cons (.con (.str "right")) (.cons (.con (.int 0)) (.cons (.con (.str "r")) (.cons (.con (.str "a")) (.cons (.con (.str "o")) (.cons (.con (.int 1)) (.cons (.con (.int 0)) (.cons (.con (.int 0)) (.cons (.con (.int 0)) (.cons (.con (.int 364)) (.cons (.con (.int 0)) (.cons (.con (.str "-")) (.cons (.con (.int 0)) .nil)))))))))))))))
  (.cons (.asg (.nm 10) (.lst (.cons (.tup (.cons (.con (.str "place")) (.cons (.con (.int 0)) (.cons (.con (.str "a")) (.cons (.con (.str "b")) (.cons (.con (.int 0)) (.cons (.con (.int 0)) .nil))))))) (.cons (.tup (.cons (.con (.str "place")) (.cons (.con (.int 0)) (.cons (.con (.str "a")) (.cons (.con (.str "b")) (.cons (.con (.int 10)) (.cons (.con (.int 0)) .nil))))))) .nil))))
  (.cons (.asg (.nm 10) (.bin .add (.var 10) (.lst (.cons (.tup (.cons (.con (.str "place")) (.cons (.con (.int 0)) (.cons (.con (.str "-")) (.cons (.con (.str "b")) (.cons (.con (.int 1)) (.cons (.con (.int 0)) .nil))))))) (.cons (.tup (.cons (.con (.str "read")) (.cons (.con (.int 0)) (.cons (.con (.str "a")) (.cons (.con (.int 10000)) .nil))))) (.cons (.tup (.cons (.con (.str "dam")) (.cons (.con (.int 0)) (.cons (.con (.str "a")) (.cons (.con (.int 1)) (.cons (.con (.int 1001)) .nil)))))) .nil))))))
  (.cons (.asg (.nm 10) (.bin .add (.var 10) (.lst (.cons (.tup (.cons (.con (.str "leased")) (.cons (.con (.int 0)) (.cons (.con (.str "r")) (.cons (.con (.str "o")) (.cons (.con (.int 10000)) .nil)))))) .nil))))
  (.cons (.asg (.nm 10) (.bin .add (.var 10) (.lst (.cons (.bin .add (.bin .add (.slc (.var 9) .no (.con (.int 5))) (.tup (.cons (.con (.int 0)) .nil))) (.slc (.var 9) (.con (.int 6)) .no)) (.cons (.bin .add (.bin .add (.slc (.var 9) .no (.con (.int 5))) (.tup (.cons (.con (.int 100)) .nil))) (.slc (.var 9) (.con (.int 6)) .no)) .nil)))))
  (.cons (.asg (.nm 10) (.bin .add (.var 10) (.lst (.cons (.bin .add (.bin .add (.slc (.var 9) .no (.con (.int 9))) (.tup (.cons (.con (.int 365)) .nil))) (.slc (.var 9) (.con (.int 10)) .no)) (.cons (.bin .add (.bin .add (.slc (.var 9) .no (.con (.int 10))) (.tup (.cons (.con (.int 1001)) .nil))) (.slc (.var 9) (.con (.int 11)) .no)) .nil)))))
  (.cons (.asg (.nm 10) (.bin .add (.var 10) (.lst (.cons (.bin .add (.slc (.var 9) .no (.con (.int 12))) (.tup (.cons (.con (.int 31)) .nil))) .nil))))
  (.cons (.asg (.nm 10) (.bin .add (.var 10) (.lst (.cons (.con .non) (.cons (.tup .nil) (.cons (.con (.int 7)) (.cons (.con (.str "read")) (.cons (.tup (.cons (.con (.str "read")) .nil)) (.cons (.tup (.cons (.con (.str "Read")) (.cons (.con (.int 0)) (.cons (.con (.str "a")) (.cons (.con (.int 1)) .nil))))) (.cons (.tup (.cons (.con (.str "void")) .nil)) (.cons (.tup (.cons (.con (.str "void")) (.cons (.con .non) .nil))) .nil)))))))))))
  (.cons (.asg (.nm 10) (.bin .add (.var 10) (.lst (.cons (.tup (.cons (.con (.str "void")) (.cons (.tup (.cons (.con (.str "read")) (.cons (.con (.int 0)) (.cons (.con (.str "a")) .nil)))) .nil))) (.cons (.tup (.cons (.con (.str "place")) (.cons (.con (.int 0)) (.cons (.con (.str "a")) (.cons (.con (.str "")) (.cons (.con (.int 1)) (.cons (.con (.int 0)) .nil))))))) .nil)))))
  (.cons (.ifs (.cmp .ne (.lc (.var 8) (.nm 8) (.val (.var 10)) (.cmp .isn (.call ix_is_truth (.cons (.var 8) .nil) []) (.con (.bl false)))) (.lst .nil)) (.cons (.ret (.con (.bl false)))
  .nil) .nil)
  (.cons (.ret (.and (.cmp .is_ (.call ix_is_truth (.cons (.var 9) .nil) []) (.con (.bl true))) (.cmp .is_ (.call ix_is_truth (.cons (.tup (.cons (.con (.str "place")) (.cons (.con (.int 9999)) (.cons (.con (.str "a")) (.cons (.con (.str "-")) (.cons (.con (.int 9)) (.cons (.con (.int 9999)) .nil))))))) .nil) []) (.con (.bl true)))))
  .nil)))))))))))))))))))
def df_law : MP.Df := ⟨11, 1, [], sl_law⟩
def dfs : List MP.Df := [df_is_whole, df_is_day, df_is_name, df_is_part, df_is_plain, df_is_truth, df__law_drawn, df__law_day, df__law_place, df__law_right, df__law_base, df__law_truth, df__law_truths, df__law_all_truths, df_law]
def cls : List MP.Cl := []
def cons : List (Str × Wv) := [("SMALL", (.str "abcdefghijklmnopqrstuvwxyz")), ("LAST_DAY", (.int 9999)), ("YEAR", (.int 365)), ("MOST_WATER", (.int 9999)), ("MOST_MUCH", (.int 999999)), ("WHOLE", (.int 1000)), ("NOWHERE", (.str "-")), ("DAY", (.str "day")), ("NAME", (.str "name")), ("BELOW", (.str "below")), ("TRAVEL", (.str "travel")), ("WATER", (.str "water")), ("MUCH", (.str "much")), ("RANK", (.str "rank")), ("SEASON", (.str "season")), ("PART", (.str "part")), ("DELAY", (.str "delay")), ("VOID", (.str "void")), ("MOST_DEEP", (.int 3))]
def Gp (S : List Int) : Pg := ⟨S, fun x => cons.lookup x, fun i => cls[i]?, fun i => dfs[i]?⟩
structure En (P : Program) (w : World) (K : PySem.W.Frag) (mg : Str → Option Value) (base : Heap) (A : Around) (Z : Zt) (G : Pg) (C C1 : Nat → List Wv → Mem → Out Wv) : Prop where
  fr : Frs mg
  c0_0 : CalG P w K mg base A Z (C ix_is_whole) "is_whole" []
  g_LAST_DAY : ConOk mg Z G "LAST_DAY"
  g_SMALL : ConOk mg Z G "SMALL"
  d_RANGES : TabOk w K mg "RANGES" tab_RANGES
  g_BELOW : ConOk mg Z G "BELOW"
  c2_0 : CalG P w K mg base A Z (C ix_is_name) "is_name" []
  g_NOWHERE : ConOk mg Z G "NOWHERE"
  g_NAME : ConOk mg Z G "NAME"
  g_DAY : ConOk mg Z G "DAY"
  c1_0 : CalG P w K mg base A Z (C ix_is_day) "is_day" []
  c3_0 : CalG P w K mg base A Z (C ix_is_part) "is_part" []
  d_PARTS : TabOk w K mg "PARTS" tab_PARTS
  c4_0 : CalG P w K mg base A Z (C ix_is_plain) "is_plain" []
  g_MOST_DEEP : ConOk mg Z G "MOST_DEEP"
  g_VOID : ConOk mg Z G "VOID"
  c6_0 : CalG P w K mg base A Z (C ix__law_drawn) "_law_drawn" []
  c8_0 : CalG P w K mg base A Z (C ix__law_place) "_law_place" []
  c9_0 : CalG P w K mg base A Z (C ix__law_right) "_law_right" []
  c7_0 : CalG P w K mg base A Z (C ix__law_day) "_law_day" []
  c11_0 : CalG P w K mg base A Z (C ix__law_truth) "_law_truth" []
  c10_0 : CalG P w K mg base A Z (C ix__law_base) "_law_base" []
  c12_0 : CalG P w K mg base A Z (C ix__law_truths) "_law_truths" []
  c5_0 : CalG P w K mg base A Z (C ix_is_truth) "is_truth" []
  c13_0 : CalG P w K mg base A Z (C ix__law_all_truths) "_law_all_truths" []
def fuel : Nat := 1000000000
theorem at_is_whole (S : List Int) (k : Nat) (ws : List Wv) (M : Mem) : callN (Gp S) fuel (k + 1) ix_is_whole ws M = runD (Gp S) (callN (Gp S) fuel k) (callN (Gp S) fuel (k - 1)) fuel df_is_whole ws M := callN_succ (Gp S) fuel k ix_is_whole ws M
theorem at_is_day (S : List Int) (k : Nat) (ws : List Wv) (M : Mem) : callN (Gp S) fuel (k + 1) ix_is_day ws M = runD (Gp S) (callN (Gp S) fuel k) (callN (Gp S) fuel (k - 1)) fuel df_is_day ws M := callN_succ (Gp S) fuel k ix_is_day ws M
theorem at_is_name (S : List Int) (k : Nat) (ws : List Wv) (M : Mem) : callN (Gp S) fuel (k + 1) ix_is_name ws M = runD (Gp S) (callN (Gp S) fuel k) (callN (Gp S) fuel (k - 1)) fuel df_is_name ws M := callN_succ (Gp S) fuel k ix_is_name ws M
theorem at_is_part (S : List Int) (k : Nat) (ws : List Wv) (M : Mem) : callN (Gp S) fuel (k + 1) ix_is_part ws M = runD (Gp S) (callN (Gp S) fuel k) (callN (Gp S) fuel (k - 1)) fuel df_is_part ws M := callN_succ (Gp S) fuel k ix_is_part ws M
theorem at_is_plain (S : List Int) (k : Nat) (ws : List Wv) (M : Mem) : callN (Gp S) fuel (k + 1) ix_is_plain ws M = runD (Gp S) (callN (Gp S) fuel k) (callN (Gp S) fuel (k - 1)) fuel df_is_plain ws M := callN_succ (Gp S) fuel k ix_is_plain ws M
theorem at_is_truth (S : List Int) (k : Nat) (ws : List Wv) (M : Mem) : callN (Gp S) fuel (k + 1) ix_is_truth ws M = runD (Gp S) (callN (Gp S) fuel k) (callN (Gp S) fuel (k - 1)) fuel df_is_truth ws M := callN_succ (Gp S) fuel k ix_is_truth ws M
theorem at__law_drawn (S : List Int) (k : Nat) (ws : List Wv) (M : Mem) : callN (Gp S) fuel (k + 1) ix__law_drawn ws M = runD (Gp S) (callN (Gp S) fuel k) (callN (Gp S) fuel (k - 1)) fuel df__law_drawn ws M := callN_succ (Gp S) fuel k ix__law_drawn ws M
theorem at__law_day (S : List Int) (k : Nat) (ws : List Wv) (M : Mem) : callN (Gp S) fuel (k + 1) ix__law_day ws M = runD (Gp S) (callN (Gp S) fuel k) (callN (Gp S) fuel (k - 1)) fuel df__law_day ws M := callN_succ (Gp S) fuel k ix__law_day ws M
theorem at__law_place (S : List Int) (k : Nat) (ws : List Wv) (M : Mem) : callN (Gp S) fuel (k + 1) ix__law_place ws M = runD (Gp S) (callN (Gp S) fuel k) (callN (Gp S) fuel (k - 1)) fuel df__law_place ws M := callN_succ (Gp S) fuel k ix__law_place ws M
theorem at__law_right (S : List Int) (k : Nat) (ws : List Wv) (M : Mem) : callN (Gp S) fuel (k + 1) ix__law_right ws M = runD (Gp S) (callN (Gp S) fuel k) (callN (Gp S) fuel (k - 1)) fuel df__law_right ws M := callN_succ (Gp S) fuel k ix__law_right ws M
theorem at__law_base (S : List Int) (k : Nat) (ws : List Wv) (M : Mem) : callN (Gp S) fuel (k + 1) ix__law_base ws M = runD (Gp S) (callN (Gp S) fuel k) (callN (Gp S) fuel (k - 1)) fuel df__law_base ws M := callN_succ (Gp S) fuel k ix__law_base ws M
theorem at__law_truth (S : List Int) (k : Nat) (ws : List Wv) (M : Mem) : callN (Gp S) fuel (k + 1) ix__law_truth ws M = runD (Gp S) (callN (Gp S) fuel k) (callN (Gp S) fuel (k - 1)) fuel df__law_truth ws M := callN_succ (Gp S) fuel k ix__law_truth ws M
theorem at__law_truths (S : List Int) (k : Nat) (ws : List Wv) (M : Mem) : callN (Gp S) fuel (k + 1) ix__law_truths ws M = runD (Gp S) (callN (Gp S) fuel k) (callN (Gp S) fuel (k - 1)) fuel df__law_truths ws M := callN_succ (Gp S) fuel k ix__law_truths ws M
theorem at__law_all_truths (S : List Int) (k : Nat) (ws : List Wv) (M : Mem) : callN (Gp S) fuel (k + 1) ix__law_all_truths ws M = runD (Gp S) (callN (Gp S) fuel k) (callN (Gp S) fuel (k - 1)) fuel df__law_all_truths ws M := callN_succ (Gp S) fuel k ix__law_all_truths ws M
theorem at_law (S : List Int) (k : Nat) (ws : List Wv) (M : Mem) : callN (Gp S) fuel (k + 1) ix_law ws M = runD (Gp S) (callN (Gp S) fuel k) (callN (Gp S) fuel (k - 1)) fuel df_law ws M := callN_succ (Gp S) fuel k ix_law ws M
theorem con_SMALL (S : List Int) : (Gp S).con "SMALL" = some (.str "abcdefghijklmnopqrstuvwxyz") := by kernel_rfl
theorem con_LAST_DAY (S : List Int) : (Gp S).con "LAST_DAY" = some (.int 9999) := by kernel_rfl
theorem con_YEAR (S : List Int) : (Gp S).con "YEAR" = some (.int 365) := by kernel_rfl
theorem con_MOST_WATER (S : List Int) : (Gp S).con "MOST_WATER" = some (.int 9999) := by kernel_rfl
theorem con_MOST_MUCH (S : List Int) : (Gp S).con "MOST_MUCH" = some (.int 999999) := by kernel_rfl
theorem con_WHOLE (S : List Int) : (Gp S).con "WHOLE" = some (.int 1000) := by kernel_rfl
theorem con_NOWHERE (S : List Int) : (Gp S).con "NOWHERE" = some (.str "-") := by kernel_rfl
theorem con_DAY (S : List Int) : (Gp S).con "DAY" = some (.str "day") := by kernel_rfl
theorem con_NAME (S : List Int) : (Gp S).con "NAME" = some (.str "name") := by kernel_rfl
theorem con_BELOW (S : List Int) : (Gp S).con "BELOW" = some (.str "below") := by kernel_rfl
theorem con_TRAVEL (S : List Int) : (Gp S).con "TRAVEL" = some (.str "travel") := by kernel_rfl
theorem con_WATER (S : List Int) : (Gp S).con "WATER" = some (.str "water") := by kernel_rfl
theorem con_MUCH (S : List Int) : (Gp S).con "MUCH" = some (.str "much") := by kernel_rfl
theorem con_RANK (S : List Int) : (Gp S).con "RANK" = some (.str "rank") := by kernel_rfl
theorem con_SEASON (S : List Int) : (Gp S).con "SEASON" = some (.str "season") := by kernel_rfl
theorem con_PART (S : List Int) : (Gp S).con "PART" = some (.str "part") := by kernel_rfl
theorem con_DELAY (S : List Int) : (Gp S).con "DELAY" = some (.str "delay") := by kernel_rfl
theorem con_VOID (S : List Int) : (Gp S).con "VOID" = some (.str "void") := by kernel_rfl
theorem con_MOST_DEEP (S : List Int) : (Gp S).con "MOST_DEEP" = some (.int 3) := by kernel_rfl
section
variable {P : Program} {w : World} {K : PySem.W.Frag} {mg : Str → Option Value} {base : Heap} {Z : Zt} {Wx : Wish} {G : Pg} {C C1 : Nat → List Wv → Mem → Out Wv} {fu : Nat} {f : Addr} {cdv : Value} {A : Around} {outer : List Env} {s : Shared} {H : Hp} {E : XK}
abbrev X0 (P : Program) (w : World) (K : PySem.W.Frag) (mg : Str → Option Value) (base : Heap) (f : Addr) (cdv : Value) (A : Around) (outer : List Env) (s : Shared) (H : Hp) (E : XK) : Cx := cxOf (L2.CX P w) P w K mg base N0 "is_whole" (defScope (top 8)) f cdv A outer s H E
theorem b0 (k : Bx (X0 P w K mg base f cdv A outer s H E) Z Wx G) (po : PassesOwn (model P w) (X0 P w K mg base f cdv A outer s H E).A (X0 P w K mg base f cdv A outer s H E).env (X0 P w K mg base f cdv A outer s H E).xe) (en : En P w K mg base (X0 P w K mg base f cdv A outer s H E).A Z G C C1) : PSs (X0 P w K mg base f cdv A outer s H E) (defBody (top 8)) (TSl Z Wx G C C1 fu sl_is_whole) :=
  (ss_cons (s_ret (e_and k (e_isi k .int en.fr.isinstance en.fr.int (e_var 0)) (e_and k (e_not k (e_isi k .bool en.fr.isinstance en.fr.bool (e_var 0))) (e_one (e_cmp2 k .le .le (e_var 1) (e_var 0) (e_var 2))))))
  ss_nil)
abbrev X1 (P : Program) (w : World) (K : PySem.W.Frag) (mg : Str → Option Value) (base : Heap) (f : Addr) (cdv : Value) (A : Around) (outer : List Env) (s : Shared) (H : Hp) (E : XK) : Cx := cxOf (L2.CX P w) P w K mg base N1 "is_day" (defScope (top 9)) f cdv A outer s H E
theorem b1 (k : Bx (X1 P w K mg base f cdv A outer s H E) Z Wx G) (po : PassesOwn (model P w) (X1 P w K mg base f cdv A outer s H E).A (X1 P w K mg base f cdv A outer s H E).env (X1 P w K mg base f cdv A outer s H E).xe) (en : En P w K mg base (X1 P w K mg base f cdv A outer s H E).A Z G C C1) : PSs (X1 P w K mg base f cdv A outer s H E) (defBody (top 9)) (TSl Z Wx G C C1 fu sl_is_day) :=
  (ss_cons (s_ret (e_call k en.c0_0 (a_cons (e_var 0) (a_cons (e_int 0) (a_cons (e_con en.g_LAST_DAY) a_nil)))))
  ss_nil)
abbrev X2 (P : Program) (w : World) (K : PySem.W.Frag) (mg : Str → Option Value) (base : Heap) (f : Addr) (cdv : Value) (A : Around) (outer : List Env) (s : Shared) (H : Hp) (E : XK) : Cx := cxOf (L2.CX P w) P w K mg base N2 "is_name" (defScope (top 10)) f cdv A outer s H E
theorem b2 (k : Bx (X2 P w K mg base f cdv A outer s H E) Z Wx G) (po : PassesOwn (model P w) (X2 P w K mg base f cdv A outer s H E).A (X2 P w K mg base f cdv A outer s H E).env (X2 P w K mg base f cdv A outer s H E).xe) (en : En P w K mg base (X2 P w K mg base f cdv A outer s H E).A Z G C C1) : PSs (X2 P w K mg base f cdv A outer s H E) (defBody (top 10)) (TSl Z Wx G C C1 fu sl_is_name) :=
  (ss_cons (s_ret (e_and k (e_isi k .str en.fr.isinstance en.fr.str (e_var 0)) (e_and k (e_cmp2 k .le .le (e_int 1) (e_bi k .len en.fr.len (a_cons (e_var 0) a_nil)) (e_int 8)) (e_one (e_bi k .all en.fr.all (a_cons (e_lc k (i_val k (e_var 0)) (blk_ok (own := [("sign", 1)]) (by kernel_rfl)) rfl (fun s1 h1 q1 l1 f1 => (g_nm (k.blk s1 h1 _ _ f1).nd _ 1)) (fun s1 h1 q1 l1 f1 => ifs_none) (fun s1 h1 q1 l1 f1 => (e_cmp (k.blk s1 h1 _ _ f1) .in_ (e_var 1) (e_con en.g_SMALL)))) a_nil))))))
  ss_nil)
abbrev X3 (P : Program) (w : World) (K : PySem.W.Frag) (mg : Str → Option Value) (base : Heap) (f : Addr) (cdv : Value) (A : Around) (outer : List Env) (s : Shared) (H : Hp) (E : XK) : Cx := cxOf (L2.CX P w) P w K mg base N3 "is_part" (defScope (top 26)) f cdv A outer s H E
theorem b3 (k : Bx (X3 P w K mg base f cdv A outer s H E) Z Wx G) (po : PassesOwn (model P w) (X3 P w K mg base f cdv A outer s H E).A (X3 P w K mg base f cdv A outer s H E).env (X3 P w K mg base f cdv A outer s H E).xe) (en : En P w K mg base (X3 P w K mg base f cdv A outer s H E).A Z G C C1) : PSs (X3 P w K mg base f cdv A outer s H E) (defBody (top 26)) (TSl Z Wx G C C1 fu sl_is_part) :=
  (ss_cons (s_if (t_cmp k .eq (e_var 1) (e_con en.g_DAY)) (ss_cons (s_ret (e_call k en.c1_0 (a_cons (e_var 0) a_nil)))
  ss_nil) ss_nil)
  (ss_cons (s_if (t_cmp k .eq (e_var 1) (e_con en.g_NAME)) (ss_cons (s_ret (e_call k en.c2_0 (a_cons (e_var 0) a_nil)))
  ss_nil) ss_nil)
  (ss_cons (s_if (t_cmp k .eq (e_var 1) (e_con en.g_BELOW)) (ss_cons (s_ret (e_or k (e_call k en.c2_0 (a_cons (e_var 0) a_nil)) (e_one (e_and k (e_isi k .str en.fr.isinstance en.fr.str (e_var 0)) (e_one (e_cmp k .eq (e_var 0) (e_con en.g_NOWHERE)))))))
  ss_nil) ss_nil)
  (ss_cons (s_asg k (e_tab k en.d_RANGES (e_var 1)) (g_tup k.calm k.K (gs_cons k.nd 2 (gs_cons k.nd 3 gs_nil))))
  (ss_cons (s_ret (e_call k en.c0_0 (a_cons (e_var 0) (a_cons (e_var 2) (a_cons (e_var 3) a_nil)))))
  ss_nil)))))
abbrev X4 (P : Program) (w : World) (K : PySem.W.Frag) (mg : Str → Option Value) (base : Heap) (f : Addr) (cdv : Value) (A : Around) (outer : List Env) (s : Shared) (H : Hp) (E : XK) : Cx := cxOf (L2.CX P w) P w K mg base N4 "is_plain" (defScope (top 27)) f cdv A outer s H E
theorem b4 (k : Bx (X4 P w K mg base f cdv A outer s H E) Z Wx G) (po : PassesOwn (model P w) (X4 P w K mg base f cdv A outer s H E).A (X4 P w K mg base f cdv A outer s H E).env (X4 P w K mg base f cdv A outer s H E).xe) (en : En P w K mg base (X4 P w K mg base f cdv A outer s H E).A Z G C C1) : PSs (X4 P w K mg base f cdv A outer s H E) (defBody (top 27)) (TSl Z Wx G C C1 fu sl_is_plain) :=
  (ss_cons (s_if (t_w (t_or (t_not (t_val k (e_isi k .tuple en.fr.isinstance en.fr.tuple (e_var 0)))) (t_or (t_cmp k .eq (e_var 0) (e_tup a_nil)) (t_or (t_not (t_val k (e_isi k .str en.fr.isinstance en.fr.str (e_sub k (e_var 0) (e_int 0))))) (t_one (t_tnin k en.d_PARTS (e_sub k (e_var 0) (e_int 0)))))))) (ss_cons (s_ret (e_bl false))
  ss_nil) ss_nil)
  (ss_cons (s_asg k (e_tab k en.d_PARTS (e_sub k (e_var 0) (e_int 0))) (g_nm k.nd _ 1))
  (ss_cons (s_ret (e_and k (e_cmp k .eq (e_bi k .len en.fr.len (a_cons (e_var 0) a_nil)) (e_bin k .add (e_bi k .len en.fr.len (a_cons (e_var 1) a_nil)) (e_int 1))) (e_one (e_bi k .all en.fr.all (a_cons (e_lc k (i_zipT k en.fr.zip (e_slc k (e_var 0) (o_some (e_int 1)) o_no) (e_var 1)) (blk_ok (own := [("part", 2), ("kind", 3)]) (by kernel_rfl)) rfl (fun s1 h1 q1 l1 f1 => (g_tup (k.blk s1 h1 _ _ f1).calm (k.blk s1 h1 _ _ f1).K (gs_cons (k.blk s1 h1 _ _ f1).nd 2 (gs_cons (k.blk s1 h1 _ _ f1).nd 3 gs_nil)))) (fun s1 h1 q1 l1 f1 => ifs_none) (fun s1 h1 q1 l1 f1 => (e_call (k.blk s1 h1 _ _ f1) en.c3_0 (a_cons (e_var 2) (a_cons (e_var 3) a_nil))))) a_nil)))))
  ss_nil)))
abbrev X5 (P : Program) (w : World) (K : PySem.W.Frag) (mg : Str → Option Value) (base : Heap) (f : Addr) (cdv : Value) (A : Around) (outer : List Env) (s : Shared) (H : Hp) (E : XK) : Cx := cxOf (L2.CX P w) P w K mg base N5 "is_truth" (defScope (top 28)) f cdv A outer s H E
theorem b5 (k : Bx (X5 P w K mg base f cdv A outer s H E) Z Wx G) (po : PassesOwn (model P w) (X5 P w K mg base f cdv A outer s H E).A (X5 P w K mg base f cdv A outer s H E).env (X5 P w K mg base f cdv A outer s H E).xe) (en : En P w K mg base (X5 P w K mg base f cdv A outer s H E).A Z G C C1) : PSs (X5 P w K mg base f cdv A outer s H E) (defBody (top 28)) (TSl Z Wx G C C1 fu sl_is_truth) :=
  (ss_cons (s_for k po (i_rng1 k en.fr.range (e_con en.g_MOST_DEEP)) (g_nm k.nd _ 1) (ss_cons (s_if (t_w (t_or (t_not (t_val k.lk (e_isi k.lk .tuple en.fr.isinstance en.fr.tuple (e_var 0)))) (t_or (t_cmp k.lk .ne (e_bi k.lk .len en.fr.len (a_cons (e_var 0) a_nil)) (e_int 2)) (t_or (t_not (t_val k.lk (e_isi k.lk .str en.fr.isinstance en.fr.str (e_sub k.lk (e_var 0) (e_int 0))))) (t_one (t_cmp k.lk .ne (e_sub k.lk (e_var 0) (e_int 0)) (e_con en.g_VOID))))))) (ss_cons (s_ret (e_call k.lk en.c4_0 (a_cons (e_var 0) a_nil)))
  ss_nil) ss_nil)
  (ss_cons (s_asg k.lk (e_sub k.lk (e_var 0) (e_int 1)) (g_nm k.lk.nd _ 0))
  ss_nil)))
  (ss_cons (s_ret (e_call k en.c4_0 (a_cons (e_var 0) a_nil)))
  ss_nil))
abbrev X6 (P : Program) (w : World) (K : PySem.W.Frag) (mg : Str → Option Value) (base : Heap) (f : Addr) (cdv : Value) (A : Around) (outer : List Env) (s : Shared) (H : Hp) (E : XK) : Cx := cxOf (L2.CX P w) P w K mg base N6 "_law_drawn" (defScope (top 30)) f cdv A outer s H E
theorem b6 (k : Bx (X6 P w K mg base f cdv A outer s H E) Z Wx G) (po : PassesOwn (model P w) (X6 P w K mg base f cdv A outer s H E).A (X6 P w K mg base f cdv A outer s H E).env (X6 P w K mg base f cdv A outer s H E).xe) (en : En P w K mg base (X6 P w K mg base f cdv A outer s H E).A Z G C C1) : PSs (X6 P w K mg base f cdv A outer s H E) (defBody (top 30)) (TSl Z Wx G C C1 fu sl__law_drawn) :=
  (ss_cons (s_asg k (e_bin k .mul (e_int 7) (e_var 1)) (g_nm k.nd _ 3))
  (ss_cons (s_if (t_cmp k .ne (e_var 0) (e_lst a_nil)) (ss_cons (s_asg k (e_sub k (e_var 0) (e_bin k .mod (e_var 1) (e_bi k .len en.fr.len (a_cons (e_var 0) a_nil)))) (g_nm k.nd _ 3))
  (ss_cons (s_asg k (e_bin k .fdiv (e_var 1) (e_bi k .len en.fr.len (a_cons (e_var 0) a_nil))) (g_nm k.nd _ 4))
  (ss_cons (s_if (t_w (t_and (t_cmp k .ge (e_var 3) (e_bin k .pow (e_int 10) (e_int 18))) (t_one (t_cmp k .lt (e_var 4) (e_int 60))))) (ss_cons (s_asg k (e_bin k .fdiv (e_var 3) (e_bin k .pow (e_int 10) (e_int 18))) (g_nm k.nd _ 5))
  (ss_cons (s_whl po (t_w (t_and (t_cmp k .gt (e_var 5) (e_int 0)) (t_one (t_cmp k .gt (e_var 4) (e_int 0))))) (ss_cons (s_asg k (e_bin k .fdiv (e_var 5) (e_int 1000000)) (g_nm k.nd _ 5))
  (ss_cons (s_asg k (e_bin k .sub (e_var 4) (e_int 1)) (g_nm k.nd _ 4))
  ss_nil)))
  (ss_cons (s_if (t_cmp k .gt (e_var 5) (e_int 0)) (ss_cons (s_ret (e_bin k .mod (e_bin k .mod (e_var 5) (e_int 1000000)) (e_var 2)))
  ss_nil) ss_nil)
  ss_nil))) ss_nil)
  (ss_cons (s_asg k (e_bin k .add (e_var 3) (e_bin k .mul (e_int 6553) (e_bin k .fdiv (e_var 1) (e_bi k .len en.fr.len (a_cons (e_var 0) a_nil))))) (g_nm k.nd _ 3))
  ss_nil)))) ss_nil)
  (ss_cons (s_asg k (e_bin k .mod (e_bin k .add (e_bin k .mul (e_bin k .mod (e_var 3) (e_int 2147483563)) (e_int 69069)) (e_bin k .mul (e_int 104723) (e_bin k .add (e_var 1) (e_int 1)))) (e_int 2147483563)) (g_nm k.nd _ 3))
  (ss_cons (s_asg k (e_bin k .mod (e_bin k .add (e_bin k .mul (e_var 3) (e_var 3)) (e_bin k .fdiv (e_var 3) (e_int 3))) (e_int 2147483399)) (g_nm k.nd _ 3))
  (ss_cons (s_ret (e_bin k .mod (e_bin k .fdiv (e_bin k .mod (e_bin k .add (e_bin k .mul (e_var 3) (e_var 3)) (e_bin k .fdiv (e_var 3) (e_int 7))) (e_int 2147483647)) (e_int 11)) (e_var 2)))
  ss_nil)))))
abbrev X7 (P : Program) (w : World) (K : PySem.W.Frag) (mg : Str → Option Value) (base : Heap) (f : Addr) (cdv : Value) (A : Around) (outer : List Env) (s : Shared) (H : Hp) (E : XK) : Cx := cxOf (L2.CX P w) P w K mg base N7 "_law_day" (defScope (top 31)) f cdv A outer s H E
theorem b7 (k : Bx (X7 P w K mg base f cdv A outer s H E) Z Wx G) (po : PassesOwn (model P w) (X7 P w K mg base f cdv A outer s H E).A (X7 P w K mg base f cdv A outer s H E).env (X7 P w K mg base f cdv A outer s H E).xe) (en : En P w K mg base (X7 P w K mg base f cdv A outer s H E).A Z G C C1) : PSs (X7 P w K mg base f cdv A outer s H E) (defBody (top 31)) (TSl Z Wx G C C1 fu sl__law_day) :=
  (ss_cons (s_ret (e_call k en.c6_0 (a_cons (e_var 0) (a_cons (e_var 1) (a_cons (e_int 31) a_nil)))))
  ss_nil)
abbrev X8 (P : Program) (w : World) (K : PySem.W.Frag) (mg : Str → Option Value) (base : Heap) (f : Addr) (cdv : Value) (A : Around) (outer : List Env) (s : Shared) (H : Hp) (E : XK) : Cx := cxOf (L2.CX P w) P w K mg base N8 "_law_place" (defScope (top 32)) f cdv A outer s H E
theorem b8 (k : Bx (X8 P w K mg base f cdv A outer s H E) Z Wx G) (po : PassesOwn (model P w) (X8 P w K mg base f cdv A outer s H E).A (X8 P w K mg base f cdv A outer s H E).env (X8 P w K mg base f cdv A outer s H E).xe) (en : En P w K mg base (X8 P w K mg base f cdv A outer s H E).A Z G C C1) : PSs (X8 P w K mg base f cdv A outer s H E) (defBody (top 32)) (TSl Z Wx G C C1 fu sl__law_place) :=
  (ss_cons (s_ret (e_sub k (e_str "abcd") (e_call k en.c6_0 (a_cons (e_var 0) (a_cons (e_var 1) (a_cons (e_int 4) a_nil))))))
  ss_nil)
abbrev X9 (P : Program) (w : World) (K : PySem.W.Frag) (mg : Str → Option Value) (base : Heap) (f : Addr) (cdv : Value) (A : Around) (outer : List Env) (s : Shared) (H : Hp) (E : XK) : Cx := cxOf (L2.CX P w) P w K mg base N9 "_law_right" (defScope (top 33)) f cdv A outer s H E
theorem b9 (k : Bx (X9 P w K mg base f cdv A outer s H E) Z Wx G) (po : PassesOwn (model P w) (X9 P w K mg base f cdv A outer s H E).A (X9 P w K mg base f cdv A outer s H E).env (X9 P w K mg base f cdv A outer s H E).xe) (en : En P w K mg base (X9 P w K mg base f cdv A outer s H E).A Z G C C1) : PSs (X9 P w K mg base f cdv A outer s H E) (defBody (top 33)) (TSl Z Wx G C C1 fu sl__law_right) :=
  (ss_cons (s_par k 3 4 (a_cons (e_sub k (e_str "rstv") (e_call k en.c6_0 (a_cons (e_var 0) (a_cons (e_var 1) (a_cons (e_int 4) a_nil))))) (a_cons (e_call k en.c8_0 (a_cons (e_var 0) (a_cons (e_bin k .add (e_var 1) (e_int 1)) a_nil))) a_nil)))
  (ss_cons (s_asg k (e_sub k (e_str "ow") (e_call k en.c6_0 (a_cons (e_var 0) (a_cons (e_bin k .add (e_var 1) (e_int 2)) (a_cons (e_int 2) a_nil))))) (g_nm k.nd _ 5))
  (ss_cons (s_par k 6 7 (a_cons (e_sub k (e_lst (a_cons (e_int 3) (a_cons (e_int 10) (a_cons (e_int 40) (a_cons (e_int 9999) a_nil))))) (e_call k en.c6_0 (a_cons (e_var 0) (a_cons (e_bin k .add (e_var 1) (e_int 3)) (a_cons (e_int 4) a_nil))))) (a_cons (e_sub k (e_lst (a_cons (e_int 5) (a_cons (e_int 60) (a_cons (e_int 999999) a_nil)))) (e_call k en.c6_0 (a_cons (e_var 0) (a_cons (e_bin k .add (e_var 1) (e_int 4)) (a_cons (e_int 3) a_nil))))) a_nil)))
  (ss_cons (s_asg k (e_sub k (e_lst (a_cons (e_tup (a_cons (e_int 0) (a_cons (e_int 364) a_nil))) (a_cons (e_tup (a_cons (e_int 5) (a_cons (e_int 20) a_nil))) (a_cons (e_tup (a_cons (e_int 300) (a_cons (e_int 12) a_nil))) a_nil)))) (e_call k en.c6_0 (a_cons (e_var 0) (a_cons (e_bin k .add (e_var 1) (e_int 5)) (a_cons (e_int 3) a_nil))))) (g_tup k.calm k.K (gs_cons k.nd 8 (gs_cons k.nd 9 gs_nil))))
  (ss_cons (s_asg k (e_sub k (e_lst (a_cons (e_tup (a_cons (e_int 0) (a_cons (e_str "-") (a_cons (e_int 0) a_nil)))) (a_cons (e_tup (a_cons (e_int 500) (a_cons (e_str "c") (a_cons (e_int 2) a_nil)))) (a_cons (e_tup (a_cons (e_int 300) (a_cons (e_str "b") (a_cons (e_int 0) a_nil)))) a_nil)))) (e_call k en.c6_0 (a_cons (e_var 0) (a_cons (e_bin k .add (e_var 1) (e_int 6)) (a_cons (e_int 3) a_nil))))) (g_nm k.nd _ 10))
  (ss_cons (s_ret (e_bin k .add (e_tup (a_cons (e_str "right") (a_cons (e_var 2) (a_cons (e_var 3) (a_cons (e_var 4) (a_cons (e_var 5) (a_cons (e_bin k .add (e_int 1) (e_call k en.c6_0 (a_cons (e_var 0) (a_cons (e_bin k .add (e_var 1) (e_int 7)) (a_cons (e_int 5) a_nil))))) (a_cons (e_var 6) (a_cons (e_var 7) (a_cons (e_var 8) (a_cons (e_var 9) a_nil))))))))))) (e_var 10)))
  ss_nil))))))
abbrev X10 (P : Program) (w : World) (K : PySem.W.Frag) (mg : Str → Option Value) (base : Heap) (f : Addr) (cdv : Value) (A : Around) (outer : List Env) (s : Shared) (H : Hp) (E : XK) : Cx := cxOf (L2.CX P w) P w K mg base N10 "_law_base" (defScope (top 34)) f cdv A outer s H E
theorem b10 (k : Bx (X10 P w K mg base f cdv A outer s H E) Z Wx G) (po : PassesOwn (model P w) (X10 P w K mg base f cdv A outer s H E).A (X10 P w K mg base f cdv A outer s H E).env (X10 P w K mg base f cdv A outer s H E).xe) (en : En P w K mg base (X10 P w K mg base f cdv A outer s H E).A Z G C C1) : PSs (X10 P w K mg base f cdv A outer s H E) (defBody (top 34)) (TSl Z Wx G C C1 fu sl__law_base) :=
  (ss_cons (s_set (s_setLc k (i := 2) (by kernel_rfl) (by rfl) (by rfl) (i_rng1 k en.fr.range (e_int 4)) (blk_ok (own := [("k", 5)]) (by kernel_rfl)) rfl (fun s3 h3 q3 l3 f3 => (g_nm (k.blk s3 h3 _ _ f3).nd _ 5)) (fun s3 h3 q3 l3 f3 => ifs_none) (fun s3 h3 q3 l3 f3 => (e_bin (k.blk s3 h3 _ _ f3) .add (e_int 1) (e_call (k.blk s3 h3 _ _ f3) en.c6_0 (a_cons (e_var 0) (a_cons (e_bin (k.blk s3 h3 _ _ f3) .add (e_var 1) (e_var 5)) (a_cons (e_int 3) a_nil))))))))
  (ss_cons (s_set (s_setLc k (i := 3) (by kernel_rfl) (by rfl) (by rfl) (i_rng1 k en.fr.range (e_int 4)) (blk_ok (own := [("k", 5)]) (by kernel_rfl)) rfl (fun s2 h2 q2 l2 f2 => (g_nm (k.blk s2 h2 _ _ f2).nd _ 5)) (fun s2 h2 q2 l2 f2 => ifs_none) (fun s2 h2 q2 l2 f2 => (e_sub (k.blk s2 h2 _ _ f2) (e_lst (a_cons (e_int 0) (a_cons (e_int 0) (a_cons (e_int 2) (a_cons (e_int 5) a_nil))))) (e_call (k.blk s2 h2 _ _ f2) en.c6_0 (a_cons (e_var 0) (a_cons (e_bin (k.blk s2 h2 _ _ f2) .add (e_bin (k.blk s2 h2 _ _ f2) .add (e_var 1) (e_int 4)) (e_var 5)) (a_cons (e_int 4) a_nil))))))))
  (ss_cons (s_asg k (e_lst (a_cons (e_tup (a_cons (e_str "place") (a_cons (e_int 0) (a_cons (e_str "a") (a_cons (e_str "b") (a_cons (e_sub k (e_var 2) (e_int 0)) (a_cons (e_sub k (e_var 3) (e_int 0)) a_nil))))))) a_nil)) (g_nm k.nd _ 4))
  (ss_cons (s_asg k (e_bin k .add (e_var 4) (e_lst (a_cons (e_tup (a_cons (e_str "place") (a_cons (e_int 0) (a_cons (e_str "b") (a_cons (e_str "c") (a_cons (e_sub k (e_var 2) (e_int 1)) (a_cons (e_sub k (e_var 3) (e_int 1)) a_nil))))))) a_nil))) (g_nm k.nd _ 4))
  (ss_cons (s_asg k (e_bin k .add (e_var 4) (e_lst (a_cons (e_tup (a_cons (e_str "place") (a_cons (e_int 0) (a_cons (e_str "c") (a_cons (e_str "-") (a_cons (e_sub k (e_var 2) (e_int 2)) (a_cons (e_sub k (e_var 3) (e_int 2)) a_nil))))))) a_nil))) (g_nm k.nd _ 4))
  (ss_cons (s_asg k (e_bin k .add (e_var 4) (e_lst (a_cons (e_tup (a_cons (e_str "place") (a_cons (e_int 0) (a_cons (e_str "d") (a_cons (e_str "c") (a_cons (e_sub k (e_var 2) (e_int 3)) (a_cons (e_sub k (e_var 3) (e_int 3)) a_nil))))))) a_nil))) (g_nm k.nd _ 4))
  (ss_cons (s_asg k (e_bin k .add (e_var 4) (e_lst (a_cons (e_tup (a_cons (e_str "dam") (a_cons (e_int 0) (a_cons (e_str "b") (a_cons (e_int 100) (a_cons (e_sub k (e_lst (a_cons (e_int 0) (a_cons (e_int 20) (a_cons (e_int 100) a_nil)))) (e_call k en.c6_0 (a_cons (e_var 0) (a_cons (e_bin k .add (e_var 1) (e_int 8)) (a_cons (e_int 3) a_nil))))) a_nil)))))) a_nil))) (g_nm k.nd _ 4))
  (ss_cons (s_asg k (e_bin k .add (e_var 4) (e_lst (a_cons (e_tup (a_cons (e_str "share") (a_cons (e_int 0) (a_cons (e_str "b") (a_cons (e_str "o") (a_cons (e_int 60) a_nil)))))) a_nil))) (g_nm k.nd _ 4))
  (ss_cons (s_asg k (e_bin k .add (e_var 4) (e_lst (a_cons (e_tup (a_cons (e_str "share") (a_cons (e_int 0) (a_cons (e_str "b") (a_cons (e_str "w") (a_cons (e_sub k (e_lst (a_cons (e_int 10) (a_cons (e_int 50) a_nil))) (e_call k en.c6_0 (a_cons (e_var 0) (a_cons (e_bin k .add (e_var 1) (e_int 9)) (a_cons (e_int 2) a_nil))))) a_nil)))))) a_nil))) (g_nm k.nd _ 4))
  (ss_cons (s_ret (e_bin k .add (e_var 4) (e_lc k (i_rng1 k en.fr.range (e_int 3)) (blk_ok (own := [("k", 5)]) (by kernel_rfl)) rfl (fun s1 h1 q1 l1 f1 => (g_nm (k.blk s1 h1 _ _ f1).nd _ 5)) (fun s1 h1 q1 l1 f1 => ifs_none) (fun s1 h1 q1 l1 f1 => (e_call (k.blk s1 h1 _ _ f1) en.c9_0 (a_cons (e_var 0) (a_cons (e_bin (k.blk s1 h1 _ _ f1) .add (e_bin (k.blk s1 h1 _ _ f1) .add (e_var 1) (e_int 10)) (e_bin (k.blk s1 h1 _ _ f1) .mul (e_int 10) (e_var 5))) (a_cons (e_int 0) a_nil))))))))
  ss_nil))))))))))
abbrev X11 (P : Program) (w : World) (K : PySem.W.Frag) (mg : Str → Option Value) (base : Heap) (f : Addr) (cdv : Value) (A : Around) (outer : List Env) (s : Shared) (H : Hp) (E : XK) : Cx := cxOf (L2.CX P w) P w K mg base N11 "_law_truth" (defScope (top 35)) f cdv A outer s H E
theorem b11 (k : Bx (X11 P w K mg base f cdv A outer s H E) Z Wx G) (po : PassesOwn (model P w) (X11 P w K mg base f cdv A outer s H E).A (X11 P w K mg base f cdv A outer s H E).env (X11 P w K mg base f cdv A outer s H E).xe) (en : En P w K mg base (X11 P w K mg base f cdv A outer s H E).A Z G C C1) : PSs (X11 P w K mg base f cdv A outer s H E) (defBody (top 35)) (TSl Z Wx G C C1 fu sl__law_truth) :=
  (ss_cons (s_par k 2 3 (a_cons (e_call k en.c7_0 (a_cons (e_var 0) (a_cons (e_var 1) a_nil))) (a_cons (e_call k en.c6_0 (a_cons (e_var 0) (a_cons (e_bin k .add (e_var 1) (e_int 1)) (a_cons (e_int 16) a_nil)))) a_nil)))
  (ss_cons (s_par k 4 5 (a_cons (e_sub k (e_lst (a_cons (e_int 0) (a_cons (e_int 4) (a_cons (e_int 12) (a_cons (e_int 50) a_nil))))) (e_call k en.c6_0 (a_cons (e_var 0) (a_cons (e_bin k .add (e_var 1) (e_int 2)) (a_cons (e_int 4) a_nil))))) (a_cons (e_sub k (e_str "rstv") (e_call k en.c6_0 (a_cons (e_var 0) (a_cons (e_bin k .add (e_var 1) (e_int 3)) (a_cons (e_int 4) a_nil))))) a_nil)))
  (ss_cons (s_asg k (e_sub k (e_str "ow") (e_call k en.c6_0 (a_cons (e_var 0) (a_cons (e_bin k .add (e_var 1) (e_int 4)) (a_cons (e_int 2) a_nil))))) (g_nm k.nd _ 6))
  (ss_cons (s_if (t_cmp k .lt (e_var 3) (e_int 6)) (ss_cons (s_ret (e_tup (a_cons (e_str "read") (a_cons (e_var 2) (a_cons (e_call k en.c8_0 (a_cons (e_var 0) (a_cons (e_bin k .add (e_var 1) (e_int 5)) a_nil))) (a_cons (e_var 4) a_nil))))))
  ss_nil) ss_nil)
  (ss_cons (s_if (t_cmp k .lt (e_var 3) (e_int 10)) (ss_cons (s_ret (e_tup (a_cons (e_str "ask") (a_cons (e_var 2) (a_cons (e_var 5) (a_cons (e_var 4) a_nil))))))
  ss_nil) ss_nil)
  (ss_cons (s_if (t_cmp k .eq (e_var 3) (e_int 10)) (ss_cons (s_ret (e_tup (a_cons (e_str "store") (a_cons (e_var 2) (a_cons (e_var 5) a_nil)))))
  ss_nil) ss_nil)
  (ss_cons (s_if (t_cmp k .eq (e_var 3) (e_int 11)) (ss_cons (s_ret (e_tup (a_cons (e_str "release") (a_cons (e_var 2) (a_cons (e_str "b") (a_cons (e_var 6) (a_cons (e_var 5) (a_cons (e_var 4) a_nil))))))))
  ss_nil) ss_nil)
  (ss_cons (s_if (t_cmp k .eq (e_var 3) (e_int 12)) (ss_cons (s_ret (e_tup (a_cons (e_str "sold") (a_cons (e_var 2) (a_cons (e_var 5) (a_cons (e_var 6) a_nil))))))
  ss_nil) ss_nil)
  (ss_cons (s_if (t_cmp k .eq (e_var 3) (e_int 13)) (ss_cons (s_par k 7 8 (a_cons (e_sub k (e_str "xy") (e_call k en.c6_0 (a_cons (e_var 0) (a_cons (e_bin k .add (e_var 1) (e_int 5)) (a_cons (e_int 2) a_nil))))) (a_cons (e_bin k .add (e_var 2) (e_call k en.c6_0 (a_cons (e_var 0) (a_cons (e_bin k .add (e_var 1) (e_int 6)) (a_cons (e_int 12) a_nil))))) a_nil)))
  (ss_cons (s_ret (e_tup (a_cons (e_str "leased") (a_cons (e_var 2) (a_cons (e_var 5) (a_cons (e_var 7) (a_cons (e_var 8) a_nil)))))))
  ss_nil)) ss_nil)
  (ss_cons (s_if (t_cmp k .eq (e_var 3) (e_int 14)) (ss_cons (s_ret (e_tup (a_cons (e_str "moved") (a_cons (e_var 2) (a_cons (e_var 5) (a_cons (e_call k en.c8_0 (a_cons (e_var 0) (a_cons (e_bin k .add (e_var 1) (e_int 5)) a_nil))) a_nil))))))
  ss_nil) ss_nil)
  (ss_cons (s_ret (e_tup (a_cons (e_str "share") (a_cons (e_var 2) (a_cons (e_str "b") (a_cons (e_var 6) (a_cons (e_sub k (e_lst (a_cons (e_int 0) (a_cons (e_int 20) (a_cons (e_int 80) a_nil)))) (e_call k en.c6_0 (a_cons (e_var 0) (a_cons (e_bin k .add (e_var 1) (e_int 5)) (a_cons (e_int 3) a_nil))))) a_nil)))))))
  ss_nil)))))))))))
abbrev X12 (P : Program) (w : World) (K : PySem.W.Frag) (mg : Str → Option Value) (base : Heap) (f : Addr) (cdv : Value) (A : Around) (outer : List Env) (s : Shared) (H : Hp) (E : XK) : Cx := cxOf (L2.CX P w) P w K mg base N12 "_law_truths" (defScope (top 36)) f cdv A outer s H E
theorem b12 (k : Bx (X12 P w K mg base f cdv A outer s H E) Z Wx G) (po : PassesOwn (model P w) (X12 P w K mg base f cdv A outer s H E).A (X12 P w K mg base f cdv A outer s H E).env (X12 P w K mg base f cdv A outer s H E).xe) (en : En P w K mg base (X12 P w K mg base f cdv A outer s H E).A Z G C C1) : PSs (X12 P w K mg base f cdv A outer s H E) (defBody (top 36)) (TSl Z Wx G C C1 fu sl__law_truths) :=
  (ss_cons (s_asg k (e_lst a_nil) (g_nm k.nd _ 3))
  (ss_cons (s_for k po (i_rng1 k en.fr.range (e_var 2)) (g_nm k.nd _ 4) (ss_cons (s_asg k.lk (e_bin k.lk .add (e_var 1) (e_bin k.lk .mul (e_int 9) (e_var 4))) (g_nm k.lk.nd _ 5))
  (ss_cons (s_if (t_w (t_and (t_cmp k.lk .eq (e_call k.lk en.c6_0 (a_cons (e_var 0) (a_cons (e_bin k.lk .add (e_var 5) (e_int 8)) (a_cons (e_int 8) a_nil)))) (e_int 0)) (t_one (t_cmp k.lk .ne (e_var 3) (e_lst a_nil))))) (ss_cons (s_asg k.lk (e_sub k.lk (e_var 3) (e_call k.lk en.c6_0 (a_cons (e_var 0) (a_cons (e_var 5) (a_cons (e_bi k.lk .len en.fr.len (a_cons (e_var 3) a_nil)) a_nil))))) (g_nm k.lk.nd _ 6))
  (ss_cons (s_ex (e_bm k.lk .append (e_var 3) (a_cons (e_ife (t_cmp k.lk .lt (e_bm k.lk .scount (e_bi k.lk .str en.fr.str (a_cons (e_var 6) a_nil)) (a_cons (e_str "void") a_nil)) (e_int 3)) (e_tup (a_cons (e_str "void") (a_cons (e_var 6) a_nil))) (e_var 6)) a_nil)))
  ss_nil)) (ss_cons (s_ex (e_bm k.lk .append (e_var 3) (a_cons (e_call k.lk en.c11_0 (a_cons (e_var 0) (a_cons (e_var 5) a_nil))) a_nil)))
  ss_nil))
  ss_nil)))
  (ss_cons (s_ret (e_var 3))
  ss_nil)))
abbrev X13 (P : Program) (w : World) (K : PySem.W.Frag) (mg : Str → Option Value) (base : Heap) (f : Addr) (cdv : Value) (A : Around) (outer : List Env) (s : Shared) (H : Hp) (E : XK) : Cx := cxOf (L2.CX P w) P w K mg base N13 "_law_all_truths" (defScope (top 37)) f cdv A outer s H E
theorem b13 (k : Bx (X13 P w K mg base f cdv A outer s H E) Z Wx G) (po : PassesOwn (model P w) (X13 P w K mg base f cdv A outer s H E).A (X13 P w K mg base f cdv A outer s H E).env (X13 P w K mg base f cdv A outer s H E).xe) (en : En P w K mg base (X13 P w K mg base f cdv A outer s H E).A Z G C C1) : PSs (X13 P w K mg base f cdv A outer s H E) (defBody (top 37)) (TSl Z Wx G C C1 fu sl__law_all_truths) :=
  (ss_cons (s_ret (e_bin k .add (e_call k en.c10_0 (a_cons (e_var 0) (a_cons (e_var 1) a_nil))) (e_call k en.c12_0 (a_cons (e_var 0) (a_cons (e_bin k .add (e_var 1) (e_int 60)) (a_cons (e_var 2) a_nil))))))
  ss_nil)
abbrev X14 (P : Program) (w : World) (K : PySem.W.Frag) (mg : Str → Option Value) (base : Heap) (f : Addr) (cdv : Value) (A : Around) (outer : List Env) (s : Shared) (H : Hp) (E : XK) : Cx := cxOf (L2.CX P w) P w K mg base N14 "law" (defScope (top 38)) f cdv A outer s H E
theorem b14 (k : Bx (X14 P w K mg base f cdv A outer s H E) Z Wx G) (po : PassesOwn (model P w) (X14 P w K mg base f cdv A outer s H E).A (X14 P w K mg base f cdv A outer s H E).env (X14 P w K mg base f cdv A outer s H E).xe) (en : En P w K mg base (X14 P w K mg base f cdv A outer s H E).A Z G C C1) : PSs (X14 P w K mg base f cdv A outer s H E) (defBody (top 38)) (TSl Z Wx G C C1 fu sl_law) :=
  (ss_cons (s_asg k (e_call k en.c13_0 (a_cons (e_var 0) (a_cons (e_int 10) (a_cons (e_int 5) a_nil)))) (g_nm k.nd _ 1))
  (ss_cons (s_for k po (i_val k (e_var 1)) (g_nm k.nd _ 2) (ss_cons (s_asg k.lk (e_bm k.lk .scount (e_bi k.lk .str en.fr.str (a_cons (e_var 2) a_nil)) (a_cons (e_str "void") a_nil)) (g_nm k.lk.nd _ 3))
  (ss_cons (s_for k.lk po (i_rng1 k.lk en.fr.range (e_int 5)) (g_nm k.lk.nd _ 4) (ss_cons (s_if (t_cmp k.lk.lk .ne (e_call k.lk.lk en.c5_0 (a_cons (e_var 2) a_nil)) (e_cmp k.lk.lk .le (e_var 3) (e_int 3))) (ss_cons (s_ret (e_bl false))
  ss_nil) ss_nil)
  (ss_cons (s_par k.lk.lk 2 3 (a_cons (e_tup (a_cons (e_str "void") (a_cons (e_var 2) a_nil))) (a_cons (e_bin k.lk.lk .add (e_var 3) (e_int 1)) a_nil)))
  ss_nil)))
  ss_nil)))
  (ss_cons (s_set (s_setLc k (i := 5) (by kernel_rfl) (by rfl) (by rfl) (i_val k (e_var 1)) (blk_ok (own := [("truth", 2)]) (by kernel_rfl)) rfl (fun s2 h2 q2 l2 f2 => (g_nm (k.blk s2 h2 _ _ f2).nd _ 2)) (fun s2 h2 q2 l2 f2 => (ifs_one (t_cmp (k.blk s2 h2 _ _ f2) .ne (e_sub (k.blk s2 h2 _ _ f2) (e_var 2) (e_int 0)) (e_str "void")))) (fun s2 h2 q2 l2 f2 => (e_var 2))))
  (ss_cons (s_asg k (e_sub k (e_var 5) (e_call k en.c6_0 (a_cons (e_var 0) (a_cons (e_int 1) (a_cons (e_bi k .len en.fr.len (a_cons (e_var 5) a_nil)) a_nil))))) (g_nm k.nd _ 6))
  (ss_cons (s_for k po (i_rng1 k en.fr.range (e_bi k .len en.fr.len (a_cons (e_var 6) a_nil))) (g_nm k.nd _ 7) (ss_cons (s_for k.lk po (i_val k.lk (e_tup (a_cons e_non (a_cons (e_bl true) (a_cons (e_str "") (a_cons (e_str "A") (a_cons (e_str "abcdefghi") (a_cons (e_neg (e_int 1)) (a_cons (e_int 1000000) (a_cons (e_tup a_nil) (a_cons (e_lst (a_cons (e_str "a") a_nil)) (a_cons (e_str "a.b") a_nil)))))))))))) (g_nm k.lk.nd _ 8) (ss_cons (s_if (t_cmp k.lk.lk .isn (e_call k.lk.lk en.c5_0 (a_cons (e_bin k.lk.lk .add (e_bin k.lk.lk .add (e_slc k.lk.lk (e_var 6) o_no (o_some (e_var 7))) (e_tup (a_cons (e_var 8) a_nil))) (e_slc k.lk.lk (e_var 6) (o_some (e_bin k.lk.lk .add (e_var 7) (e_int 1))) o_no)) a_nil)) (e_bl false)) (ss_cons (s_ret (e_bl false))
  ss_nil) ss_nil)
  ss_nil))
  ss_nil))
  (ss_cons (s_if (t_w (t_or (t_cmp k .isn (e_call k en.c5_0 (a_cons (e_slc k (e_var 6) o_no (o_some (e_neg (e_int 1)))) a_nil)) (e_bl false)) (t_one (t_cmp k .isn (e_call k en.c5_0 (a_cons (e_bin k .add (e_var 6) (e_tup (a_cons (e_int 0) a_nil))) a_nil)) (e_bl false))))) (ss_cons (s_ret (e_bl false))
  ss_nil) ss_nil)
  (ss_cons (s_if (t_cmp k .isn (e_call k en.c5_0 (a_cons (e_bi k .list en.fr.list (a_cons (e_var 6) a_nil)) a_nil)) (e_bl false)) (ss_cons (s_ret (e_bl false))
  ss_nil) ss_nil)
  (ss_cons (s_if (t_cmp k .isn (e_call k en.c5_0 (a_cons (e_bin k .add (e_bin k .add (e_slc k (e_var 6) o_no (o_some (e_int 1))) (e_tup (a_cons (e_int 10000) a_nil))) (e_slc k (e_var 6) (o_some (e_int 2)) o_no)) a_nil)) (e_bl false)) (ss_cons (s_ret (e_bl false))
  ss_nil) ss_nil)
  (ss_cons (s_asg k (e_tup (a_cons (e_str "right") (a_cons (e_int 0) (a_cons (e_str "r") (a_cons (e_str "a") (a_cons (e_str "o") (a_cons (e_int 1) (a_cons (e_int 0) (a_cons (e_int 0) (a_cons (e_int 0) (a_cons (e_int 364) (a_cons (e_int 0) (a_cons (e_str "-") (a_cons (e_int 0) a_nil)))))))))))))) (g_nm k.nd _ 9))
  (ss_cons (s_asg k (e_lst (a_cons (e_tup (a_cons (e_str "place") (a_cons (e_int 0) (a_cons (e_str "a") (a_cons (e_str "b") (a_cons (e_int 0) (a_cons (e_int 0) a_nil))))))) (a_cons (e_tup (a_cons (e_str "place") (a_cons (e_int 0) (a_cons (e_str "a") (a_cons (e_str "b") (a_cons (e_int 10) (a_cons (e_int 0) a_nil))))))) a_nil))) (g_nm k.nd _ 10))
  (ss_cons (s_asg k (e_bin k .add (e_var 10) (e_lst (a_cons (e_tup (a_cons (e_str "place") (a_cons (e_int 0) (a_cons (e_str "-") (a_cons (e_str "b") (a_cons (e_int 1) (a_cons (e_int 0) a_nil))))))) (a_cons (e_tup (a_cons (e_str "read") (a_cons (e_int 0) (a_cons (e_str "a") (a_cons (e_int 10000) a_nil))))) (a_cons (e_tup (a_cons (e_str "dam") (a_cons (e_int 0) (a_cons (e_str "a") (a_cons (e_int 1) (a_cons (e_int 1001) a_nil)))))) a_nil))))) (g_nm k.nd _ 10))
  (ss_cons (s_asg k (e_bin k .add (e_var 10) (e_lst (a_cons (e_tup (a_cons (e_str "leased") (a_cons (e_int 0) (a_cons (e_str "r") (a_cons (e_str "o") (a_cons (e_int 10000) a_nil)))))) a_nil))) (g_nm k.nd _ 10))
  (ss_cons (s_asg k (e_bin k .add (e_var 10) (e_lst (a_cons (e_bin k .add (e_bin k .add (e_slc k (e_var 9) o_no (o_some (e_int 5))) (e_tup (a_cons (e_int 0) a_nil))) (e_slc k (e_var 9) (o_some (e_int 6)) o_no)) (a_cons (e_bin k .add (e_bin k .add (e_slc k (e_var 9) o_no (o_some (e_int 5))) (e_tup (a_cons (e_int 100) a_nil))) (e_slc k (e_var 9) (o_some (e_int 6)) o_no)) a_nil)))) (g_nm k.nd _ 10))
  (ss_cons (s_asg k (e_bin k .add (e_var 10) (e_lst (a_cons (e_bin k .add (e_bin k .add (e_slc k (e_var 9) o_no (o_some (e_int 9))) (e_tup (a_cons (e_int 365) a_nil))) (e_slc k (e_var 9) (o_some (e_int 10)) o_no)) (a_cons (e_bin k .add (e_bin k .add (e_slc k (e_var 9) o_no (o_some (e_int 10))) (e_tup (a_cons (e_int 1001) a_nil))) (e_slc k (e_var 9) (o_some (e_int 11)) o_no)) a_nil)))) (g_nm k.nd _ 10))
  (ss_cons (s_asg k (e_bin k .add (e_var 10) (e_lst (a_cons (e_bin k .add (e_slc k (e_var 9) o_no (o_some (e_int 12))) (e_tup (a_cons (e_int 31) a_nil))) a_nil))) (g_nm k.nd _ 10))
  (ss_cons (s_asg k (e_bin k .add (e_var 10) (e_lst (a_cons e_non (a_cons (e_tup a_nil) (a_cons (e_int 7) (a_cons (e_str "read") (a_cons (e_tup (a_cons (e_str "read") a_nil)) (a_cons (e_tup (a_cons (e_str "Read") (a_cons (e_int 0) (a_cons (e_str "a") (a_cons (e_int 1) a_nil))))) (a_cons (e_tup (a_cons (e_str "void") a_nil)) (a_cons (e_tup (a_cons (e_str "void") (a_cons e_non a_nil))) a_nil)))))))))) (g_nm k.nd _ 10))
  (ss_cons (s_asg k (e_bin k .add (e_var 10) (e_lst (a_cons (e_tup (a_cons (e_str "void") (a_cons (e_tup (a_cons (e_str "read") (a_cons (e_int 0) (a_cons (e_str "a") a_nil)))) a_nil))) (a_cons (e_tup (a_cons (e_str "place") (a_cons (e_int 0) (a_cons (e_str "a") (a_cons (e_str "") (a_cons (e_int 1) (a_cons (e_int 0) a_nil))))))) a_nil)))) (g_nm k.nd _ 10))
  (ss_cons (s_if (t_cmp k .ne (e_lc k (i_val k (e_var 10)) (blk_ok (own := [("thing", 8)]) (by kernel_rfl)) rfl (fun s1 h1 q1 l1 f1 => (g_nm (k.blk s1 h1 _ _ f1).nd _ 8)) (fun s1 h1 q1 l1 f1 => (ifs_one (t_cmp (k.blk s1 h1 _ _ f1) .isn (e_call (k.blk s1 h1 _ _ f1) en.c5_0 (a_cons (e_var 8) a_nil)) (e_bl false)))) (fun s1 h1 q1 l1 f1 => (e_var 8))) (e_lst a_nil)) (ss_cons (s_ret (e_bl false))
  ss_nil) ss_nil)
  (ss_cons (s_ret (e_and k (e_cmp k .is_ (e_call k en.c5_0 (a_cons (e_var 9) a_nil)) (e_bl true)) (e_one (e_cmp k .is_ (e_call k en.c5_0 (a_cons (e_tup (a_cons (e_str "place") (a_cons (e_int 9999) (a_cons (e_str "a") (a_cons (e_str "-") (a_cons (e_int 9) (a_cons (e_int 9999) a_nil))))))) a_nil)) (e_bl true)))))
  ss_nil)))))))))))))))))))
end
end Bh
end
section
set_option Elab.async false
set_option linter.all false
set_option maxRecDepth 100000
set_option maxHeartbeats 0

namespace Bh
open PySem PySem.Spec PyProof.Rows L2 MP
def d0 : He.DefD := ⟨("is_whole", none), "is_whole", "is_whole", defArgs (top 8), defBody (top 8), defScope (top 8), [], []⟩
def d1 : He.DefD := ⟨("is_day", none), "is_day", "is_day", defArgs (top 9), defBody (top 9), defScope (top 9), [], []⟩
def d2 : He.DefD := ⟨("is_name", none), "is_name", "is_name", defArgs (top 10), defBody (top 10), defScope (top 10), [], []⟩
def d3 : He.DefD := ⟨("is_part", none), "is_part", "is_part", defArgs (top 26), defBody (top 26), defScope (top 26), [], []⟩
def d4 : He.DefD := ⟨("is_plain", none), "is_plain", "is_plain", defArgs (top 27), defBody (top 27), defScope (top 27), [], []⟩
def d5 : He.DefD := ⟨("is_truth", none), "is_truth", "is_truth", defArgs (top 28), defBody (top 28), defScope (top 28), [], []⟩
def d6 : He.DefD := ⟨("_law_drawn", none), "_law_drawn", "_law_drawn", defArgs (top 30), defBody (top 30), defScope (top 30), [], []⟩
def d7 : He.DefD := ⟨("_law_day", none), "_law_day", "_law_day", defArgs (top 31), defBody (top 31), defScope (top 31), [], []⟩
def d8 : He.DefD := ⟨("_law_place", none), "_law_place", "_law_place", defArgs (top 32), defBody (top 32), defScope (top 32), [], []⟩
def d9 : He.DefD := ⟨("_law_right", none), "_law_right", "_law_right", defArgs (top 33), defBody (top 33), defScope (top 33), [], []⟩
def d10 : He.DefD := ⟨("_law_base", none), "_law_base", "_law_base", defArgs (top 34), defBody (top 34), defScope (top 34), [], []⟩
def d11 : He.DefD := ⟨("_law_truth", none), "_law_truth", "_law_truth", defArgs (top 35), defBody (top 35), defScope (top 35), [], []⟩
def d12 : He.DefD := ⟨("_law_truths", none), "_law_truths", "_law_truths", defArgs (top 36), defBody (top 36), defScope (top 36), [], []⟩
def d13 : He.DefD := ⟨("_law_all_truths", none), "_law_all_truths", "_law_all_truths", defArgs (top 37), defBody (top 37), defScope (top 37), [], []⟩
def d14 : He.DefD := ⟨("law", none), "law", "law", defArgs (top 38), defBody (top 38), defScope (top 38), [], []⟩
def fn0 : List He.DefD := [d0, d1, d2, d3, d4, d5, d6, d7, d8, d9, d10, d11, d12, d13, d14]
def fn : List He.DefD := fn0
def fa0 : List He.Fa := [.glo "is_whole", .glo "is_day", .glo "is_name", .glo "is_part", .glo "is_plain", .glo "is_truth", .glo "_law_drawn", .glo "_law_day", .glo "_law_place", .glo "_law_right", .glo "_law_base", .glo "_law_truth", .glo "_law_truths", .glo "_law_all_truths", .glo "law", .free "isinstance", .free "len", .free "all", .free "any", .free "sum", .free "min", .free "max", .free "sorted", .free "range", .free "zip", .free "enumerate", .free "abs", .free "list", .free "dict", .free "tuple"]
def fa1 : List He.Fa := [.free "str", .free "int", .free "set", .free "bool", .int "LAST_DAY" 9999, .str "SMALL" "abcdefghijklmnopqrstuvwxyz", .str "BELOW" "below", .str "NOWHERE" "-", .str "NAME" "name", .str "DAY" "day", .int "MOST_DEEP" 3, .str "VOID" "void", .glo "PARTS", .glo "RANGES"]
def fa : List He.Fa := fa0 ++ fa1
def nms0 : List PySem.Str := ["__name__", "SMALL", "LAST_DAY", "YEAR", "MOST_WATER", "MOST_MUCH", "WHOLE", "NOWHERE", "is_whole", "is_day", "is_name", "DAY", "NAME", "BELOW", "TRAVEL", "WATER", "MUCH", "RANK", "SEASON", "PART", "DELAY", "VOID", "MOST_DEEP", "PARTS", "RANGES", "is_part", "is_plain", "is_truth", "_law_drawn", "_law_day"]
def nms1 : List PySem.Str := ["_law_place", "_law_right", "_law_base", "_law_truth", "_law_truths", "_law_all_truths"]
def nms : List PySem.Str := nms0 ++ nms1
def tf : List He.Defn := []
def ex (K : PySem.W.Frag) : Bool := decide ((tf.map fun p => (He.cT K p).2).Nodup) && tabB K "PARTS" tab_PARTS && tabB K "RANGES" tab_RANGES
def ts : List He.Tab := [(fun K => He.ga K "PARTS", tab_PARTS.map (·.1)), (fun K => He.ga K "RANGES", tab_RANGES.map (·.1))]
abbrev R : PySem.W.OpenRow := PySem.W.OpenLaw.row PySem.Challenge.rw_basinhouse_k01_truths
abbrev hk : PySem.W.Hook := He.hookX 5 fa fn ts tf ex
def ob (s : PySem.W.SharedT) : He.AlX := He.obsX 5 fa fn ts tf ex (HandSHeadRun.getT s)
theorem ob_eq (s : PySem.W.SharedT) : ob s = hk.obs s.abs := He.obsX_eq (HandSHeadRun.getT_eq s)
theorem run0 (w : World) : HandSHeadRun.RunEq R (PySem.W.view R.prog [38]) hk ob 6000 nms (w.withFollow "special-get-raises" false) := by
  intro os
  kernel_rfl
theorem run1 (w : World) : HandSHeadRun.RunEq R (PySem.W.view R.prog [38]) hk ob 6000 nms (w.withFollow "special-get-raises" true) := by
  intro os
  kernel_rfl
theorem run (w : World) : HandSHeadRun.RunEq R (PySem.W.view R.prog [38]) hk ob 6000 nms w :=
  PySem.W.byRow2 "special-get-raises" (P := fun w => HandSHeadRun.RunEq R (PySem.W.view R.prog [38]) hk ob 6000 nms w) run0 run1 w
def clsN : List Str := []
def excN : List Str := []
def Zf (P : Program) (w : World) (K : PySem.W.Frag) (S : List Int) : Zt := ⟨P, w, K, S, fun c => He.ga K (clsN.getD c ""), fun c => He.ga K (excN.getD c ""), []⟩

structure Lv (P : Program) (w : World) (K : PySem.W.Frag) (mg : Str → Option Value) (base : Heap) (S : List Int) (n k : Nat) : Prop where
  l0 : FnAt P w K mg base (Zf P w K S) d0 ps0 n (callN (Gp S) fuel k 0)
  l1 : FnAt P w K mg base (Zf P w K S) d1 ps1 n (callN (Gp S) fuel k 1)
  l2 : FnAt P w K mg base (Zf P w K S) d2 ps2 n (callN (Gp S) fuel k 2)
  l3 : FnAt P w K mg base (Zf P w K S) d3 ps3 n (callN (Gp S) fuel k 3)
  l4 : FnAt P w K mg base (Zf P w K S) d4 ps4 n (callN (Gp S) fuel k 4)
  l5 : FnAt P w K mg base (Zf P w K S) d5 ps5 n (callN (Gp S) fuel k 5)
  l6 : FnAt P w K mg base (Zf P w K S) d6 ps6 n (callN (Gp S) fuel k 6)
  l7 : FnAt P w K mg base (Zf P w K S) d7 ps7 n (callN (Gp S) fuel k 7)
  l8 : FnAt P w K mg base (Zf P w K S) d8 ps8 n (callN (Gp S) fuel k 8)
  l9 : FnAt P w K mg base (Zf P w K S) d9 ps9 n (callN (Gp S) fuel k 9)
  l10 : FnAt P w K mg base (Zf P w K S) d10 ps10 n (callN (Gp S) fuel k 10)
  l11 : FnAt P w K mg base (Zf P w K S) d11 ps11 n (callN (Gp S) fuel k 11)
  l12 : FnAt P w K mg base (Zf P w K S) d12 ps12 n (callN (Gp S) fuel k 12)
  l13 : FnAt P w K mg base (Zf P w K S) d13 ps13 n (callN (Gp S) fuel k 13)
section
variable {P : Program} {w : World} {K : PySem.W.Frag} {mg : Str → Option Value} {base : Heap} {S : List Int} {h : Heap} {n k : Nat} {A : Around}
theorem sc0 : FnScope N0 ps0 (defScope (top 8)) := ⟨rfl, rfl, rfl, by decide +kernel, rfl, by decide +kernel, by decide +kernel⟩
theorem sc1 : FnScope N1 ps1 (defScope (top 9)) := ⟨rfl, rfl, rfl, by decide +kernel, rfl, by decide +kernel, by decide +kernel⟩
theorem sc2 : FnScope N2 ps2 (defScope (top 10)) := ⟨rfl, rfl, rfl, by decide +kernel, rfl, by decide +kernel, by decide +kernel⟩
theorem sc3 : FnScope N3 ps3 (defScope (top 26)) := ⟨rfl, rfl, rfl, by decide +kernel, rfl, by decide +kernel, by decide +kernel⟩
theorem sc4 : FnScope N4 ps4 (defScope (top 27)) := ⟨rfl, rfl, rfl, by decide +kernel, rfl, by decide +kernel, by decide +kernel⟩
theorem sc5 : FnScope N5 ps5 (defScope (top 28)) := ⟨rfl, rfl, rfl, by decide +kernel, rfl, by decide +kernel, by decide +kernel⟩
theorem sc6 : FnScope N6 ps6 (defScope (top 30)) := ⟨rfl, rfl, rfl, by decide +kernel, rfl, by decide +kernel, by decide +kernel⟩
theorem sc7 : FnScope N7 ps7 (defScope (top 31)) := ⟨rfl, rfl, rfl, by decide +kernel, rfl, by decide +kernel, by decide +kernel⟩
theorem sc8 : FnScope N8 ps8 (defScope (top 32)) := ⟨rfl, rfl, rfl, by decide +kernel, rfl, by decide +kernel, by decide +kernel⟩
theorem sc9 : FnScope N9 ps9 (defScope (top 33)) := ⟨rfl, rfl, rfl, by decide +kernel, rfl, by decide +kernel, by decide +kernel⟩
theorem sc10 : FnScope N10 ps10 (defScope (top 34)) := ⟨rfl, rfl, rfl, by decide +kernel, rfl, by decide +kernel, by decide +kernel⟩
theorem sc11 : FnScope N11 ps11 (defScope (top 35)) := ⟨rfl, rfl, rfl, by decide +kernel, rfl, by decide +kernel, by decide +kernel⟩
theorem sc12 : FnScope N12 ps12 (defScope (top 36)) := ⟨rfl, rfl, rfl, by decide +kernel, rfl, by decide +kernel, by decide +kernel⟩
theorem sc13 : FnScope N13 ps13 (defScope (top 37)) := ⟨rfl, rfl, rfl, by decide +kernel, rfl, by decide +kernel, by decide +kernel⟩
theorem sc14 : FnScope N14 ps14 (defScope (top 38)) := ⟨rfl, rfl, rfl, by decide +kernel, rfl, by decide +kernel, by decide +kernel⟩
theorem bi0_0 (fd : FuncData) (F : FunD K d0.name d0.qual d0.params d0.body d0.scope (d0.dvs K) (d0.kws K) (He.fAd K d0.at_) fd) : Fills K (Zf P w K S) fd ps0 [] := fill_n F fun _ _ _ _ _ _ us hl => match us, hl with | [_, _, _], _ => rfl
theorem bi1_0 (fd : FuncData) (F : FunD K d1.name d1.qual d1.params d1.body d1.scope (d1.dvs K) (d1.kws K) (He.fAd K d1.at_) fd) : Fills K (Zf P w K S) fd ps1 [] := fill_n F fun _ _ _ _ _ _ us hl => match us, hl with | [_], _ => rfl
theorem bi2_0 (fd : FuncData) (F : FunD K d2.name d2.qual d2.params d2.body d2.scope (d2.dvs K) (d2.kws K) (He.fAd K d2.at_) fd) : Fills K (Zf P w K S) fd ps2 [] := fill_n F fun _ _ _ _ _ _ us hl => match us, hl with | [_], _ => rfl
theorem bi3_0 (fd : FuncData) (F : FunD K d3.name d3.qual d3.params d3.body d3.scope (d3.dvs K) (d3.kws K) (He.fAd K d3.at_) fd) : Fills K (Zf P w K S) fd ps3 [] := fill_n F fun _ _ _ _ _ _ us hl => match us, hl with | [_, _], _ => rfl
theorem bi4_0 (fd : FuncData) (F : FunD K d4.name d4.qual d4.params d4.body d4.scope (d4.dvs K) (d4.kws K) (He.fAd K d4.at_) fd) : Fills K (Zf P w K S) fd ps4 [] := fill_n F fun _ _ _ _ _ _ us hl => match us, hl with | [_], _ => rfl
theorem bi5_0 (fd : FuncData) (F : FunD K d5.name d5.qual d5.params d5.body d5.scope (d5.dvs K) (d5.kws K) (He.fAd K d5.at_) fd) : Fills K (Zf P w K S) fd ps5 [] := fill_n F fun _ _ _ _ _ _ us hl => match us, hl with | [_], _ => rfl
theorem bi6_0 (fd : FuncData) (F : FunD K d6.name d6.qual d6.params d6.body d6.scope (d6.dvs K) (d6.kws K) (He.fAd K d6.at_) fd) : Fills K (Zf P w K S) fd ps6 [] := fill_n F fun _ _ _ _ _ _ us hl => match us, hl with | [_, _, _], _ => rfl
theorem bi7_0 (fd : FuncData) (F : FunD K d7.name d7.qual d7.params d7.body d7.scope (d7.dvs K) (d7.kws K) (He.fAd K d7.at_) fd) : Fills K (Zf P w K S) fd ps7 [] := fill_n F fun _ _ _ _ _ _ us hl => match us, hl with | [_, _], _ => rfl
theorem bi8_0 (fd : FuncData) (F : FunD K d8.name d8.qual d8.params d8.body d8.scope (d8.dvs K) (d8.kws K) (He.fAd K d8.at_) fd) : Fills K (Zf P w K S) fd ps8 [] := fill_n F fun _ _ _ _ _ _ us hl => match us, hl with | [_, _], _ => rfl
theorem bi9_0 (fd : FuncData) (F : FunD K d9.name d9.qual d9.params d9.body d9.scope (d9.dvs K) (d9.kws K) (He.fAd K d9.at_) fd) : Fills K (Zf P w K S) fd ps9 [] := fill_n F fun _ _ _ _ _ _ us hl => match us, hl with | [_, _, _], _ => rfl
theorem bi10_0 (fd : FuncData) (F : FunD K d10.name d10.qual d10.params d10.body d10.scope (d10.dvs K) (d10.kws K) (He.fAd K d10.at_) fd) : Fills K (Zf P w K S) fd ps10 [] := fill_n F fun _ _ _ _ _ _ us hl => match us, hl with | [_, _], _ => rfl
theorem bi11_0 (fd : FuncData) (F : FunD K d11.name d11.qual d11.params d11.body d11.scope (d11.dvs K) (d11.kws K) (He.fAd K d11.at_) fd) : Fills K (Zf P w K S) fd ps11 [] := fill_n F fun _ _ _ _ _ _ us hl => match us, hl with | [_, _], _ => rfl
theorem bi12_0 (fd : FuncData) (F : FunD K d12.name d12.qual d12.params d12.body d12.scope (d12.dvs K) (d12.kws K) (He.fAd K d12.at_) fd) : Fills K (Zf P w K S) fd ps12 [] := fill_n F fun _ _ _ _ _ _ us hl => match us, hl with | [_, _, _], _ => rfl
theorem bi13_0 (fd : FuncData) (F : FunD K d13.name d13.qual d13.params d13.body d13.scope (d13.dvs K) (d13.kws K) (He.fAd K d13.at_) fd) : Fills K (Zf P w K S) fd ps13 [] := fill_n F fun _ _ _ _ _ _ us hl => match us, hl with | [_, _, _], _ => rfl
theorem fr_of (X : K.In h) (Gn : h.Ns mainGlobals mg) (c : He.SaysD fa fn K) : Frs mg := ⟨He.free_ok X Gn (c.fact 15 (f := .free "isinstance") rfl), He.free_ok X Gn (c.fact 16 (f := .free "len") rfl), He.free_ok X Gn (c.fact 17 (f := .free "all") rfl), He.free_ok X Gn (c.fact 18 (f := .free "any") rfl), He.free_ok X Gn (c.fact 19 (f := .free "sum") rfl), He.free_ok X Gn (c.fact 20 (f := .free "min") rfl), He.free_ok X Gn (c.fact 21 (f := .free "max") rfl), He.free_ok X Gn (c.fact 22 (f := .free "sorted") rfl), He.free_ok X Gn (c.fact 23 (f := .free "range") rfl), He.free_ok X Gn (c.fact 24 (f := .free "zip") rfl), He.free_ok X Gn (c.fact 25 (f := .free "enumerate") rfl), He.free_ok X Gn (c.fact 26 (f := .free "abs") rfl), He.free_ok X Gn (c.fact 27 (f := .free "list") rfl), He.free_ok X Gn (c.fact 28 (f := .free "dict") rfl), He.free_ok X Gn (c.fact 29 (f := .free "tuple") rfl), He.free_ok X Gn (c.fact 30 (f := .free "str") rfl), He.free_ok X Gn (c.fact 31 (f := .free "int") rfl), He.free_ok X Gn (c.fact 32 (f := .free "set") rfl), He.free_ok X Gn (c.fact 33 (f := .free "bool") rfl)⟩
theorem en_of (X : K.In h) (Gn : h.Ns mainGlobals mg) (c : He.SaysD fa fn K) (hx : (ex K = true ∧ He.SaysT fa fn ts w K)) (hr : Room (k + 1) A) (v : Lv P w K mg base S (k + 1) k) (v1 : Lv P w K mg base S k (k - 1)) : En P w K mg base A (Zf P w K S) (Gp S) (callN (Gp S) fuel k) (callN (Gp S) fuel (k - 1)) where
  fr := fr_of X Gn c
  c0_0 := v.l0.calG (He.glo_ok X Gn (c.fact 0 (f := .glo "is_whole") rfl)) hr (bi0_0 (P := P) (w := w) (S := S))
  g_LAST_DAY := con_int (i := 9999) (by kernel_rfl) (He.int_ok X Gn (c.fact 34 (f := .int "LAST_DAY" 9999) rfl))
  g_SMALL := con_str (z := "abcdefghijklmnopqrstuvwxyz") (by kernel_rfl) (He.str_ok X Gn (c.fact 35 (f := .str "SMALL" "abcdefghijklmnopqrstuvwxyz") rfl))
  d_RANGES := tabOk_of (He.glo_ok X Gn (c.fact 43 (f := .glo "RANGES") rfl)) (saysT_dic hx.2 1) (He.ba hx.1).2
  g_BELOW := con_str (z := "below") (by kernel_rfl) (He.str_ok X Gn (c.fact 36 (f := .str "BELOW" "below") rfl))
  c2_0 := v.l2.calG (He.glo_ok X Gn (c.fact 2 (f := .glo "is_name") rfl)) hr (bi2_0 (P := P) (w := w) (S := S))
  g_NOWHERE := con_str (z := "-") (by kernel_rfl) (He.str_ok X Gn (c.fact 37 (f := .str "NOWHERE" "-") rfl))
  g_NAME := con_str (z := "name") (by kernel_rfl) (He.str_ok X Gn (c.fact 38 (f := .str "NAME" "name") rfl))
  g_DAY := con_str (z := "day") (by kernel_rfl) (He.str_ok X Gn (c.fact 39 (f := .str "DAY" "day") rfl))
  c1_0 := v.l1.calG (He.glo_ok X Gn (c.fact 1 (f := .glo "is_day") rfl)) hr (bi1_0 (P := P) (w := w) (S := S))
  c3_0 := v.l3.calG (He.glo_ok X Gn (c.fact 3 (f := .glo "is_part") rfl)) hr (bi3_0 (P := P) (w := w) (S := S))
  d_PARTS := tabOk_of (He.glo_ok X Gn (c.fact 42 (f := .glo "PARTS") rfl)) (saysT_dic hx.2 0) (He.ba (He.ba hx.1).1).2
  c4_0 := v.l4.calG (He.glo_ok X Gn (c.fact 4 (f := .glo "is_plain") rfl)) hr (bi4_0 (P := P) (w := w) (S := S))
  g_MOST_DEEP := con_int (i := 3) (by kernel_rfl) (He.int_ok X Gn (c.fact 40 (f := .int "MOST_DEEP" 3) rfl))
  g_VOID := con_str (z := "void") (by kernel_rfl) (He.str_ok X Gn (c.fact 41 (f := .str "VOID" "void") rfl))
  c6_0 := v.l6.calG (He.glo_ok X Gn (c.fact 6 (f := .glo "_law_drawn") rfl)) hr (bi6_0 (P := P) (w := w) (S := S))
  c8_0 := v.l8.calG (He.glo_ok X Gn (c.fact 8 (f := .glo "_law_place") rfl)) hr (bi8_0 (P := P) (w := w) (S := S))
  c9_0 := v.l9.calG (He.glo_ok X Gn (c.fact 9 (f := .glo "_law_right") rfl)) hr (bi9_0 (P := P) (w := w) (S := S))
  c7_0 := v.l7.calG (He.glo_ok X Gn (c.fact 7 (f := .glo "_law_day") rfl)) hr (bi7_0 (P := P) (w := w) (S := S))
  c11_0 := v.l11.calG (He.glo_ok X Gn (c.fact 11 (f := .glo "_law_truth") rfl)) hr (bi11_0 (P := P) (w := w) (S := S))
  c10_0 := v.l10.calG (He.glo_ok X Gn (c.fact 10 (f := .glo "_law_base") rfl)) hr (bi10_0 (P := P) (w := w) (S := S))
  c12_0 := v.l12.calG (He.glo_ok X Gn (c.fact 12 (f := .glo "_law_truths") rfl)) hr (bi12_0 (P := P) (w := w) (S := S))
  c5_0 := v.l5.calG (He.glo_ok X Gn (c.fact 5 (f := .glo "is_truth") rfl)) hr (bi5_0 (P := P) (w := w) (S := S))
  c13_0 := v.l13.calG (He.glo_ok X Gn (c.fact 13 (f := .glo "_law_all_truths") rfl)) hr (bi13_0 (P := P) (w := w) (S := S))
theorem lv0 (c : He.SaysD fa fn K) (n : Nat) : Lv P w K mg base S n 0 where
  l0 := by obtain ⟨fd, F⟩ := c.def_ 0 (d := d0) rfl; exact ⟨fd, F, fn_bad fun _ _ => rfl⟩
  l1 := by obtain ⟨fd, F⟩ := c.def_ 1 (d := d1) rfl; exact ⟨fd, F, fn_bad fun _ _ => rfl⟩
  l2 := by obtain ⟨fd, F⟩ := c.def_ 2 (d := d2) rfl; exact ⟨fd, F, fn_bad fun _ _ => rfl⟩
  l3 := by obtain ⟨fd, F⟩ := c.def_ 3 (d := d3) rfl; exact ⟨fd, F, fn_bad fun _ _ => rfl⟩
  l4 := by obtain ⟨fd, F⟩ := c.def_ 4 (d := d4) rfl; exact ⟨fd, F, fn_bad fun _ _ => rfl⟩
  l5 := by obtain ⟨fd, F⟩ := c.def_ 5 (d := d5) rfl; exact ⟨fd, F, fn_bad fun _ _ => rfl⟩
  l6 := by obtain ⟨fd, F⟩ := c.def_ 6 (d := d6) rfl; exact ⟨fd, F, fn_bad fun _ _ => rfl⟩
  l7 := by obtain ⟨fd, F⟩ := c.def_ 7 (d := d7) rfl; exact ⟨fd, F, fn_bad fun _ _ => rfl⟩
  l8 := by obtain ⟨fd, F⟩ := c.def_ 8 (d := d8) rfl; exact ⟨fd, F, fn_bad fun _ _ => rfl⟩
  l9 := by obtain ⟨fd, F⟩ := c.def_ 9 (d := d9) rfl; exact ⟨fd, F, fn_bad fun _ _ => rfl⟩
  l10 := by obtain ⟨fd, F⟩ := c.def_ 10 (d := d10) rfl; exact ⟨fd, F, fn_bad fun _ _ => rfl⟩
  l11 := by obtain ⟨fd, F⟩ := c.def_ 11 (d := d11) rfl; exact ⟨fd, F, fn_bad fun _ _ => rfl⟩
  l12 := by obtain ⟨fd, F⟩ := c.def_ 12 (d := d12) rfl; exact ⟨fd, F, fn_bad fun _ _ => rfl⟩
  l13 := by obtain ⟨fd, F⟩ := c.def_ 13 (d := d13) rfl; exact ⟨fd, F, fn_bad fun _ _ => rfl⟩
/-- what is told of the tables of the code objects -/
def TabsB (w : World) (K : PySem.W.Frag) (mg : Str → Option Value) (base : Heap) : Prop := (∀ p ∈ tf.map (He.cT K), LamX.TabB base mg p.1 p.2) ∧ (ex K = true ∧ He.SaysT fa fn ts w K)
theorem lv1 (X : K.In h) (Gn : h.Ns mainGlobals mg) (c : He.SaysD fa fn K) (t : TabsB w K mg base) (v : Lv P w K mg base S (k + 1) k) (v1 : Lv P w K mg base S k (k - 1)) : Lv P w K mg base S (k + 2) (k + 1) where
  l0 := by
    obtain ⟨fd, F⟩ := c.def_ 0 (d := d0) rfl
    exact ⟨fd, F, fn_mp (k := k + 1) (d := df_is_whole) (N := N0) F sc0 ⟨rfl, rfl, rfl⟩ rfl rfl rfl (fun ws M => callN_succ (Gp S) fuel k 0 ws M) fun cdv hcv A outer s H E hr kx po => b0 kx po (en_of X Gn c t.2 hr v v1)⟩
  l1 := by
    obtain ⟨fd, F⟩ := c.def_ 1 (d := d1) rfl
    exact ⟨fd, F, fn_mp (k := k + 1) (d := df_is_day) (N := N1) F sc1 ⟨rfl, rfl, rfl⟩ rfl rfl rfl (fun ws M => callN_succ (Gp S) fuel k 1 ws M) fun cdv hcv A outer s H E hr kx po => b1 kx po (en_of X Gn c t.2 hr v v1)⟩
  l2 := by
    obtain ⟨fd, F⟩ := c.def_ 2 (d := d2) rfl
    exact ⟨fd, F, fn_mp (k := k + 1) (d := df_is_name) (N := N2) F sc2 ⟨rfl, rfl, rfl⟩ rfl rfl rfl (fun ws M => callN_succ (Gp S) fuel k 2 ws M) fun cdv hcv A outer s H E hr kx po => b2 kx po (en_of X Gn c t.2 hr v v1)⟩
  l3 := by
    obtain ⟨fd, F⟩ := c.def_ 3 (d := d3) rfl
    exact ⟨fd, F, fn_mp (k := k + 1) (d := df_is_part) (N := N3) F sc3 ⟨rfl, rfl, rfl⟩ rfl rfl rfl (fun ws M => callN_succ (Gp S) fuel k 3 ws M) fun cdv hcv A outer s H E hr kx po => b3 kx po (en_of X Gn c t.2 hr v v1)⟩
  l4 := by
    obtain ⟨fd, F⟩ := c.def_ 4 (d := d4) rfl
    exact ⟨fd, F, fn_mp (k := k + 1) (d := df_is_plain) (N := N4) F sc4 ⟨rfl, rfl, rfl⟩ rfl rfl rfl (fun ws M => callN_succ (Gp S) fuel k 4 ws M) fun cdv hcv A outer s H E hr kx po => b4 kx po (en_of X Gn c t.2 hr v v1)⟩
  l5 := by
    obtain ⟨fd, F⟩ := c.def_ 5 (d := d5) rfl
    exact ⟨fd, F, fn_mp (k := k + 1) (d := df_is_truth) (N := N5) F sc5 ⟨rfl, rfl, rfl⟩ rfl rfl rfl (fun ws M => callN_succ (Gp S) fuel k 5 ws M) fun cdv hcv A outer s H E hr kx po => b5 kx po (en_of X Gn c t.2 hr v v1)⟩
  l6 := by
    obtain ⟨fd, F⟩ := c.def_ 6 (d := d6) rfl
    exact ⟨fd, F, fn_mp (k := k + 1) (d := df__law_drawn) (N := N6) F sc6 ⟨rfl, rfl, rfl⟩ rfl rfl rfl (fun ws M => callN_succ (Gp S) fuel k 6 ws M) fun cdv hcv A outer s H E hr kx po => b6 kx po (en_of X Gn c t.2 hr v v1)⟩
  l7 := by
    obtain ⟨fd, F⟩ := c.def_ 7 (d := d7) rfl
    exact ⟨fd, F, fn_mp (k := k + 1) (d := df__law_day) (N := N7) F sc7 ⟨rfl, rfl, rfl⟩ rfl rfl rfl (fun ws M => callN_succ (Gp S) fuel k 7 ws M) fun cdv hcv A outer s H E hr kx po => b7 kx po (en_of X Gn c t.2 hr v v1)⟩
  l8 := by
    obtain ⟨fd, F⟩ := c.def_ 8 (d := d8) rfl
    exact ⟨fd, F, fn_mp (k := k + 1) (d := df__law_place) (N := N8) F sc8 ⟨rfl, rfl, rfl⟩ rfl rfl rfl (fun ws M => callN_succ (Gp S) fuel k 8 ws M) fun cdv hcv A outer s H E hr kx po => b8 kx po (en_of X Gn c t.2 hr v v1)⟩
  l9 := by
    obtain ⟨fd, F⟩ := c.def_ 9 (d := d9) rfl
    exact ⟨fd, F, fn_mp (k := k + 1) (d := df__law_right) (N := N9) F sc9 ⟨rfl, rfl, rfl⟩ rfl rfl rfl (fun ws M => callN_succ (Gp S) fuel k 9 ws M) fun cdv hcv A outer s H E hr kx po => b9 kx po (en_of X Gn c t.2 hr v v1)⟩
  l10 := by
    obtain ⟨fd, F⟩ := c.def_ 10 (d := d10) rfl
    exact ⟨fd, F, fn_mp (k := k + 1) (d := df__law_base) (N := N10) F sc10 ⟨rfl, rfl, rfl⟩ rfl rfl rfl (fun ws M => callN_succ (Gp S) fuel k 10 ws M) fun cdv hcv A outer s H E hr kx po => b10 kx po (en_of X Gn c t.2 hr v v1)⟩
  l11 := by
    obtain ⟨fd, F⟩ := c.def_ 11 (d := d11) rfl
    exact ⟨fd, F, fn_mp (k := k + 1) (d := df__law_truth) (N := N11) F sc11 ⟨rfl, rfl, rfl⟩ rfl rfl rfl (fun ws M => callN_succ (Gp S) fuel k 11 ws M) fun cdv hcv A outer s H E hr kx po => b11 kx po (en_of X Gn c t.2 hr v v1)⟩
  l12 := by
    obtain ⟨fd, F⟩ := c.def_ 12 (d := d12) rfl
    exact ⟨fd, F, fn_mp (k := k + 1) (d := df__law_truths) (N := N12) F sc12 ⟨rfl, rfl, rfl⟩ rfl rfl rfl (fun ws M => callN_succ (Gp S) fuel k 12 ws M) fun cdv hcv A outer s H E hr kx po => b12 kx po (en_of X Gn c t.2 hr v v1)⟩
  l13 := by
    obtain ⟨fd, F⟩ := c.def_ 13 (d := d13) rfl
    exact ⟨fd, F, fn_mp (k := k + 1) (d := df__law_all_truths) (N := N13) F sc13 ⟨rfl, rfl, rfl⟩ rfl rfl rfl (fun ws M => callN_succ (Gp S) fuel k 13 ws M) fun cdv hcv A outer s H E hr kx po => b13 kx po (en_of X Gn c t.2 hr v v1)⟩
theorem lvs (X : K.In h) (Gn : h.Ns mainGlobals mg) (c : He.SaysD fa fn K) (t : TabsB w K mg base) : ∀ k : Nat, Lv P w K mg base S (k + 1) k ∧ Lv P w K mg base S k (k - 1)
  | 0 => ⟨lv0 c 1, lv0 c 0⟩
  | k + 1 => ⟨lv1 X Gn c t (lvs X Gn c t k).1 (lvs X Gn c t k).2, (lvs X Gn c t k).1⟩
end
theorem facts {P : Program} {w : World} {K : PySem.W.Frag} {h : Heap} {mg : Str → Option Value} {f : Addr} (X : K.In h) (Gn : h.Ns mainGlobals mg) (hfa : mg ("law" : Str) = some (.ref f)) (c : He.SaysD fa fn K) (cx : (ex K = true ∧ He.SaysT fa fn ts w K)) :
    ∃ fd : FuncData, (∀ (s : Shared) (v : Value), BindsTo s fd ⟨[v], []⟩ [("script", v)]) ∧ ∀ base : Heap, K.In base → base.Ns mainGlobals mg → (∀ p ∈ tf.map (He.cT K), LamX.TabB base mg p.1 p.2) → ∀ S : List Int, FnG P w K mg base 11 f fd ["script"] (spL (Zf P w K S) (callN (Gp S) fuel 10 14)) := by
  obtain ⟨fd, F⟩ := c.def_ 14 (d := d14) rfl
  have e := hfa.symm.trans (He.glo_ok X Gn (c.fact 14 (f := .glo "law") rfl))
  cases e
  have b := FunD.bindsA (ps := ["script"]) F fun _ _ _ _ _ _ us hl => match us, hl with | [_], _ => rfl
  refine ⟨fd, fun s v => b s [v] rfl, fun base KB GB TB S => ?_⟩
  obtain ⟨v, v1⟩ := lvs (P := P) (w := w) (base := base) (S := S) X Gn c ⟨TB, cx⟩ 9
  exact fn_law (k := 10) (d := df_law) (N := N14) F sc14 ⟨rfl, rfl, rfl⟩ rfl rfl rfl rfl (fun ws M => callN_succ (Gp S) fuel 9 14 ws M) fun cdv A outer s H E hr kx po => b14 kx po (en_of (k := 9) X Gn c cx hr v v1)
end Bh
open PySem PySem.W PySem.Calls PyProof.Rows in
theorem Bh.holds_of (hm : ∀ S : List Int, S.length ≤ 63 → (∀ z ∈ S, Builtin.Int.intBits z ≤ 1048576) → ∃ M, MP.callN (Bh.Gp S) Bh.fuel 10 Bh.ix_law [.scr] [] = .ok (.bl true) M) : PySem.Challenge.rw_basinhouse_k01_truths.Holds := by
  w_on; o_law
  refine HandSHeadRun.head_any (r := OpenLaw.row PySem.Challenge.rw_basinhouse_k01_truths) (q := view (OpenLaw.row PySem.Challenge.rw_basinhouse_k01_truths).prog [38]) (H := Bh.hk) (ob := Bh.ob) (M := 6000) (loose := Bh.nms) (d := HandSHeadRun.topDef (OpenLaw.row PySem.Challenge.rw_basinhouse_k01_truths).prog 38) (kwd := []) Bh.ob_eq
    (by kernel_rfl) (fun s => by kernel_rfl) Bh.run (by kernel_rfl) (by kernel_rfl) (by kernel_rfl) (by rfl) (by first | assumption | decide +kernel) (by decide +kernel) ⟨rfl, rfl, rfl, rfl, rfl, by decide +kernel⟩ ?hw ?hc
  case hw => w_witness2
  case hc =>
    refine MP.walkG (l := PySem.Challenge.rw_basinhouse_k01_truths) (n := 63) (k := 11) rfl (by decide) (by kernel_rfl) ⟨rfl, by decide, by decide⟩ ?F
    intro w mg fa h Y G hmg0
    obtain ⟨K, KX, c⟩ := Y
    have hmg : mg ("law" : PySem.Str) = some (.ref fa) := by
      have e : (HandSHeadRun.topDef (OpenLaw.row PySem.Challenge.rw_basinhouse_k01_truths).prog 38).name = ("law" : PySem.Str) := by kernel_rfl
      rw [← e]
      exact hmg0
    obtain ⟨fd, hb, hF⟩ := Bh.facts (P := (PySem.Challenge.rw_basinhouse_k01_truths).prog) (w := w) KX G hmg c.t.d ⟨c.more, c.t⟩
    exact ⟨K, KX, MP.law_at (Fc := fun S => MP.callN (Bh.Gp S) Bh.fuel 10 14) (Zs := fun S => Bh.Zf _ w K S) KX c hm (fun S => ⟨rfl, rfl, fun p hp => by cases hp⟩) hb hF⟩
end
section
set_option Elab.async false
set_option linter.all false
set_option maxRecDepth 100000
set_option maxHeartbeats 0
namespace Bh
open PySem MP
theorem sat_eqL {α : Type} {x : Out α} {v : α} {M : Mem} (h : x.sat fun a M' => a = v ∧ M <+: M') : ∃ L, x = .ok v (M ++ L) := by
  obtain ⟨a, M', e, rfl, ⟨L, rfl⟩⟩ := sat_ex h
  exact ⟨L, e⟩
theorem sat_eq {α : Type} {x : Out α} {v : α} {M : Mem} (h : x.sat fun a M' => a = v ∧ M' = M) : x = .ok v M := by
  obtain ⟨a, M', e, rfl, rfl⟩ := sat_ex h
  exact e
theorem run_sat {S : List Int} {C C1 : Nat → List Wv → Mem → Out Wv} {d : Df} {ws : List Wv} {M : Mem} {Q : Wv → Mem → Prop} (hn : ws.length = d.npar) (h : (evSl (Gp S) C C1 fuel d.body (ws.map some ++ List.replicate (d.slots - ws.length) none) M).sat fun r M => match r.1 with
    | .ret w => Q w M
    | .nx => Q .non M
    | _ => False) : (runD (Gp S) C C1 fuel d ws M).sat Q := by
  unfold runD
  rw [sat_chk, sat_bind]
  refine ⟨decide_eq_true hn, sat_mono h fun r M h => ?_⟩
  obtain ⟨f, σ⟩ := r
  cases f <;> exact h
theorem drawn_ok (S : List Int) (hl : S.length ≤ 63) (k : Nat) (i many : Int) (hi : 0 ≤ i) (hm : 0 < many) (M : Mem) :
    (callN (Gp S) fuel (k + 1) ix__law_drawn [.scr, .int i, .int many] M).sat fun v M' => M <+: M' ∧ ∃ r : Int, v = .int r ∧ 0 ≤ r ∧ r < many := by
  rw [at__law_drawn]
  refine run_sat rfl ?_
  show (evSl (Gp S) _ _ fuel sl__law_drawn [some .scr, some (.int i), some (.int many), none, none, none] M).sat _
  unfold sl__law_drawn
  simp only [q_nil, q_cons, k_nx, k_ret, k_brk, k_ct, q_asg, q_asgA, q_asgS, q_aug, q_ex, q_ret, q_retN, q_pass, q_brk, q_cont, q_ifs, q_for, q_whl, b_t, b_f, be_t, be_f, ba_t, ba_f, bo_t, bo_f, t_bl, t_int, t_non,     q_var, q_con, q_glb, q_tup, q_lst, q_dict0, q_bin, q_neg, q_not, q_and, q_or, q_ife, q_cmp, q_cmp2, q_attr, q_sub, q_srev, q_call, q_callk, q_meth, q_bm, q_new, q_bi, q_isi, q_lc, q_dc, q_sortk, q_sortv, q_sortvM, q_maxk, q_dict2, q_anil, q_acons, q_ival, q_items, q_vals, q_rng, q_zip, q_cntT, q_tab, q_tnin, q_zipT,     o_add, o_sub, o_mul, o_fdiv, o_mod, o_pow18, o_addT, ag_add, ag_sub, c_lt, c_gt, c_le, c_ge, c_eq, c_ne, c_is, c_isn, c_in, c_nin, u_tup, u_scr, n_scr, n_tup, n_str, n_abs, n_min2, n_max2, tg_nm, tg_2, tg_3, at_0, at_1, at_2, at_3, at_4, i_int, sat_some, getV_0, getV_s,     List.set_cons_zero, List.set_cons_succ, List.map_cons, List.map_nil, List.replicate_succ, List.replicate_zero, List.cons_append, List.nil_append, List.length_cons, List.length_nil]
  refine ⟨mul_l (by decide), len_ok (by decide), _, eqW_scr (at_new M _), ?_⟩
  generalize hK : kont (Gp S) _ _ fuel _ _ = K
  have h1 : ∀ (c : Int) (a b : Option Wv) (M' : Mem), M <+: M' → K (.nx, [some .scr, some (.int i), some (.int many), some (.int c), a, b]) M' := by
    intro c a b M' hp
    rw [← hK]
    simp only [q_nil, q_cons, k_nx, k_ret, k_brk, k_ct, q_asg, q_asgA, q_asgS, q_aug, q_ex, q_ret, q_retN, q_pass, q_brk, q_cont, q_ifs, q_for, q_whl, b_t, b_f, be_t, be_f, ba_t, ba_f, bo_t, bo_f, t_bl, t_int, t_non,     q_var, q_con, q_glb, q_tup, q_lst, q_dict0, q_bin, q_neg, q_not, q_and, q_or, q_ife, q_cmp, q_cmp2, q_attr, q_sub, q_srev, q_call, q_callk, q_meth, q_bm, q_new, q_bi, q_isi, q_lc, q_dc, q_sortk, q_sortv, q_sortvM, q_maxk, q_dict2, q_anil, q_acons, q_ival, q_items, q_vals, q_rng, q_zip, q_cntT, q_tab, q_tnin, q_zipT,     o_add, o_sub, o_mul, o_fdiv, o_mod, o_pow18, o_addT, ag_add, ag_sub, c_lt, c_gt, c_le, c_ge, c_eq, c_ne, c_is, c_isn, c_in, c_nin, u_tup, u_scr, n_scr, n_tup, n_str, n_abs, n_min2, n_max2, tg_nm, tg_2, tg_3, at_0, at_1, at_2, at_3, at_4, i_int, sat_some, getV_0, getV_s,     List.set_cons_zero, List.set_cons_succ, List.map_cons, List.map_nil, List.replicate_succ, List.replicate_zero, List.cons_append, List.nil_append, List.length_cons, List.length_nil]
    have m0 : ∀ z : Int, 0 ≤ z % 2147483563 ∧ z % 2147483563 < 2147483563 := fun z => ⟨Int.emod_nonneg _ (by decide), Int.emod_lt_of_pos _ (by decide)⟩
    have m1 : ∀ z : Int, 0 ≤ z % 2147483399 ∧ z % 2147483399 < 2147483399 := fun z => ⟨Int.emod_nonneg _ (by decide), Int.emod_lt_of_pos _ (by decide)⟩
    refine ⟨by decide, mul_r (by decide), mul_l (by decide), by decide, mul_l ?_, by decide, by decide, mul_l ?_, by decide, by decide, by decide, decide_eq_true hm, hp, _, rfl, Int.emod_nonneg _ (by omega), Int.emod_lt_of_pos _ hm⟩
    · have := m0 (c % 2147483563 * 69069 + 104723 * (i + 1)); omega
    · generalize (c % 2147483563 * 69069 + 104723 * (i + 1)) % 2147483563 = z
      have := m1 (z * z + z / 3); omega
  have h2 : ∀ (r : Int) (σ : Sw) (M' : Mem), M <+: M' → 0 ≤ r → r < many → K (.ret (.int r), σ) M' := by
    intro r σ M' hp h1 h2
    rw [← hK]
    simp only [q_nil, q_cons, k_nx, k_ret, k_brk, k_ct, q_asg, q_asgA, q_asgS, q_aug, q_ex, q_ret, q_retN, q_pass, q_brk, q_cont, q_ifs, q_for, q_whl, b_t, b_f, be_t, be_f, ba_t, ba_f, bo_t, bo_f, t_bl, t_int, t_non,     q_var, q_con, q_glb, q_tup, q_lst, q_dict0, q_bin, q_neg, q_not, q_and, q_or, q_ife, q_cmp, q_cmp2, q_attr, q_sub, q_srev, q_call, q_callk, q_meth, q_bm, q_new, q_bi, q_isi, q_lc, q_dc, q_sortk, q_sortv, q_sortvM, q_maxk, q_dict2, q_anil, q_acons, q_ival, q_items, q_vals, q_rng, q_zip, q_cntT, q_tab, q_tnin, q_zipT,     o_add, o_sub, o_mul, o_fdiv, o_mod, o_pow18, o_addT, ag_add, ag_sub, c_lt, c_gt, c_le, c_ge, c_eq, c_ne, c_is, c_isn, c_in, c_nin, u_tup, u_scr, n_scr, n_tup, n_str, n_abs, n_min2, n_max2, tg_nm, tg_2, tg_3, at_0, at_1, at_2, at_3, at_4, i_int, sat_some, getV_0, getV_s,     List.set_cons_zero, List.set_cons_succ, List.map_cons, List.map_nil, List.replicate_succ, List.replicate_zero, List.cons_append, List.nil_append, List.length_cons, List.length_nil]
    exact ⟨hp, r, rfl, h1, h2⟩
  clear hK
  have hp : M <+: M ++ [Ob.lst []] := List.prefix_append _ _
  cases hS : S with
  | nil =>
    subst hS
    show brS _ _ _ _ false _ _ _ _ _
    simp only [q_nil, q_cons, k_nx, k_ret, k_brk, k_ct, q_asg, q_asgA, q_asgS, q_aug, q_ex, q_ret, q_retN, q_pass, q_brk, q_cont, q_ifs, q_for, q_whl, b_t, b_f, be_t, be_f, ba_t, ba_f, bo_t, bo_f, t_bl, t_int, t_non,     q_var, q_con, q_glb, q_tup, q_lst, q_dict0, q_bin, q_neg, q_not, q_and, q_or, q_ife, q_cmp, q_cmp2, q_attr, q_sub, q_srev, q_call, q_callk, q_meth, q_bm, q_new, q_bi, q_isi, q_lc, q_dc, q_sortk, q_sortv, q_sortvM, q_maxk, q_dict2, q_anil, q_acons, q_ival, q_items, q_vals, q_rng, q_zip, q_cntT, q_tab, q_tnin, q_zipT,     o_add, o_sub, o_mul, o_fdiv, o_mod, o_pow18, o_addT, ag_add, ag_sub, c_lt, c_gt, c_le, c_ge, c_eq, c_ne, c_is, c_isn, c_in, c_nin, u_tup, u_scr, n_scr, n_tup, n_str, n_abs, n_min2, n_max2, tg_nm, tg_2, tg_3, at_0, at_1, at_2, at_3, at_4, i_int, sat_some, getV_0, getV_s,     List.set_cons_zero, List.set_cons_succ, List.map_cons, List.map_nil, List.replicate_succ, List.replicate_zero, List.cons_append, List.nil_append, List.length_cons, List.length_nil]
    exact h1 _ _ _ _ hp
  | cons s0 S0 =>
    rw [← hS]
    have hb : (!(Gp S).S.isEmpty) = true := by rw [hS]; rfl
    rw [hb]
    have hlen : (0 : Int) < (S.length : Int) := by rw [hS]; simp
    have hmod := Int.emod_nonneg i (show (S.length : Int) ≠ 0 by omega)
    have hmod2 := Int.emod_lt_of_pos i hlen
    have hdiv : 0 ≤ i / (S.length : Int) := Int.ediv_nonneg hi (by omega)
    simp only [q_nil, q_cons, k_nx, k_ret, k_brk, k_ct, q_asg, q_asgA, q_asgS, q_aug, q_ex, q_ret, q_retN, q_pass, q_brk, q_cont, q_ifs, q_for, q_whl, b_t, b_f, be_t, be_f, ba_t, ba_f, bo_t, bo_f, t_bl, t_int, t_non,     q_var, q_con, q_glb, q_tup, q_lst, q_dict0, q_bin, q_neg, q_not, q_and, q_or, q_ife, q_cmp, q_cmp2, q_attr, q_sub, q_srev, q_call, q_callk, q_meth, q_bm, q_new, q_bi, q_isi, q_lc, q_dc, q_sortk, q_sortv, q_sortvM, q_maxk, q_dict2, q_anil, q_acons, q_ival, q_items, q_vals, q_rng, q_zip, q_cntT, q_tab, q_tnin, q_zipT,     o_add, o_sub, o_mul, o_fdiv, o_mod, o_pow18, o_addT, ag_add, ag_sub, c_lt, c_gt, c_le, c_ge, c_eq, c_ne, c_is, c_isn, c_in, c_nin, u_tup, u_scr, n_scr, n_tup, n_str, n_abs, n_min2, n_max2, tg_nm, tg_2, tg_3, at_0, at_1, at_2, at_3, at_4, i_int, sat_some, getV_0, getV_s,     List.set_cons_zero, List.set_cons_succ, List.map_cons, List.map_nil, List.replicate_succ, List.replicate_zero, List.cons_append, List.nil_append, List.length_cons, List.length_nil]
    obtain ⟨c, hc⟩ : ∃ c, atI S (i % (S.length : Int)) = some c := by
      obtain ⟨j, hj⟩ := Int.eq_ofNat_of_zero_le hmod
      rw [hj]
      refine ⟨S[j]'(by omega), at_nat (List.getElem?_eq_getElem _)⟩
    refine ⟨decide_eq_true hlen, c, hc, ?_⟩
    have hlen2 : (decide (0 < ((Gp S).S.length : Int)) && decide (((Gp S).S.length : Int) < 2 ^ 200)) = true := by
      show (decide (0 < (S.length : Int)) && decide ((S.length : Int) < 2 ^ 200)) = true
      rw [decide_eq_true hlen, decide_eq_true (by omega)]; rfl
    refine ⟨hlen2, ?_⟩
    have e1 : ((Gp S).S.length : Int) = S.length := rfl
    rw [e1]
    generalize hu : i / (S.length : Int) = turn at *
    generalize hK : kont (Gp S) _ _ fuel _ K = K2
    have h3 : ∀ (a b : Option Wv) (M' : Mem), M <+: M' → K2 (.nx, [some .scr, some (.int i), some (.int many), some (.int c), a, b]) M' := by
      intro a b M' hp
      rw [← hK]
      simp only [q_nil, q_cons, k_nx, k_ret, k_brk, k_ct, q_asg, q_asgA, q_asgS, q_aug, q_ex, q_ret, q_retN, q_pass, q_brk, q_cont, q_ifs, q_for, q_whl, b_t, b_f, be_t, be_f, ba_t, ba_f, bo_t, bo_f, t_bl, t_int, t_non,     q_var, q_con, q_glb, q_tup, q_lst, q_dict0, q_bin, q_neg, q_not, q_and, q_or, q_ife, q_cmp, q_cmp2, q_attr, q_sub, q_srev, q_call, q_callk, q_meth, q_bm, q_new, q_bi, q_isi, q_lc, q_dc, q_sortk, q_sortv, q_sortvM, q_maxk, q_dict2, q_anil, q_acons, q_ival, q_items, q_vals, q_rng, q_zip, q_cntT, q_tab, q_tnin, q_zipT,     o_add, o_sub, o_mul, o_fdiv, o_mod, o_pow18, o_addT, ag_add, ag_sub, c_lt, c_gt, c_le, c_ge, c_eq, c_ne, c_is, c_isn, c_in, c_nin, u_tup, u_scr, n_scr, n_tup, n_str, n_abs, n_min2, n_max2, tg_nm, tg_2, tg_3, at_0, at_1, at_2, at_3, at_4, i_int, sat_some, getV_0, getV_s,     List.set_cons_zero, List.set_cons_succ, List.map_cons, List.map_nil, List.replicate_succ, List.replicate_zero, List.cons_append, List.nil_append, List.length_cons, List.length_nil]
      exact ⟨hlen2, mul_l (by decide), h1 _ _ _ _ hp⟩
    have h4 : ∀ (r : Int) (σ : Sw) (M' : Mem), M <+: M' → 0 ≤ r → r < many → K2 (.ret (.int r), σ) M' := by
      intro r σ M' hp g1 g2
      rw [← hK]
      exact h2 r σ M' hp g1 g2
    clear hK h1 h2
    by_cases hc1 : 1000000000000000000 ≤ c
    · rw [decide_eq_true hc1]
      simp only [q_nil, q_cons, k_nx, k_ret, k_brk, k_ct, q_asg, q_asgA, q_asgS, q_aug, q_ex, q_ret, q_retN, q_pass, q_brk, q_cont, q_ifs, q_for, q_whl, b_t, b_f, be_t, be_f, ba_t, ba_f, bo_t, bo_f, t_bl, t_int, t_non,     q_var, q_con, q_glb, q_tup, q_lst, q_dict0, q_bin, q_neg, q_not, q_and, q_or, q_ife, q_cmp, q_cmp2, q_attr, q_sub, q_srev, q_call, q_callk, q_meth, q_bm, q_new, q_bi, q_isi, q_lc, q_dc, q_sortk, q_sortv, q_sortvM, q_maxk, q_dict2, q_anil, q_acons, q_ival, q_items, q_vals, q_rng, q_zip, q_cntT, q_tab, q_tnin, q_zipT,     o_add, o_sub, o_mul, o_fdiv, o_mod, o_pow18, o_addT, ag_add, ag_sub, c_lt, c_gt, c_le, c_ge, c_eq, c_ne, c_is, c_isn, c_in, c_nin, u_tup, u_scr, n_scr, n_tup, n_str, n_abs, n_min2, n_max2, tg_nm, tg_2, tg_3, at_0, at_1, at_2, at_3, at_4, i_int, sat_some, getV_0, getV_s,     List.set_cons_zero, List.set_cons_succ, List.map_cons, List.map_nil, List.replicate_succ, List.replicate_zero, List.cons_append, List.nil_append, List.length_cons, List.length_nil]
      by_cases hc2 : turn < 60
      · rw [decide_eq_true hc2]
        simp only [q_nil, q_cons, k_nx, k_ret, k_brk, k_ct, q_asg, q_asgA, q_asgS, q_aug, q_ex, q_ret, q_retN, q_pass, q_brk, q_cont, q_ifs, q_for, q_whl, b_t, b_f, be_t, be_f, ba_t, ba_f, bo_t, bo_f, t_bl, t_int, t_non,     q_var, q_con, q_glb, q_tup, q_lst, q_dict0, q_bin, q_neg, q_not, q_and, q_or, q_ife, q_cmp, q_cmp2, q_attr, q_sub, q_srev, q_call, q_callk, q_meth, q_bm, q_new, q_bi, q_isi, q_lc, q_dc, q_sortk, q_sortv, q_sortvM, q_maxk, q_dict2, q_anil, q_acons, q_ival, q_items, q_vals, q_rng, q_zip, q_cntT, q_tab, q_tnin, q_zipT,     o_add, o_sub, o_mul, o_fdiv, o_mod, o_pow18, o_addT, ag_add, ag_sub, c_lt, c_gt, c_le, c_ge, c_eq, c_ne, c_is, c_isn, c_in, c_nin, u_tup, u_scr, n_scr, n_tup, n_str, n_abs, n_min2, n_max2, tg_nm, tg_2, tg_3, at_0, at_1, at_2, at_3, at_4, i_int, sat_some, getV_0, getV_s,     List.set_cons_zero, List.set_cons_succ, List.map_cons, List.map_nil, List.replicate_succ, List.replicate_zero, List.cons_append, List.nil_append, List.length_cons, List.length_nil]
        refine ⟨by decide, ?_⟩
        refine whl_rule (fun m σ M' => ∃ t r : Int, σ = [some .scr, some (.int i), some (.int many), some (.int c), some (.int t), some (.int r)] ∧ 0 ≤ t ∧ m = t.toNat ∧ 0 ≤ r ∧ M' = M ++ [Ob.lst []]) ?_ fuel turn.toNat _ _ ⟨turn, _, rfl, hdiv, rfl, Int.ediv_nonneg (by omega) (by decide), rfl⟩ (by unfold fuel; omega)
        rintro m σ M' ⟨t, r, rfl, ht, rfl, hr, rfl⟩
        simp only [q_nil, q_cons, k_nx, k_ret, k_brk, k_ct, q_asg, q_asgA, q_asgS, q_aug, q_ex, q_ret, q_retN, q_pass, q_brk, q_cont, q_ifs, q_for, q_whl, b_t, b_f, be_t, be_f, ba_t, ba_f, bo_t, bo_f, t_bl, t_int, t_non,     q_var, q_con, q_glb, q_tup, q_lst, q_dict0, q_bin, q_neg, q_not, q_and, q_or, q_ife, q_cmp, q_cmp2, q_attr, q_sub, q_srev, q_call, q_callk, q_meth, q_bm, q_new, q_bi, q_isi, q_lc, q_dc, q_sortk, q_sortv, q_sortvM, q_maxk, q_dict2, q_anil, q_acons, q_ival, q_items, q_vals, q_rng, q_zip, q_cntT, q_tab, q_tnin, q_zipT,     o_add, o_sub, o_mul, o_fdiv, o_mod, o_pow18, o_addT, ag_add, ag_sub, c_lt, c_gt, c_le, c_ge, c_eq, c_ne, c_is, c_isn, c_in, c_nin, u_tup, u_scr, n_scr, n_tup, n_str, n_abs, n_min2, n_max2, tg_nm, tg_2, tg_3, at_0, at_1, at_2, at_3, at_4, i_int, sat_some, getV_0, getV_s,     List.set_cons_zero, List.set_cons_succ, List.map_cons, List.map_nil, List.replicate_succ, List.replicate_zero, List.cons_append, List.nil_append, List.length_cons, List.length_nil]
        by_cases hr0 : 0 < r
        · rw [decide_eq_true hr0]
          simp only [q_nil, q_cons, k_nx, k_ret, k_brk, k_ct, q_asg, q_asgA, q_asgS, q_aug, q_ex, q_ret, q_retN, q_pass, q_brk, q_cont, q_ifs, q_for, q_whl, b_t, b_f, be_t, be_f, ba_t, ba_f, bo_t, bo_f, t_bl, t_int, t_non,     q_var, q_con, q_glb, q_tup, q_lst, q_dict0, q_bin, q_neg, q_not, q_and, q_or, q_ife, q_cmp, q_cmp2, q_attr, q_sub, q_srev, q_call, q_callk, q_meth, q_bm, q_new, q_bi, q_isi, q_lc, q_dc, q_sortk, q_sortv, q_sortvM, q_maxk, q_dict2, q_anil, q_acons, q_ival, q_items, q_vals, q_rng, q_zip, q_cntT, q_tab, q_tnin, q_zipT,     o_add, o_sub, o_mul, o_fdiv, o_mod, o_pow18, o_addT, ag_add, ag_sub, c_lt, c_gt, c_le, c_ge, c_eq, c_ne, c_is, c_isn, c_in, c_nin, u_tup, u_scr, n_scr, n_tup, n_str, n_abs, n_min2, n_max2, tg_nm, tg_2, tg_3, at_0, at_1, at_2, at_3, at_4, i_int, sat_some, getV_0, getV_s,     List.set_cons_zero, List.set_cons_succ, List.map_cons, List.map_nil, List.replicate_succ, List.replicate_zero, List.cons_append, List.nil_append, List.length_cons, List.length_nil]
          refine ⟨_, rfl, fun h => ?_, fun _ => ⟨by decide, decide_eq_true hm, h4 _ _ _ hp (Int.emod_nonneg _ (by omega)) (Int.emod_lt_of_pos _ hm)⟩⟩
          have ht0 := of_decide_eq_true h
          refine ⟨by decide, _, ?_, _, _, rfl, ?_, rfl, Int.ediv_nonneg hr (by decide), trivial⟩ <;> omega
        · rw [decide_eq_false hr0]
          simp only [q_nil, q_cons, k_nx, k_ret, k_brk, k_ct, q_asg, q_asgA, q_asgS, q_aug, q_ex, q_ret, q_retN, q_pass, q_brk, q_cont, q_ifs, q_for, q_whl, b_t, b_f, be_t, be_f, ba_t, ba_f, bo_t, bo_f, t_bl, t_int, t_non,     q_var, q_con, q_glb, q_tup, q_lst, q_dict0, q_bin, q_neg, q_not, q_and, q_or, q_ife, q_cmp, q_cmp2, q_attr, q_sub, q_srev, q_call, q_callk, q_meth, q_bm, q_new, q_bi, q_isi, q_lc, q_dc, q_sortk, q_sortv, q_sortvM, q_maxk, q_dict2, q_anil, q_acons, q_ival, q_items, q_vals, q_rng, q_zip, q_cntT, q_tab, q_tnin, q_zipT,     o_add, o_sub, o_mul, o_fdiv, o_mod, o_pow18, o_addT, ag_add, ag_sub, c_lt, c_gt, c_le, c_ge, c_eq, c_ne, c_is, c_isn, c_in, c_nin, u_tup, u_scr, n_scr, n_tup, n_str, n_abs, n_min2, n_max2, tg_nm, tg_2, tg_3, at_0, at_1, at_2, at_3, at_4, i_int, sat_some, getV_0, getV_s,     List.set_cons_zero, List.set_cons_succ, List.map_cons, List.map_nil, List.replicate_succ, List.replicate_zero, List.cons_append, List.nil_append, List.length_cons, List.length_nil]
          exact ⟨_, rfl, fun h => (by cases h), fun _ => h3 _ _ _ hp⟩
      · rw [decide_eq_false hc2]
        simp only [q_nil, q_cons, k_nx, k_ret, k_brk, k_ct, q_asg, q_asgA, q_asgS, q_aug, q_ex, q_ret, q_retN, q_pass, q_brk, q_cont, q_ifs, q_for, q_whl, b_t, b_f, be_t, be_f, ba_t, ba_f, bo_t, bo_f, t_bl, t_int, t_non,     q_var, q_con, q_glb, q_tup, q_lst, q_dict0, q_bin, q_neg, q_not, q_and, q_or, q_ife, q_cmp, q_cmp2, q_attr, q_sub, q_srev, q_call, q_callk, q_meth, q_bm, q_new, q_bi, q_isi, q_lc, q_dc, q_sortk, q_sortv, q_sortvM, q_maxk, q_dict2, q_anil, q_acons, q_ival, q_items, q_vals, q_rng, q_zip, q_cntT, q_tab, q_tnin, q_zipT,     o_add, o_sub, o_mul, o_fdiv, o_mod, o_pow18, o_addT, ag_add, ag_sub, c_lt, c_gt, c_le, c_ge, c_eq, c_ne, c_is, c_isn, c_in, c_nin, u_tup, u_scr, n_scr, n_tup, n_str, n_abs, n_min2, n_max2, tg_nm, tg_2, tg_3, at_0, at_1, at_2, at_3, at_4, i_int, sat_some, getV_0, getV_s,     List.set_cons_zero, List.set_cons_succ, List.map_cons, List.map_nil, List.replicate_succ, List.replicate_zero, List.cons_append, List.nil_append, List.length_cons, List.length_nil]
        exact h3 _ _ _ hp
    · rw [decide_eq_false hc1]
      simp only [q_nil, q_cons, k_nx, k_ret, k_brk, k_ct, q_asg, q_asgA, q_asgS, q_aug, q_ex, q_ret, q_retN, q_pass, q_brk, q_cont, q_ifs, q_for, q_whl, b_t, b_f, be_t, be_f, ba_t, ba_f, bo_t, bo_f, t_bl, t_int, t_non,     q_var, q_con, q_glb, q_tup, q_lst, q_dict0, q_bin, q_neg, q_not, q_and, q_or, q_ife, q_cmp, q_cmp2, q_attr, q_sub, q_srev, q_call, q_callk, q_meth, q_bm, q_new, q_bi, q_isi, q_lc, q_dc, q_sortk, q_sortv, q_sortvM, q_maxk, q_dict2, q_anil, q_acons, q_ival, q_items, q_vals, q_rng, q_zip, q_cntT, q_tab, q_tnin, q_zipT,     o_add, o_sub, o_mul, o_fdiv, o_mod, o_pow18, o_addT, ag_add, ag_sub, c_lt, c_gt, c_le, c_ge, c_eq, c_ne, c_is, c_isn, c_in, c_nin, u_tup, u_scr, n_scr, n_tup, n_str, n_abs, n_min2, n_max2, tg_nm, tg_2, tg_3, at_0, at_1, at_2, at_3, at_4, i_int, sat_some, getV_0, getV_s,     List.set_cons_zero, List.set_cons_succ, List.map_cons, List.map_nil, List.replicate_succ, List.replicate_zero, List.cons_append, List.nil_append, List.length_cons, List.length_nil]
      exact h3 _ _ _ hp
/-! ### parts of truths -/
/-- a name: its signs are small letters -/
def small : Str := "abcdefghijklmnopqrstuvwxyz"
def nameOk (s : Str) : Bool := decide (1 ≤ s.length) && decide (s.length ≤ 8) && s.cps.toList.all fun c => !(Builtin.Str.occurrences small ⟨#[c]⟩ 0 small.length 1).isEmpty
def OddW (M : Mem) : Wv → Prop
  | .str s => s.length ≤ 100 ∧ PyData.strOk s = true
  | .ref l => ∃ ws, M[l]? = some (.lst ws)
  | .scr => False
  | _ => True
theorem OddW.mono {M M' : Mem} {w : Wv} (h : OddW M w) (p : M <+: M') : OddW M' w := by
  cases w with
  | ref l => obtain ⟨ws, h⟩ := h; exact ⟨ws, pre_get p h⟩
  | scr => exact h
  | str s => exact h
  | _ => trivial
def wholeB (w : Wv) (a b : Int) : Bool := match w with
  | .int i => decide (a ≤ i) && decide (i ≤ b)
  | _ => false
def nameB : Wv → Bool
  | .str s => nameOk s
  | _ => false
def belowB : Wv → Bool
  | .str s => nameOk s || decide (s = ("-" : Str))
  | _ => false
theorem isi_int_no {M : Mem} {w : Wv} (h : OddW M w) (hi : ∀ i, w ≠ .int i) (hb : ∀ z, w ≠ .bl z) : isiW .int w M = some false := by
  cases w with
  | int i => exact absurd rfl (hi i)
  | bl z => exact absurd rfl (hb z)
  | ref l => obtain ⟨ws, h⟩ := h; simp only [isiW, h]
  | scr => exact h.elim
  | _ => rfl
theorem isi_str_no {M : Mem} {w : Wv} (h : OddW M w) (hi : ∀ s, w ≠ .str s) : isiW .str w M = some false := by
  cases w with
  | str s => exact absurd rfl (hi s)
  | ref l => obtain ⟨ws, h⟩ := h; simp only [isiW, h]
  | scr => exact h.elim
  | _ => rfl
theorem isi_tup_no {M : Mem} {w : Wv} (h : OddW M w) (hi : ∀ ws, w ≠ .tup ws) : isiW .tuple w M = some false := by
  cases w with
  | tup ws => exact absurd rfl (hi ws)
  | ref l => obtain ⟨ws, h⟩ := h; simp only [isiW, h]
  | scr => exact h.elim
  | _ => rfl
theorem is_whole_any (S : List Int) (k : Nat) {w : Wv} {M : Mem} (h : OddW M w) (a b : Int) : callN (Gp S) fuel (k + 1) ix_is_whole [w, .int a, .int b] M = .ok (.bl (wholeB w a b)) M := by
  refine sat_eq ?_
  rw [at_is_whole]
  refine run_sat rfl ?_
  show (evSl (Gp S) _ _ fuel sl_is_whole [some w, some (.int a), some (.int b)] M).sat _
  unfold sl_is_whole
  by_cases ci : ∃ i, w = .int i
  · obtain ⟨i, rfl⟩ := ci
    simp only [q_nil, q_cons, k_nx, k_ret, k_brk, k_ct, q_asg, q_asgA, q_asgS, q_aug, q_ex, q_ret, q_retN, q_pass, q_brk, q_cont, q_ifs, q_for, q_whl, b_t, b_f, be_t, be_f, ba_t, ba_f, bo_t, bo_f, t_bl, t_int, t_non,     q_var, q_con, q_glb, q_tup, q_lst, q_dict0, q_bin, q_neg, q_not, q_and, q_or, q_ife, q_cmp, q_cmp2, q_attr, q_sub, q_srev, q_call, q_callk, q_meth, q_bm, q_new, q_bi, q_isi, q_lc, q_dc, q_sortk, q_sortv, q_sortvM, q_maxk, q_dict2, q_anil, q_acons, q_ival, q_items, q_vals, q_rng, q_zip, q_cntT, q_tab, q_tnin, q_zipT,     o_add, o_sub, o_mul, o_fdiv, o_mod, o_pow18, o_addT, ag_add, ag_sub, c_lt, c_gt, c_le, c_ge, c_eq, c_ne, c_is, c_isn, c_in, c_nin, u_tup, u_scr, n_scr, n_tup, n_str, n_abs, n_min2, n_max2, tg_nm, tg_2, tg_3, at_0, at_1, at_2, at_3, at_4, i_int, sat_some, getV_0, getV_s,     List.set_cons_zero, List.set_cons_succ, List.map_cons, List.map_nil, List.replicate_succ, List.replicate_zero, List.cons_append, List.nil_append, List.length_cons, List.length_nil, isi_int, isi_bool, Option.map_some, Bool.not_false]
    unfold wholeB
    by_cases h : a ≤ i
    · rw [decide_eq_true h]; simp [h]
    · rw [decide_eq_false h]; simp [h]
  · by_cases cb : ∃ z, w = .bl z
    · obtain ⟨z, rfl⟩ := cb
      have h1 : ∀ M, isiW .int (.bl z) M = some true := fun _ => rfl
      have h2 : ∀ M, isiW .bool (.bl z) M = some true := fun _ => rfl
      simp only [q_nil, q_cons, k_nx, k_ret, k_brk, k_ct, q_asg, q_asgA, q_asgS, q_aug, q_ex, q_ret, q_retN, q_pass, q_brk, q_cont, q_ifs, q_for, q_whl, b_t, b_f, be_t, be_f, ba_t, ba_f, bo_t, bo_f, t_bl, t_int, t_non,     q_var, q_con, q_glb, q_tup, q_lst, q_dict0, q_bin, q_neg, q_not, q_and, q_or, q_ife, q_cmp, q_cmp2, q_attr, q_sub, q_srev, q_call, q_callk, q_meth, q_bm, q_new, q_bi, q_isi, q_lc, q_dc, q_sortk, q_sortv, q_sortvM, q_maxk, q_dict2, q_anil, q_acons, q_ival, q_items, q_vals, q_rng, q_zip, q_cntT, q_tab, q_tnin, q_zipT,     o_add, o_sub, o_mul, o_fdiv, o_mod, o_pow18, o_addT, ag_add, ag_sub, c_lt, c_gt, c_le, c_ge, c_eq, c_ne, c_is, c_isn, c_in, c_nin, u_tup, u_scr, n_scr, n_tup, n_str, n_abs, n_min2, n_max2, tg_nm, tg_2, tg_3, at_0, at_1, at_2, at_3, at_4, i_int, sat_some, getV_0, getV_s,     List.set_cons_zero, List.set_cons_succ, List.map_cons, List.map_nil, List.replicate_succ, List.replicate_zero, List.cons_append, List.nil_append, List.length_cons, List.length_nil, h1, h2, Option.map_some, Bool.not_true]
      exact ⟨rfl, by first | rfl | trivial⟩
    · simp only [q_nil, q_cons, k_nx, k_ret, k_brk, k_ct, q_asg, q_asgA, q_asgS, q_aug, q_ex, q_ret, q_retN, q_pass, q_brk, q_cont, q_ifs, q_for, q_whl, b_t, b_f, be_t, be_f, ba_t, ba_f, bo_t, bo_f, t_bl, t_int, t_non,     q_var, q_con, q_glb, q_tup, q_lst, q_dict0, q_bin, q_neg, q_not, q_and, q_or, q_ife, q_cmp, q_cmp2, q_attr, q_sub, q_srev, q_call, q_callk, q_meth, q_bm, q_new, q_bi, q_isi, q_lc, q_dc, q_sortk, q_sortv, q_sortvM, q_maxk, q_dict2, q_anil, q_acons, q_ival, q_items, q_vals, q_rng, q_zip, q_cntT, q_tab, q_tnin, q_zipT,     o_add, o_sub, o_mul, o_fdiv, o_mod, o_pow18, o_addT, ag_add, ag_sub, c_lt, c_gt, c_le, c_ge, c_eq, c_ne, c_is, c_isn, c_in, c_nin, u_tup, u_scr, n_scr, n_tup, n_str, n_abs, n_min2, n_max2, tg_nm, tg_2, tg_3, at_0, at_1, at_2, at_3, at_4, i_int, sat_some, getV_0, getV_s,     List.set_cons_zero, List.set_cons_succ, List.map_cons, List.map_nil, List.replicate_succ, List.replicate_zero, List.cons_append, List.nil_append, List.length_cons, List.length_nil, isi_int_no h (fun i e => ci ⟨i, e⟩) (fun z e => cb ⟨z, e⟩), Option.map_some]
      refine ⟨?_, trivial⟩
      cases w with
      | int i => exact absurd ⟨i, rfl⟩ ci
      | _ => rfl
theorem is_name_str (S : List Int) (k : Nat) (s : Str) (M : Mem) (hl : s.length ≤ 100) : ∃ L, callN (Gp S) fuel (k + 1) ix_is_name [.str s] M = .ok (.bl (nameOk s)) (M ++ L) := by
  have hz : 101 ≤ sizeLine := by decide
  refine sat_eqL ?_
  rw [at_is_name]
  refine run_sat rfl ?_
  show (evSl (Gp S) _ _ fuel sl_is_name [some (.str s), none] M).sat _
  unfold sl_is_name
  simp only [q_nil, q_cons, k_nx, k_ret, k_brk, k_ct, q_asg, q_asgA, q_asgS, q_aug, q_ex, q_ret, q_retN, q_pass, q_brk, q_cont, q_ifs, q_for, q_whl, b_t, b_f, be_t, be_f, ba_t, ba_f, bo_t, bo_f, t_bl, t_int, t_non,     q_var, q_con, q_glb, q_tup, q_lst, q_dict0, q_bin, q_neg, q_not, q_and, q_or, q_ife, q_cmp, q_cmp2, q_attr, q_sub, q_srev, q_call, q_callk, q_meth, q_bm, q_new, q_bi, q_isi, q_lc, q_dc, q_sortk, q_sortv, q_sortvM, q_maxk, q_dict2, q_anil, q_acons, q_ival, q_items, q_vals, q_rng, q_zip, q_cntT, q_tab, q_tnin, q_zipT,     o_add, o_sub, o_mul, o_fdiv, o_mod, o_pow18, o_addT, ag_add, ag_sub, c_lt, c_gt, c_le, c_ge, c_eq, c_ne, c_is, c_isn, c_in, c_nin, u_tup, u_scr, n_scr, n_tup, n_str, n_abs, n_min2, n_max2, tg_nm, tg_2, tg_3, at_0, at_1, at_2, at_3, at_4, i_int, sat_some, getV_0, getV_s,     List.set_cons_zero, List.set_cons_succ, List.map_cons, List.map_nil, List.replicate_succ, List.replicate_zero, List.cons_append, List.nil_append, List.length_cons, List.length_nil, isi_str, Option.map_some]
  refine ⟨len_ok (by omega), ?_⟩
  unfold nameOk
  by_cases c1 : 1 ≤ s.length
  · rw [if_pos (decide_eq_true (by omega))]
    by_cases c2 : s.length ≤ 8
    · rw [decide_eq_true (show ((s.length : Nat) : Int) ≤ 8 by omega), decide_eq_true c1, decide_eq_true c2]
      simp only [q_nil, q_cons, k_nx, k_ret, k_brk, k_ct, q_asg, q_asgA, q_asgS, q_aug, q_ex, q_ret, q_retN, q_pass, q_brk, q_cont, q_ifs, q_for, q_whl, b_t, b_f, be_t, be_f, ba_t, ba_f, bo_t, bo_f, t_bl, t_int, t_non,     q_var, q_con, q_glb, q_tup, q_lst, q_dict0, q_bin, q_neg, q_not, q_and, q_or, q_ife, q_cmp, q_cmp2, q_attr, q_sub, q_srev, q_call, q_callk, q_meth, q_bm, q_new, q_bi, q_isi, q_lc, q_dc, q_sortk, q_sortv, q_sortvM, q_maxk, q_dict2, q_anil, q_acons, q_ival, q_items, q_vals, q_rng, q_zip, q_cntT, q_tab, q_tnin, q_zipT,     o_add, o_sub, o_mul, o_fdiv, o_mod, o_pow18, o_addT, ag_add, ag_sub, c_lt, c_gt, c_le, c_ge, c_eq, c_ne, c_is, c_isn, c_in, c_nin, u_tup, u_scr, n_scr, n_tup, n_str, n_abs, n_min2, n_max2, tg_nm, tg_2, tg_3, at_0, at_1, at_2, at_3, at_4, i_int, sat_some, getV_0, getV_s,     List.set_cons_zero, List.set_cons_succ, List.map_cons, List.map_nil, List.replicate_succ, List.replicate_zero, List.cons_append, List.nil_append, List.length_cons, List.length_nil, walkV]
      have e := lc_pure (G := Gp S) (t := .nm 1) (c := evE (Gp S) (callN (Gp S) fuel k) (callN (Gp S) fuel (k - 1)) (.con (.bl true))) (e := evE (Gp S) (callN (Gp S) fuel k) (callN (Gp S) fuel (k - 1)) (.cmp .in_ (.var 1) (.glb "SMALL"))) (ps := []) (σ := [some (.str s), none]) (M := M) (xs := s.cps.toList.map fun c => .str ⟨#[c]⟩)
        (fun _ => true) (fun x => match x with | .str z => .bl (!(Builtin.Str.occurrences small z 0 small.length 1).isEmpty) | _ => .non) rfl (by rw [List.length_map]; exact Nat.le_trans (by show s.length ≤ 8; omega) (Nat.le_trans (by omega) hz)) (fun x hx => by
          obtain ⟨c, hc, rfl⟩ := List.mem_map.mp hx
          refine ⟨[some (.str s), some (.str ⟨#[c]⟩)], rfl, ⟨.bl true, by simp only [evE], rfl⟩, fun _ => sat_eq ?_⟩
          simp only [q_nil, q_cons, k_nx, k_ret, k_brk, k_ct, q_asg, q_asgA, q_asgS, q_aug, q_ex, q_ret, q_retN, q_pass, q_brk, q_cont, q_ifs, q_for, q_whl, b_t, b_f, be_t, be_f, ba_t, ba_f, bo_t, bo_f, t_bl, t_int, t_non,     q_var, q_con, q_glb, q_tup, q_lst, q_dict0, q_bin, q_neg, q_not, q_and, q_or, q_ife, q_cmp, q_cmp2, q_attr, q_sub, q_srev, q_call, q_callk, q_meth, q_bm, q_new, q_bi, q_isi, q_lc, q_dc, q_sortk, q_sortv, q_sortvM, q_maxk, q_dict2, q_anil, q_acons, q_ival, q_items, q_vals, q_rng, q_zip, q_cntT, q_tab, q_tnin, q_zipT,     o_add, o_sub, o_mul, o_fdiv, o_mod, o_pow18, o_addT, ag_add, ag_sub, c_lt, c_gt, c_le, c_ge, c_eq, c_ne, c_is, c_isn, c_in, c_nin, u_tup, u_scr, n_scr, n_tup, n_str, n_abs, n_min2, n_max2, tg_nm, tg_2, tg_3, at_0, at_1, at_2, at_3, at_4, i_int, sat_some, getV_0, getV_s,     List.set_cons_zero, List.set_cons_succ, List.map_cons, List.map_nil, List.replicate_succ, List.replicate_zero, List.cons_append, List.nil_append, List.length_cons, List.length_nil, con_SMALL]
          exact ⟨_, rfl, rfl, trivial⟩)
      refine sat_of e ?_
      have e2 := n_all (Gp S) (M := M ++ [.lst ((((s.cps.toList.map fun c => Wv.str ⟨#[c]⟩).filter fun _ => true).map (fun x => match x with | .str z => Wv.bl (!(Builtin.Str.occurrences small z 0 small.length 1).isEmpty) | _ => .non)))]) M.length (s.cps.toList.map fun c => !(Builtin.Str.occurrences small ⟨#[c]⟩ 0 small.length 1).isEmpty) (by rw [at_new, List.filter_eq_self.mpr (fun _ _ => rfl), List.map_map, List.map_map]; rfl)
      refine sat_of e2 ?_
      refine ⟨?_, List.prefix_append _ _⟩
      rw [List.all_map]
      rfl
    · rw [decide_eq_false (show ¬ ((s.length : Nat) : Int) ≤ 8 by omega), decide_eq_false c2, Bool.and_false]
      simp only [q_nil, q_cons, k_nx, k_ret, k_brk, k_ct, q_asg, q_asgA, q_asgS, q_aug, q_ex, q_ret, q_retN, q_pass, q_brk, q_cont, q_ifs, q_for, q_whl, b_t, b_f, be_t, be_f, ba_t, ba_f, bo_t, bo_f, t_bl, t_int, t_non,     q_var, q_con, q_glb, q_tup, q_lst, q_dict0, q_bin, q_neg, q_not, q_and, q_or, q_ife, q_cmp, q_cmp2, q_attr, q_sub, q_srev, q_call, q_callk, q_meth, q_bm, q_new, q_bi, q_isi, q_lc, q_dc, q_sortk, q_sortv, q_sortvM, q_maxk, q_dict2, q_anil, q_acons, q_ival, q_items, q_vals, q_rng, q_zip, q_cntT, q_tab, q_tnin, q_zipT,     o_add, o_sub, o_mul, o_fdiv, o_mod, o_pow18, o_addT, ag_add, ag_sub, c_lt, c_gt, c_le, c_ge, c_eq, c_ne, c_is, c_isn, c_in, c_nin, u_tup, u_scr, n_scr, n_tup, n_str, n_abs, n_min2, n_max2, tg_nm, tg_2, tg_3, at_0, at_1, at_2, at_3, at_4, i_int, sat_some, getV_0, getV_s,     List.set_cons_zero, List.set_cons_succ, List.map_cons, List.map_nil, List.replicate_succ, List.replicate_zero, List.cons_append, List.nil_append, List.length_cons, List.length_nil]
      exact ⟨by first | rfl | trivial, List.prefix_refl _⟩
  · rw [decide_eq_false (show ¬ (1 : Int) ≤ ((s.length : Nat) : Int) by omega), decide_eq_false c1]
    simp only [Bool.false_eq_true, if_false, q_nil, q_cons, k_nx, k_ret, k_brk, k_ct, q_asg, q_asgA, q_asgS, q_aug, q_ex, q_ret, q_retN, q_pass, q_brk, q_cont, q_ifs, q_for, q_whl, b_t, b_f, be_t, be_f, ba_t, ba_f, bo_t, bo_f, t_bl, t_int, t_non,     q_var, q_con, q_glb, q_tup, q_lst, q_dict0, q_bin, q_neg, q_not, q_and, q_or, q_ife, q_cmp, q_cmp2, q_attr, q_sub, q_srev, q_call, q_callk, q_meth, q_bm, q_new, q_bi, q_isi, q_lc, q_dc, q_sortk, q_sortv, q_sortvM, q_maxk, q_dict2, q_anil, q_acons, q_ival, q_items, q_vals, q_rng, q_zip, q_cntT, q_tab, q_tnin, q_zipT,     o_add, o_sub, o_mul, o_fdiv, o_mod, o_pow18, o_addT, ag_add, ag_sub, c_lt, c_gt, c_le, c_ge, c_eq, c_ne, c_is, c_isn, c_in, c_nin, u_tup, u_scr, n_scr, n_tup, n_str, n_abs, n_min2, n_max2, tg_nm, tg_2, tg_3, at_0, at_1, at_2, at_3, at_4, i_int, sat_some, getV_0, getV_s,     List.set_cons_zero, List.set_cons_succ, List.map_cons, List.map_nil, List.replicate_succ, List.replicate_zero, List.cons_append, List.nil_append, List.length_cons, List.length_nil]
    exact ⟨by simp, List.prefix_refl _⟩
theorem is_name_any (S : List Int) (k : Nat) {w : Wv} {M : Mem} (h : OddW M w) : (callN (Gp S) fuel (k + 1) ix_is_name [w] M).sat fun v M' => v = .bl (nameB w) ∧ M <+: M' := by
  by_cases cs : ∃ s, w = .str s
  · obtain ⟨s, rfl⟩ := cs
    obtain ⟨L, e⟩ := is_name_str S k s M h.1
    exact sat_of e ⟨rfl, List.prefix_append _ _⟩
  · rw [at_is_name]
    refine run_sat rfl ?_
    show (evSl (Gp S) _ _ fuel sl_is_name [some w, none] M).sat _
    unfold sl_is_name
    simp only [q_nil, q_cons, k_nx, k_ret, k_brk, k_ct, q_asg, q_asgA, q_asgS, q_aug, q_ex, q_ret, q_retN, q_pass, q_brk, q_cont, q_ifs, q_for, q_whl, b_t, b_f, be_t, be_f, ba_t, ba_f, bo_t, bo_f, t_bl, t_int, t_non,     q_var, q_con, q_glb, q_tup, q_lst, q_dict0, q_bin, q_neg, q_not, q_and, q_or, q_ife, q_cmp, q_cmp2, q_attr, q_sub, q_srev, q_call, q_callk, q_meth, q_bm, q_new, q_bi, q_isi, q_lc, q_dc, q_sortk, q_sortv, q_sortvM, q_maxk, q_dict2, q_anil, q_acons, q_ival, q_items, q_vals, q_rng, q_zip, q_cntT, q_tab, q_tnin, q_zipT,     o_add, o_sub, o_mul, o_fdiv, o_mod, o_pow18, o_addT, ag_add, ag_sub, c_lt, c_gt, c_le, c_ge, c_eq, c_ne, c_is, c_isn, c_in, c_nin, u_tup, u_scr, n_scr, n_tup, n_str, n_abs, n_min2, n_max2, tg_nm, tg_2, tg_3, at_0, at_1, at_2, at_3, at_4, i_int, sat_some, getV_0, getV_s,     List.set_cons_zero, List.set_cons_succ, List.map_cons, List.map_nil, List.replicate_succ, List.replicate_zero, List.cons_append, List.nil_append, List.length_cons, List.length_nil, isi_str_no h (fun s e => cs ⟨s, e⟩), Option.map_some]
    refine ⟨?_, List.prefix_refl _⟩
    cases w with
    | str s => exact absurd ⟨s, rfl⟩ cs
    | _ => rfl
theorem is_day_any (S : List Int) (k : Nat) {w : Wv} {M : Mem} (h : OddW M w) : callN (Gp S) fuel (k + 2) ix_is_day [w] M = .ok (.bl (wholeB w 0 9999)) M := by
  refine sat_eq ?_
  rw [at_is_day]
  refine run_sat rfl ?_
  show (evSl (Gp S) _ _ fuel sl_is_day [some w] M).sat _
  unfold sl_is_day
  simp only [q_nil, q_cons, k_nx, k_ret, k_brk, k_ct, q_asg, q_asgA, q_asgS, q_aug, q_ex, q_ret, q_retN, q_pass, q_brk, q_cont, q_ifs, q_for, q_whl, b_t, b_f, be_t, be_f, ba_t, ba_f, bo_t, bo_f, t_bl, t_int, t_non,     q_var, q_con, q_glb, q_tup, q_lst, q_dict0, q_bin, q_neg, q_not, q_and, q_or, q_ife, q_cmp, q_cmp2, q_attr, q_sub, q_srev, q_call, q_callk, q_meth, q_bm, q_new, q_bi, q_isi, q_lc, q_dc, q_sortk, q_sortv, q_sortvM, q_maxk, q_dict2, q_anil, q_acons, q_ival, q_items, q_vals, q_rng, q_zip, q_cntT, q_tab, q_tnin, q_zipT,     o_add, o_sub, o_mul, o_fdiv, o_mod, o_pow18, o_addT, ag_add, ag_sub, c_lt, c_gt, c_le, c_ge, c_eq, c_ne, c_is, c_isn, c_in, c_nin, u_tup, u_scr, n_scr, n_tup, n_str, n_abs, n_min2, n_max2, tg_nm, tg_2, tg_3, at_0, at_1, at_2, at_3, at_4, i_int, sat_some, getV_0, getV_s,     List.set_cons_zero, List.set_cons_succ, List.map_cons, List.map_nil, List.replicate_succ, List.replicate_zero, List.cons_append, List.nil_append, List.length_cons, List.length_nil, con_LAST_DAY]
  refine sat_of (is_whole_any S k h 0 9999) ?_
  exact ⟨by first | rfl | trivial, by first | rfl | trivial⟩
def kindL : List Str := ["day", "name", "below", "travel", "water", "much", "rank", "season", "part", "delay"]
def rngV (kind : Str) : Option (Int × Int) := match tab_RANGES.lookup kind with
  | some (.tup [.int a, .int b]) => some (a, b)
  | _ => none
def partB (w : Wv) (kind : Str) : Bool := if kind = ("day" : Str) then wholeB w 0 9999 else if kind = ("name" : Str) then nameB w else if kind = ("below" : Str) then belowB w else match rngV kind with
  | some r => wholeB w r.1 r.2
  | none => false
theorem kind_rng {kind : Str} (h : kind ∈ kindL) (h1 : kind ≠ ("day" : Str)) (h2 : kind ≠ ("name" : Str)) (h3 : kind ≠ ("below" : Str)) : ∃ a b, tab_RANGES.lookup kind = some (.tup [.int a, .int b]) := by
  unfold kindL at h
  simp only [List.mem_cons, List.not_mem_nil, or_false] at h
  rcases h with rfl | rfl | rfl | rfl | rfl | rfl | rfl | rfl | rfl | rfl
  · exact absurd rfl h1
  · exact absurd rfl h2
  · exact absurd rfl h3
  · exact ⟨1, 9, by kernel_rfl⟩
  · exact ⟨0, 9999, by kernel_rfl⟩
  · exact ⟨0, 999999, by kernel_rfl⟩
  · exact ⟨1, 99, by kernel_rfl⟩
  · exact ⟨0, 364, by kernel_rfl⟩
  · exact ⟨0, 1000, by kernel_rfl⟩
  · exact ⟨0, 30, by kernel_rfl⟩
theorem kind_sh {kind : Str} (h : kind ∈ kindL) : SeqAt.shaped (.str kind) = true := by
  have : ∀ kind ∈ kindL, SeqAt.shaped (.str kind) = true := by decide +kernel
  exact this kind h
theorem is_part_ok (S : List Int) (k : Nat) {w : Wv} {M : Mem} (h : OddW M w) {kind : Str} (hk : kind ∈ kindL) : (callN (Gp S) fuel (k + 3) ix_is_part [w, .str kind] M).sat fun v M' => v = .bl (partB w kind) ∧ M <+: M' := by
  rw [at_is_part]
  refine run_sat rfl ?_
  show (evSl (Gp S) (callN (Gp S) fuel (k + 2)) (callN (Gp S) fuel (k + 1)) fuel sl_is_part [some w, some (.str kind), none, none] M).sat _
  unfold sl_is_part partB
  rw [q_cons, q_ifs]
  simp only [q_cmp, q_var, q_glb, getV_0, getV_s, sat_some, con_DAY, c_eq]
  refine ⟨_, eqW_str (kind_sh hk) (by decide +kernel), ?_⟩
  by_cases c1 : kind = ("day" : Str)
  · rw [decide_eq_true c1, if_pos c1]
    refine ⟨true, rfl, ?_⟩
    simp only [q_nil, q_cons, k_nx, k_ret, k_brk, k_ct, q_asg, q_asgA, q_asgS, q_aug, q_ex, q_ret, q_retN, q_pass, q_brk, q_cont, q_ifs, q_for, q_whl, b_t, b_f, be_t, be_f, ba_t, ba_f, bo_t, bo_f, t_bl, t_int, t_non,     q_var, q_con, q_glb, q_tup, q_lst, q_dict0, q_bin, q_neg, q_not, q_and, q_or, q_ife, q_cmp, q_cmp2, q_attr, q_sub, q_srev, q_call, q_callk, q_meth, q_bm, q_new, q_bi, q_isi, q_lc, q_dc, q_sortk, q_sortv, q_sortvM, q_maxk, q_dict2, q_anil, q_acons, q_ival, q_items, q_vals, q_rng, q_zip, q_cntT, q_tab, q_tnin, q_zipT,     o_add, o_sub, o_mul, o_fdiv, o_mod, o_pow18, o_addT, ag_add, ag_sub, c_lt, c_gt, c_le, c_ge, c_eq, c_ne, c_is, c_isn, c_in, c_nin, u_tup, u_scr, n_scr, n_tup, n_str, n_abs, n_min2, n_max2, tg_nm, tg_2, tg_3, at_0, at_1, at_2, at_3, at_4, i_int, sat_some, getV_0, getV_s,     List.set_cons_zero, List.set_cons_succ, List.map_cons, List.map_nil, List.replicate_succ, List.replicate_zero, List.cons_append, List.nil_append, List.length_cons, List.length_nil]
    refine sat_of (is_day_any S k h) ?_
    exact ⟨by first | rfl | trivial, List.prefix_refl _⟩
  · rw [decide_eq_false c1, if_neg c1]
    refine ⟨false, rfl, ?_⟩
    simp only []
    rw [b_f, q_nil, k_nx, q_cons, q_ifs]
    simp only [q_cmp, q_var, q_glb, getV_0, getV_s, sat_some, con_NAME, c_eq]
    refine ⟨_, eqW_str (kind_sh hk) (by decide +kernel), ?_⟩
    by_cases c2 : kind = ("name" : Str)
    · rw [decide_eq_true c2, if_pos c2]
      refine ⟨true, rfl, ?_⟩
      simp only [q_nil, q_cons, k_nx, k_ret, k_brk, k_ct, q_asg, q_asgA, q_asgS, q_aug, q_ex, q_ret, q_retN, q_pass, q_brk, q_cont, q_ifs, q_for, q_whl, b_t, b_f, be_t, be_f, ba_t, ba_f, bo_t, bo_f, t_bl, t_int, t_non,     q_var, q_con, q_glb, q_tup, q_lst, q_dict0, q_bin, q_neg, q_not, q_and, q_or, q_ife, q_cmp, q_cmp2, q_attr, q_sub, q_srev, q_call, q_callk, q_meth, q_bm, q_new, q_bi, q_isi, q_lc, q_dc, q_sortk, q_sortv, q_sortvM, q_maxk, q_dict2, q_anil, q_acons, q_ival, q_items, q_vals, q_rng, q_zip, q_cntT, q_tab, q_tnin, q_zipT,     o_add, o_sub, o_mul, o_fdiv, o_mod, o_pow18, o_addT, ag_add, ag_sub, c_lt, c_gt, c_le, c_ge, c_eq, c_ne, c_is, c_isn, c_in, c_nin, u_tup, u_scr, n_scr, n_tup, n_str, n_abs, n_min2, n_max2, tg_nm, tg_2, tg_3, at_0, at_1, at_2, at_3, at_4, i_int, sat_some, getV_0, getV_s,     List.set_cons_zero, List.set_cons_succ, List.map_cons, List.map_nil, List.replicate_succ, List.replicate_zero, List.cons_append, List.nil_append, List.length_cons, List.length_nil]
      refine sat_mono (is_name_any S (k + 1) h) fun v M' ⟨hv, p⟩ => ?_
      exact ⟨hv, p⟩
    · rw [decide_eq_false c2, if_neg c2]
      refine ⟨false, rfl, ?_⟩
      simp only []
      rw [b_f, q_nil, k_nx, q_cons, q_ifs]
      simp only [q_cmp, q_var, q_glb, getV_0, getV_s, sat_some, con_BELOW, c_eq]
      refine ⟨_, eqW_str (kind_sh hk) (by decide +kernel), ?_⟩
      by_cases c3 : kind = ("below" : Str)
      · rw [decide_eq_true c3, if_pos c3]
        refine ⟨true, rfl, ?_⟩
        simp only [q_nil, q_cons, k_nx, k_ret, k_brk, k_ct, q_asg, q_asgA, q_asgS, q_aug, q_ex, q_ret, q_retN, q_pass, q_brk, q_cont, q_ifs, q_for, q_whl, b_t, b_f, be_t, be_f, ba_t, ba_f, bo_t, bo_f, t_bl, t_int, t_non,     q_var, q_con, q_glb, q_tup, q_lst, q_dict0, q_bin, q_neg, q_not, q_and, q_or, q_ife, q_cmp, q_cmp2, q_attr, q_sub, q_srev, q_call, q_callk, q_meth, q_bm, q_new, q_bi, q_isi, q_lc, q_dc, q_sortk, q_sortv, q_sortvM, q_maxk, q_dict2, q_anil, q_acons, q_ival, q_items, q_vals, q_rng, q_zip, q_cntT, q_tab, q_tnin, q_zipT,     o_add, o_sub, o_mul, o_fdiv, o_mod, o_pow18, o_addT, ag_add, ag_sub, c_lt, c_gt, c_le, c_ge, c_eq, c_ne, c_is, c_isn, c_in, c_nin, u_tup, u_scr, n_scr, n_tup, n_str, n_abs, n_min2, n_max2, tg_nm, tg_2, tg_3, at_0, at_1, at_2, at_3, at_4, i_int, sat_some, getV_0, getV_s,     List.set_cons_zero, List.set_cons_succ, List.map_cons, List.map_nil, List.replicate_succ, List.replicate_zero, List.cons_append, List.nil_append, List.length_cons, List.length_nil]
        refine sat_mono (is_name_any S (k + 1) h) fun v M' ⟨hv, p⟩ => ?_
        subst hv
        have h' := h.mono p
        refine ⟨_, rfl, ?_⟩
        cases hn : nameB w with
        | true =>
          simp only [q_nil, q_cons, k_nx, k_ret, k_brk, k_ct, q_asg, q_asgA, q_asgS, q_aug, q_ex, q_ret, q_retN, q_pass, q_brk, q_cont, q_ifs, q_for, q_whl, b_t, b_f, be_t, be_f, ba_t, ba_f, bo_t, bo_f, t_bl, t_int, t_non,     q_var, q_con, q_glb, q_tup, q_lst, q_dict0, q_bin, q_neg, q_not, q_and, q_or, q_ife, q_cmp, q_cmp2, q_attr, q_sub, q_srev, q_call, q_callk, q_meth, q_bm, q_new, q_bi, q_isi, q_lc, q_dc, q_sortk, q_sortv, q_sortvM, q_maxk, q_dict2, q_anil, q_acons, q_ival, q_items, q_vals, q_rng, q_zip, q_cntT, q_tab, q_tnin, q_zipT,     o_add, o_sub, o_mul, o_fdiv, o_mod, o_pow18, o_addT, ag_add, ag_sub, c_lt, c_gt, c_le, c_ge, c_eq, c_ne, c_is, c_isn, c_in, c_nin, u_tup, u_scr, n_scr, n_tup, n_str, n_abs, n_min2, n_max2, tg_nm, tg_2, tg_3, at_0, at_1, at_2, at_3, at_4, i_int, sat_some, getV_0, getV_s,     List.set_cons_zero, List.set_cons_succ, List.map_cons, List.map_nil, List.replicate_succ, List.replicate_zero, List.cons_append, List.nil_append, List.length_cons, List.length_nil]
          refine ⟨?_, p⟩
          cases w with
          | str s => simp only [nameB] at hn; simp only [belowB, hn, Bool.true_or]
          | _ => cases hn
        | false =>
          simp only [q_nil, q_cons, k_nx, k_ret, k_brk, k_ct, q_asg, q_asgA, q_asgS, q_aug, q_ex, q_ret, q_retN, q_pass, q_brk, q_cont, q_ifs, q_for, q_whl, b_t, b_f, be_t, be_f, ba_t, ba_f, bo_t, bo_f, t_bl, t_int, t_non,     q_var, q_con, q_glb, q_tup, q_lst, q_dict0, q_bin, q_neg, q_not, q_and, q_or, q_ife, q_cmp, q_cmp2, q_attr, q_sub, q_srev, q_call, q_callk, q_meth, q_bm, q_new, q_bi, q_isi, q_lc, q_dc, q_sortk, q_sortv, q_sortvM, q_maxk, q_dict2, q_anil, q_acons, q_ival, q_items, q_vals, q_rng, q_zip, q_cntT, q_tab, q_tnin, q_zipT,     o_add, o_sub, o_mul, o_fdiv, o_mod, o_pow18, o_addT, ag_add, ag_sub, c_lt, c_gt, c_le, c_ge, c_eq, c_ne, c_is, c_isn, c_in, c_nin, u_tup, u_scr, n_scr, n_tup, n_str, n_abs, n_min2, n_max2, tg_nm, tg_2, tg_3, at_0, at_1, at_2, at_3, at_4, i_int, sat_some, getV_0, getV_s,     List.set_cons_zero, List.set_cons_succ, List.map_cons, List.map_nil, List.replicate_succ, List.replicate_zero, List.cons_append, List.nil_append, List.length_cons, List.length_nil]
          by_cases cs : ∃ s, w = .str s
          · obtain ⟨s, rfl⟩ := cs
            simp only [isi_str, Option.map_some, q_nil, q_cons, k_nx, k_ret, k_brk, k_ct, q_asg, q_asgA, q_asgS, q_aug, q_ex, q_ret, q_retN, q_pass, q_brk, q_cont, q_ifs, q_for, q_whl, b_t, b_f, be_t, be_f, ba_t, ba_f, bo_t, bo_f, t_bl, t_int, t_non,     q_var, q_con, q_glb, q_tup, q_lst, q_dict0, q_bin, q_neg, q_not, q_and, q_or, q_ife, q_cmp, q_cmp2, q_attr, q_sub, q_srev, q_call, q_callk, q_meth, q_bm, q_new, q_bi, q_isi, q_lc, q_dc, q_sortk, q_sortv, q_sortvM, q_maxk, q_dict2, q_anil, q_acons, q_ival, q_items, q_vals, q_rng, q_zip, q_cntT, q_tab, q_tnin, q_zipT,     o_add, o_sub, o_mul, o_fdiv, o_mod, o_pow18, o_addT, ag_add, ag_sub, c_lt, c_gt, c_le, c_ge, c_eq, c_ne, c_is, c_isn, c_in, c_nin, u_tup, u_scr, n_scr, n_tup, n_str, n_abs, n_min2, n_max2, tg_nm, tg_2, tg_3, at_0, at_1, at_2, at_3, at_4, i_int, sat_some, getV_0, getV_s,     List.set_cons_zero, List.set_cons_succ, List.map_cons, List.map_nil, List.replicate_succ, List.replicate_zero, List.cons_append, List.nil_append, List.length_cons, List.length_nil, con_NOWHERE]
            have hs : SeqAt.shaped (.str s) = true := by
              have := shaped_dat (n := 1) (w := .str s) h.2 (by omega)
              simpa only [dat] using this
            refine ⟨_, eqW_str hs (by decide +kernel), ?_, p⟩
            simp only [nameB] at hn
            simp only [belowB, hn, Bool.false_or]
          · simp only [isi_str_no h' (fun s e => cs ⟨s, e⟩), Option.map_some, q_nil, q_cons, k_nx, k_ret, k_brk, k_ct, q_asg, q_asgA, q_asgS, q_aug, q_ex, q_ret, q_retN, q_pass, q_brk, q_cont, q_ifs, q_for, q_whl, b_t, b_f, be_t, be_f, ba_t, ba_f, bo_t, bo_f, t_bl, t_int, t_non,     q_var, q_con, q_glb, q_tup, q_lst, q_dict0, q_bin, q_neg, q_not, q_and, q_or, q_ife, q_cmp, q_cmp2, q_attr, q_sub, q_srev, q_call, q_callk, q_meth, q_bm, q_new, q_bi, q_isi, q_lc, q_dc, q_sortk, q_sortv, q_sortvM, q_maxk, q_dict2, q_anil, q_acons, q_ival, q_items, q_vals, q_rng, q_zip, q_cntT, q_tab, q_tnin, q_zipT,     o_add, o_sub, o_mul, o_fdiv, o_mod, o_pow18, o_addT, ag_add, ag_sub, c_lt, c_gt, c_le, c_ge, c_eq, c_ne, c_is, c_isn, c_in, c_nin, u_tup, u_scr, n_scr, n_tup, n_str, n_abs, n_min2, n_max2, tg_nm, tg_2, tg_3, at_0, at_1, at_2, at_3, at_4, i_int, sat_some, getV_0, getV_s,     List.set_cons_zero, List.set_cons_succ, List.map_cons, List.map_nil, List.replicate_succ, List.replicate_zero, List.cons_append, List.nil_append, List.length_cons, List.length_nil]
            refine ⟨?_, p⟩
            cases w with
            | str s => exact absurd ⟨s, rfl⟩ cs
            | _ => rfl
      · rw [decide_eq_false c3, if_neg c3]
        refine ⟨false, rfl, ?_⟩
        simp only []
        rw [b_f, q_nil, k_nx]
        obtain ⟨a, b, e⟩ := kind_rng hk c1 c2 c3
        have er : rngV kind = some (a, b) := by unfold rngV; rw [e]
        rw [er]
        simp only [q_nil, q_cons, k_nx, k_ret, k_brk, k_ct, q_asg, q_asgA, q_asgS, q_aug, q_ex, q_ret, q_retN, q_pass, q_brk, q_cont, q_ifs, q_for, q_whl, b_t, b_f, be_t, be_f, ba_t, ba_f, bo_t, bo_f, t_bl, t_int, t_non,     q_var, q_con, q_glb, q_tup, q_lst, q_dict0, q_bin, q_neg, q_not, q_and, q_or, q_ife, q_cmp, q_cmp2, q_attr, q_sub, q_srev, q_call, q_callk, q_meth, q_bm, q_new, q_bi, q_isi, q_lc, q_dc, q_sortk, q_sortv, q_sortvM, q_maxk, q_dict2, q_anil, q_acons, q_ival, q_items, q_vals, q_rng, q_zip, q_cntT, q_tab, q_tnin, q_zipT,     o_add, o_sub, o_mul, o_fdiv, o_mod, o_pow18, o_addT, ag_add, ag_sub, c_lt, c_gt, c_le, c_ge, c_eq, c_ne, c_is, c_isn, c_in, c_nin, u_tup, u_scr, n_scr, n_tup, n_str, n_abs, n_min2, n_max2, tg_nm, tg_2, tg_3, at_0, at_1, at_2, at_3, at_4, i_int, sat_some, getV_0, getV_s,     List.set_cons_zero, List.set_cons_succ, List.map_cons, List.map_nil, List.replicate_succ, List.replicate_zero, List.cons_append, List.nil_append, List.length_cons, List.length_nil]
        have et : tabW tab_RANGES (.str kind) M = .ok (.tup [.int a, .int b]) M := by simp only [tabW, e, Out.ofO]
        refine sat_of et ?_
        show (callN (Gp S) fuel (k + 2) ix_is_whole [w, .int a, .int b] M).sat _
        refine sat_of (is_whole_any S (k + 1) h a b) ?_
        exact ⟨rfl, List.prefix_refl _⟩
end Bh
end
section
set_option Elab.async false
set_option linter.all false
set_option maxRecDepth 100000
set_option maxHeartbeats 0
namespace Bh
open PySem MP
/-! ### plain truths -/
def tabP : List (Str × List Str) := [("place", ["day", "name", "below", "travel", "water"]), ("read", ["day", "name", "water"]), ("right", ["day", "name", "name", "name", "rank", "water", "much", "season", "season", "part", "below", "delay"]), ("ask", ["day", "name", "water"]), ("store", ["day", "name"]), ("dam", ["day", "name", "much", "part"]), ("share", ["day", "name", "name", "much"]), ("release", ["day", "name", "name", "name", "water"]), ("sold", ["day", "name", "name"]), ("leased", ["day", "name", "name", "day"]), ("moved", ["day", "name", "name"])]
theorem parts_eq : tab_PARTS = tabP.map fun p => (p.1, Wv.tup (p.2.map Wv.str)) := rfl
theorem look_map (z : Str) : ∀ l : List (Str × List Str), (l.map fun p => (p.1, Wv.tup (p.2.map Wv.str))).lookup z = (l.lookup z).map fun ks => Wv.tup (ks.map Wv.str)
  | [] => rfl
  | (k, v) :: l => by
    simp only [List.map_cons, List.lookup]
    cases h : (z == k) with
    | true => rfl
    | false => exact look_map z l
theorem parts_look (z : Str) : tab_PARTS.lookup z = (tabP.lookup z).map fun ks => Wv.tup (ks.map Wv.str) := by rw [parts_eq]; exact look_map z tabP
theorem look_memP {z : Str} {ks : List Str} : ∀ {l : List (Str × List Str)}, l.lookup z = some ks → (z, ks) ∈ l
  | [], h => by cases h
  | (k, v) :: l, h => by
    simp only [List.lookup] at h
    split at h
    · rename_i he
      injection h with h
      rw [eq_of_beq he, h]; exact List.mem_cons_self ..
    · exact List.mem_cons_of_mem _ (look_memP h)
theorem parts_kinds {z : Str} {ks : List Str} (h : tabP.lookup z = some ks) : ks.length ≤ 20 ∧ ∀ kind ∈ ks, kind ∈ kindL := by
  have : ∀ p ∈ tabP, p.2.length ≤ 20 ∧ ∀ kind ∈ p.2, kind ∈ kindL := by decide +kernel
  exact this _ (look_memP h)
def plainB : Wv → Bool
  | .tup (.str z :: xs) => match tabP.lookup z with
    | some ks => decide (xs.length = ks.length) && (xs.zip ks).all fun p => partB p.1 p.2
    | none => false
  | _ => false
theorem cut_1 {α : Type} (x : α) (xs : List α) : cut (x :: xs) (some 1) none = xs := by
  unfold cut sIx
  simp
/-- a tuple against the empty one -/
def EqE (S : List Int) (M : Mem) (ws : List Wv) : Prop := eqW (Gp S) (.tup ws) (.tup []) M = some (decide (ws = []))
theorem is_plain_ok (S : List Int) (k : Nat) {v : Wv} {M : Mem} (h : OddW M v) (hw : ∀ ws, v = .tup ws → ws.length ≤ 50 ∧ EqE S M ws ∧ ∀ w ∈ ws, OddW M w) : (callN (Gp S) fuel (k + 4) ix_is_plain [v] M).sat fun r M' => r = .bl (plainB v) ∧ M <+: M' := by
  have hz : 1001 ≤ sizeLine := by decide
  rw [at_is_plain]
  refine run_sat rfl ?_
  show (evSl (Gp S) (callN (Gp S) fuel (k + 3)) (callN (Gp S) fuel (k + 2)) fuel sl_is_plain [some v, none, none, none] M).sat _
  unfold sl_is_plain
  by_cases ct : ∃ ws, v = .tup ws
  · obtain ⟨ws, rfl⟩ := ct
    obtain ⟨hl, he, ho⟩ := hw ws rfl
    have h1 : isiW .tuple (.tup ws) M = some true := rfl
    cases ws with
    | nil =>
      simp only [q_nil, q_cons, k_nx, k_ret, k_brk, k_ct, q_asg, q_asgA, q_asgS, q_aug, q_ex, q_ret, q_retN, q_pass, q_brk, q_cont, q_ifs, q_for, q_whl, b_t, b_f, be_t, be_f, ba_t, ba_f, bo_t, bo_f, t_bl, t_int, t_non,     q_var, q_con, q_glb, q_tup, q_lst, q_dict0, q_bin, q_neg, q_not, q_and, q_or, q_ife, q_cmp, q_cmp2, q_attr, q_sub, q_srev, q_call, q_callk, q_meth, q_bm, q_new, q_bi, q_isi, q_lc, q_dc, q_sortk, q_sortv, q_sortvM, q_maxk, q_dict2, q_anil, q_acons, q_ival, q_items, q_vals, q_rng, q_zip, q_cntT, q_tab, q_tnin, q_zipT,     o_add, o_sub, o_mul, o_fdiv, o_mod, o_pow18, o_addT, ag_add, ag_sub, c_lt, c_gt, c_le, c_ge, c_eq, c_ne, c_is, c_isn, c_in, c_nin, u_tup, u_scr, n_scr, n_tup, n_str, n_abs, n_min2, n_max2, tg_nm, tg_2, tg_3, at_0, at_1, at_2, at_3, at_4, i_int, sat_some, getV_0, getV_s,     List.set_cons_zero, List.set_cons_succ, List.map_cons, List.map_nil, List.replicate_succ, List.replicate_zero, List.cons_append, List.nil_append, List.length_cons, List.length_nil, h1, Option.map_some, Bool.not_true]
      refine ⟨len_ok (by decide), true, he, ?_⟩
      simp only [q_nil, q_cons, k_nx, k_ret, k_brk, k_ct, q_asg, q_asgA, q_asgS, q_aug, q_ex, q_ret, q_retN, q_pass, q_brk, q_cont, q_ifs, q_for, q_whl, b_t, b_f, be_t, be_f, ba_t, ba_f, bo_t, bo_f, t_bl, t_int, t_non,     q_var, q_con, q_glb, q_tup, q_lst, q_dict0, q_bin, q_neg, q_not, q_and, q_or, q_ife, q_cmp, q_cmp2, q_attr, q_sub, q_srev, q_call, q_callk, q_meth, q_bm, q_new, q_bi, q_isi, q_lc, q_dc, q_sortk, q_sortv, q_sortvM, q_maxk, q_dict2, q_anil, q_acons, q_ival, q_items, q_vals, q_rng, q_zip, q_cntT, q_tab, q_tnin, q_zipT,     o_add, o_sub, o_mul, o_fdiv, o_mod, o_pow18, o_addT, ag_add, ag_sub, c_lt, c_gt, c_le, c_ge, c_eq, c_ne, c_is, c_isn, c_in, c_nin, u_tup, u_scr, n_scr, n_tup, n_str, n_abs, n_min2, n_max2, tg_nm, tg_2, tg_3, at_0, at_1, at_2, at_3, at_4, i_int, sat_some, getV_0, getV_s,     List.set_cons_zero, List.set_cons_succ, List.map_cons, List.map_nil, List.replicate_succ, List.replicate_zero, List.cons_append, List.nil_append, List.length_cons, List.length_nil]
      exact ⟨by first | rfl | trivial, List.prefix_refl _⟩
    | cons x xs =>
      have hx := ho x (List.mem_cons_self ..)
      have he' : eqW (Gp S) (.tup (x :: xs)) (.tup []) M = some false := by
        have := he
        unfold EqE at this
        rw [this, decide_eq_false (by simp)]
      by_cases cs : ∃ z, x = .str z
      · obtain ⟨z, rfl⟩ := cs
        cases hlk : tabP.lookup z with
        | none =>
          have et : tninW tab_PARTS (.str z) M = .ok (.bl true) M := by simp only [tninW, parts_look, hlk, Option.map_none, Option.isSome_none, Bool.not_false]
          simp only [q_nil, q_cons, k_nx, k_ret, k_brk, k_ct, q_asg, q_asgA, q_asgS, q_aug, q_ex, q_ret, q_retN, q_pass, q_brk, q_cont, q_ifs, q_for, q_whl, b_t, b_f, be_t, be_f, ba_t, ba_f, bo_t, bo_f, t_bl, t_int, t_non,     q_var, q_con, q_glb, q_tup, q_lst, q_dict0, q_bin, q_neg, q_not, q_and, q_or, q_ife, q_cmp, q_cmp2, q_attr, q_sub, q_srev, q_call, q_callk, q_meth, q_bm, q_new, q_bi, q_isi, q_lc, q_dc, q_sortk, q_sortv, q_sortvM, q_maxk, q_dict2, q_anil, q_acons, q_ival, q_items, q_vals, q_rng, q_zip, q_cntT, q_tab, q_tnin, q_zipT,     o_add, o_sub, o_mul, o_fdiv, o_mod, o_pow18, o_addT, ag_add, ag_sub, c_lt, c_gt, c_le, c_ge, c_eq, c_ne, c_is, c_isn, c_in, c_nin, u_tup, u_scr, n_scr, n_tup, n_str, n_abs, n_min2, n_max2, tg_nm, tg_2, tg_3, at_0, at_1, at_2, at_3, at_4, i_int, sat_some, getV_0, getV_s,     List.set_cons_zero, List.set_cons_succ, List.map_cons, List.map_nil, List.replicate_succ, List.replicate_zero, List.cons_append, List.nil_append, List.length_cons, List.length_nil, h1, Option.map_some, Bool.not_true]
          refine ⟨len_ok (by decide), false, he', ?_⟩
          simp only [q_nil, q_cons, k_nx, k_ret, k_brk, k_ct, q_asg, q_asgA, q_asgS, q_aug, q_ex, q_ret, q_retN, q_pass, q_brk, q_cont, q_ifs, q_for, q_whl, b_t, b_f, be_t, be_f, ba_t, ba_f, bo_t, bo_f, t_bl, t_int, t_non,     q_var, q_con, q_glb, q_tup, q_lst, q_dict0, q_bin, q_neg, q_not, q_and, q_or, q_ife, q_cmp, q_cmp2, q_attr, q_sub, q_srev, q_call, q_callk, q_meth, q_bm, q_new, q_bi, q_isi, q_lc, q_dc, q_sortk, q_sortv, q_sortvM, q_maxk, q_dict2, q_anil, q_acons, q_ival, q_items, q_vals, q_rng, q_zip, q_cntT, q_tab, q_tnin, q_zipT,     o_add, o_sub, o_mul, o_fdiv, o_mod, o_pow18, o_addT, ag_add, ag_sub, c_lt, c_gt, c_le, c_ge, c_eq, c_ne, c_is, c_isn, c_in, c_nin, u_tup, u_scr, n_scr, n_tup, n_str, n_abs, n_min2, n_max2, tg_nm, tg_2, tg_3, at_0, at_1, at_2, at_3, at_4, i_int, sat_some, getV_0, getV_s,     List.set_cons_zero, List.set_cons_succ, List.map_cons, List.map_nil, List.replicate_succ, List.replicate_zero, List.cons_append, List.nil_append, List.length_cons, List.length_nil, isi_str, Option.map_some, Bool.not_true]
          refine sat_of et ?_
          simp only [q_nil, q_cons, k_nx, k_ret, k_brk, k_ct, q_asg, q_asgA, q_asgS, q_aug, q_ex, q_ret, q_retN, q_pass, q_brk, q_cont, q_ifs, q_for, q_whl, b_t, b_f, be_t, be_f, ba_t, ba_f, bo_t, bo_f, t_bl, t_int, t_non,     q_var, q_con, q_glb, q_tup, q_lst, q_dict0, q_bin, q_neg, q_not, q_and, q_or, q_ife, q_cmp, q_cmp2, q_attr, q_sub, q_srev, q_call, q_callk, q_meth, q_bm, q_new, q_bi, q_isi, q_lc, q_dc, q_sortk, q_sortv, q_sortvM, q_maxk, q_dict2, q_anil, q_acons, q_ival, q_items, q_vals, q_rng, q_zip, q_cntT, q_tab, q_tnin, q_zipT,     o_add, o_sub, o_mul, o_fdiv, o_mod, o_pow18, o_addT, ag_add, ag_sub, c_lt, c_gt, c_le, c_ge, c_eq, c_ne, c_is, c_isn, c_in, c_nin, u_tup, u_scr, n_scr, n_tup, n_str, n_abs, n_min2, n_max2, tg_nm, tg_2, tg_3, at_0, at_1, at_2, at_3, at_4, i_int, sat_some, getV_0, getV_s,     List.set_cons_zero, List.set_cons_succ, List.map_cons, List.map_nil, List.replicate_succ, List.replicate_zero, List.cons_append, List.nil_append, List.length_cons, List.length_nil]
          refine ⟨?_, List.prefix_refl _⟩
          simp only [plainB, hlk]
        | some ks =>
          obtain ⟨hkl, hkk⟩ := parts_kinds hlk
          have et : tninW tab_PARTS (.str z) M = .ok (.bl false) M := by simp only [tninW, parts_look, hlk, Option.map_some, Option.isSome_some, Bool.not_true]
          have et2 : tabW tab_PARTS (.str z) M = .ok (.tup (ks.map Wv.str)) M := by simp only [tabW, parts_look, hlk, Option.map_some, Out.ofO]
          rw [q_cons]
          simp only [q_nil, q_cons, k_nx, k_ret, k_brk, k_ct, q_asg, q_asgA, q_asgS, q_aug, q_ex, q_ret, q_retN, q_pass, q_brk, q_cont, q_ifs, q_for, q_whl, b_t, b_f, be_t, be_f, ba_t, ba_f, bo_t, bo_f, t_bl, t_int, t_non,     q_var, q_con, q_glb, q_tup, q_lst, q_dict0, q_bin, q_neg, q_not, q_and, q_or, q_ife, q_cmp, q_cmp2, q_attr, q_sub, q_srev, q_call, q_callk, q_meth, q_bm, q_new, q_bi, q_isi, q_lc, q_dc, q_sortk, q_sortv, q_sortvM, q_maxk, q_dict2, q_anil, q_acons, q_ival, q_items, q_vals, q_rng, q_zip, q_cntT, q_tab, q_tnin, q_zipT,     o_add, o_sub, o_mul, o_fdiv, o_mod, o_pow18, o_addT, ag_add, ag_sub, c_lt, c_gt, c_le, c_ge, c_eq, c_ne, c_is, c_isn, c_in, c_nin, u_tup, u_scr, n_scr, n_tup, n_str, n_abs, n_min2, n_max2, tg_nm, tg_2, tg_3, at_0, at_1, at_2, at_3, at_4, i_int, sat_some, getV_0, getV_s,     List.set_cons_zero, List.set_cons_succ, List.map_cons, List.map_nil, List.replicate_succ, List.replicate_zero, List.cons_append, List.nil_append, List.length_cons, List.length_nil, h1, Option.map_some, Bool.not_true]
          refine ⟨len_ok (by decide), false, he', ?_⟩
          simp only [q_nil, q_cons, k_nx, k_ret, k_brk, k_ct, q_asg, q_asgA, q_asgS, q_aug, q_ex, q_ret, q_retN, q_pass, q_brk, q_cont, q_ifs, q_for, q_whl, b_t, b_f, be_t, be_f, ba_t, ba_f, bo_t, bo_f, t_bl, t_int, t_non,     q_var, q_con, q_glb, q_tup, q_lst, q_dict0, q_bin, q_neg, q_not, q_and, q_or, q_ife, q_cmp, q_cmp2, q_attr, q_sub, q_srev, q_call, q_callk, q_meth, q_bm, q_new, q_bi, q_isi, q_lc, q_dc, q_sortk, q_sortv, q_sortvM, q_maxk, q_dict2, q_anil, q_acons, q_ival, q_items, q_vals, q_rng, q_zip, q_cntT, q_tab, q_tnin, q_zipT,     o_add, o_sub, o_mul, o_fdiv, o_mod, o_pow18, o_addT, ag_add, ag_sub, c_lt, c_gt, c_le, c_ge, c_eq, c_ne, c_is, c_isn, c_in, c_nin, u_tup, u_scr, n_scr, n_tup, n_str, n_abs, n_min2, n_max2, tg_nm, tg_2, tg_3, at_0, at_1, at_2, at_3, at_4, i_int, sat_some, getV_0, getV_s,     List.set_cons_zero, List.set_cons_succ, List.map_cons, List.map_nil, List.replicate_succ, List.replicate_zero, List.cons_append, List.nil_append, List.length_cons, List.length_nil, isi_str, Option.map_some, Bool.not_true]
          refine sat_of et ?_
          simp only [q_nil, q_cons, k_nx, k_ret, k_brk, k_ct, q_asg, q_asgA, q_asgS, q_aug, q_ex, q_ret, q_retN, q_pass, q_brk, q_cont, q_ifs, q_for, q_whl, b_t, b_f, be_t, be_f, ba_t, ba_f, bo_t, bo_f, t_bl, t_int, t_non,     q_var, q_con, q_glb, q_tup, q_lst, q_dict0, q_bin, q_neg, q_not, q_and, q_or, q_ife, q_cmp, q_cmp2, q_attr, q_sub, q_srev, q_call, q_callk, q_meth, q_bm, q_new, q_bi, q_isi, q_lc, q_dc, q_sortk, q_sortv, q_sortvM, q_maxk, q_dict2, q_anil, q_acons, q_ival, q_items, q_vals, q_rng, q_zip, q_cntT, q_tab, q_tnin, q_zipT,     o_add, o_sub, o_mul, o_fdiv, o_mod, o_pow18, o_addT, ag_add, ag_sub, c_lt, c_gt, c_le, c_ge, c_eq, c_ne, c_is, c_isn, c_in, c_nin, u_tup, u_scr, n_scr, n_tup, n_str, n_abs, n_min2, n_max2, tg_nm, tg_2, tg_3, at_0, at_1, at_2, at_3, at_4, i_int, sat_some, getV_0, getV_s,     List.set_cons_zero, List.set_cons_succ, List.map_cons, List.map_nil, List.replicate_succ, List.replicate_zero, List.cons_append, List.nil_append, List.length_cons, List.length_nil]
          refine sat_of et2 ?_
          simp only [q_nil, q_cons, k_nx, k_ret, k_brk, k_ct, q_asg, q_asgA, q_asgS, q_aug, q_ex, q_ret, q_retN, q_pass, q_brk, q_cont, q_ifs, q_for, q_whl, b_t, b_f, be_t, be_f, ba_t, ba_f, bo_t, bo_f, t_bl, t_int, t_non,     q_var, q_con, q_glb, q_tup, q_lst, q_dict0, q_bin, q_neg, q_not, q_and, q_or, q_ife, q_cmp, q_cmp2, q_attr, q_sub, q_srev, q_call, q_callk, q_meth, q_bm, q_new, q_bi, q_isi, q_lc, q_dc, q_sortk, q_sortv, q_sortvM, q_maxk, q_dict2, q_anil, q_acons, q_ival, q_items, q_vals, q_rng, q_zip, q_cntT, q_tab, q_tnin, q_zipT,     o_add, o_sub, o_mul, o_fdiv, o_mod, o_pow18, o_addT, ag_add, ag_sub, c_lt, c_gt, c_le, c_ge, c_eq, c_ne, c_is, c_isn, c_in, c_nin, u_tup, u_scr, n_scr, n_tup, n_str, n_abs, n_min2, n_max2, tg_nm, tg_2, tg_3, at_0, at_1, at_2, at_3, at_4, i_int, sat_some, getV_0, getV_s,     List.set_cons_zero, List.set_cons_succ, List.map_cons, List.map_nil, List.replicate_succ, List.replicate_zero, List.cons_append, List.nil_append, List.length_cons, List.length_nil]
          refine ⟨_, eqW_int _ _, ?_⟩
          have eB : plainB (.tup (.str z :: xs)) = (decide (xs.length = ks.length) && (xs.zip ks).all fun p => partB p.1 p.2) := by simp only [plainB, hlk]
          rw [eB]
          by_cases cl : xs.length = ks.length
          · rw [decide_eq_true (show ((xs.length + 1 : Nat) : Int) = ((ks.map Wv.str).length : Int) + 1 by simp [cl]), decide_eq_true cl]
            simp only [q_nil, q_cons, k_nx, k_ret, k_brk, k_ct, q_asg, q_asgA, q_asgS, q_aug, q_ex, q_ret, q_retN, q_pass, q_brk, q_cont, q_ifs, q_for, q_whl, b_t, b_f, be_t, be_f, ba_t, ba_f, bo_t, bo_f, t_bl, t_int, t_non,     q_var, q_con, q_glb, q_tup, q_lst, q_dict0, q_bin, q_neg, q_not, q_and, q_or, q_ife, q_cmp, q_cmp2, q_attr, q_sub, q_srev, q_call, q_callk, q_meth, q_bm, q_new, q_bi, q_isi, q_lc, q_dc, q_sortk, q_sortv, q_sortvM, q_maxk, q_dict2, q_anil, q_acons, q_ival, q_items, q_vals, q_rng, q_zip, q_cntT, q_tab, q_tnin, q_zipT,     o_add, o_sub, o_mul, o_fdiv, o_mod, o_pow18, o_addT, ag_add, ag_sub, c_lt, c_gt, c_le, c_ge, c_eq, c_ne, c_is, c_isn, c_in, c_nin, u_tup, u_scr, n_scr, n_tup, n_str, n_abs, n_min2, n_max2, tg_nm, tg_2, tg_3, at_0, at_1, at_2, at_3, at_4, i_int, sat_some, getV_0, getV_s,     List.set_cons_zero, List.set_cons_succ, List.map_cons, List.map_nil, List.replicate_succ, List.replicate_zero, List.cons_append, List.nil_append, List.length_cons, List.length_nil]
            rw [q_slcL (hl := rfl)]
            simp only [q_var, q_con, getV_0, getV_s, sat_some, i_int]
            refine sat_of (show slcW (.tup (.str z :: xs)) (some 1) none M = .ok (.tup xs) M by simp only [slcW, cut_1]) ?_
            have ez : zipTW (.tup xs) (.tup (ks.map Wv.str)) = some ((xs.zip ks).map fun p => .tup [p.1, .str p.2]) := by
              simp only [zipTW]
              rw [List.zip_map_right, List.map_map]
              rfl
            rw [ez]
            simp only [sat_some]
            have hmem : ∀ p ∈ xs.zip ks, OddW M p.1 ∧ p.2 ∈ kindL := fun p hp => ⟨ho _ (List.mem_cons_of_mem _ (List.of_mem_zip hp).1), hkk _ (List.of_mem_zip hp).2⟩
            have hlen : (xs.zip ks).length ≤ 50 := by rw [List.length_zip]; omega
            refine sat_mono (Q := fun ws M' => ws = (xs.zip ks).map (fun p => Wv.bl (partB p.1 p.2)) ∧ M <+: M') ?_ fun ws M' ⟨hws, pM⟩ => ?_
            · refine lc_rule (fun pre post acc M' => ∃ a b, xs.zip ks = a ++ b ∧ post = b.map (fun p => Wv.tup [p.1, .str p.2]) ∧ acc = a.map (fun p => Wv.bl (partB p.1 p.2)) ∧ M <+: M') ?_ ?_ _ [] [] _ ⟨[], xs.zip ks, rfl, rfl, rfl, List.prefix_refl _⟩
              · rintro pre x post acc M' ⟨a, b, hab, hpost, rfl, pM⟩
                cases b with
                | nil => cases hpost
                | cons p b =>
                  simp only [List.map_cons, List.cons.injEq] at hpost
                  obtain ⟨rfl, rfl⟩ := hpost
                  obtain ⟨m1, m2⟩ := hmem p (by rw [hab]; simp)
                  refine ⟨rfl, _, rfl, ?_⟩
                  simp only [q_con]
                  refine ⟨true, rfl, fun _ => ?_, fun e => by cases e⟩
                  show (evE (Gp S) _ _ _ [some (.tup (.str z :: xs)), some (.tup (ks.map Wv.str)), some p.1, some (.str p.2)] M').sat _
                  simp only [q_call, q_acons, q_anil, q_var, getV_0, getV_s, sat_some, List.append_nil]
                  refine sat_mono (is_part_ok S k (m1.mono pM) m2) fun v M2 ⟨hv, p2⟩ => ?_
                  subst hv
                  have hal : a.length ≤ 50 := by
                    have := congrArg List.length hab
                    simp only [List.length_append] at this
                    omega
                  exact ⟨len_ok (by simp; omega), a ++ [p], b, by rw [hab]; simp, rfl, by simp, pM.trans p2⟩
              · rintro pre acc M' ⟨a, b, hab, hpost, rfl, pM⟩
                cases b with
                | cons p b => cases hpost
                | nil =>
                  rw [List.append_nil] at hab
                  subst hab
                  exact ⟨rfl, rfl, pM⟩
            · subst hws
              have ea : ((xs.zip ks).map fun p => Wv.bl (partB p.1 p.2)) = ((xs.zip ks).map fun p => partB p.1 p.2).map Wv.bl := by rw [List.map_map]; rfl
              rw [ea]
              refine sat_of (n_all (Gp S) M'.length ((xs.zip ks).map fun p => partB p.1 p.2) (at_new ..)) ?_
              refine ⟨?_, pre_snoc pM _⟩
              rw [List.all_map, Bool.true_and]
              rfl
          · rw [decide_eq_false (show ¬ ((xs.length + 1 : Nat) : Int) = ((ks.map Wv.str).length : Int) + 1 by simp; omega), decide_eq_false cl]
            simp only [q_nil, q_cons, k_nx, k_ret, k_brk, k_ct, q_asg, q_asgA, q_asgS, q_aug, q_ex, q_ret, q_retN, q_pass, q_brk, q_cont, q_ifs, q_for, q_whl, b_t, b_f, be_t, be_f, ba_t, ba_f, bo_t, bo_f, t_bl, t_int, t_non,     q_var, q_con, q_glb, q_tup, q_lst, q_dict0, q_bin, q_neg, q_not, q_and, q_or, q_ife, q_cmp, q_cmp2, q_attr, q_sub, q_srev, q_call, q_callk, q_meth, q_bm, q_new, q_bi, q_isi, q_lc, q_dc, q_sortk, q_sortv, q_sortvM, q_maxk, q_dict2, q_anil, q_acons, q_ival, q_items, q_vals, q_rng, q_zip, q_cntT, q_tab, q_tnin, q_zipT,     o_add, o_sub, o_mul, o_fdiv, o_mod, o_pow18, o_addT, ag_add, ag_sub, c_lt, c_gt, c_le, c_ge, c_eq, c_ne, c_is, c_isn, c_in, c_nin, u_tup, u_scr, n_scr, n_tup, n_str, n_abs, n_min2, n_max2, tg_nm, tg_2, tg_3, at_0, at_1, at_2, at_3, at_4, i_int, sat_some, getV_0, getV_s,     List.set_cons_zero, List.set_cons_succ, List.map_cons, List.map_nil, List.replicate_succ, List.replicate_zero, List.cons_append, List.nil_append, List.length_cons, List.length_nil]
            exact ⟨by first | rfl | trivial, List.prefix_refl _⟩
      · simp only [q_nil, q_cons, k_nx, k_ret, k_brk, k_ct, q_asg, q_asgA, q_asgS, q_aug, q_ex, q_ret, q_retN, q_pass, q_brk, q_cont, q_ifs, q_for, q_whl, b_t, b_f, be_t, be_f, ba_t, ba_f, bo_t, bo_f, t_bl, t_int, t_non,     q_var, q_con, q_glb, q_tup, q_lst, q_dict0, q_bin, q_neg, q_not, q_and, q_or, q_ife, q_cmp, q_cmp2, q_attr, q_sub, q_srev, q_call, q_callk, q_meth, q_bm, q_new, q_bi, q_isi, q_lc, q_dc, q_sortk, q_sortv, q_sortvM, q_maxk, q_dict2, q_anil, q_acons, q_ival, q_items, q_vals, q_rng, q_zip, q_cntT, q_tab, q_tnin, q_zipT,     o_add, o_sub, o_mul, o_fdiv, o_mod, o_pow18, o_addT, ag_add, ag_sub, c_lt, c_gt, c_le, c_ge, c_eq, c_ne, c_is, c_isn, c_in, c_nin, u_tup, u_scr, n_scr, n_tup, n_str, n_abs, n_min2, n_max2, tg_nm, tg_2, tg_3, at_0, at_1, at_2, at_3, at_4, i_int, sat_some, getV_0, getV_s,     List.set_cons_zero, List.set_cons_succ, List.map_cons, List.map_nil, List.replicate_succ, List.replicate_zero, List.cons_append, List.nil_append, List.length_cons, List.length_nil, h1, Option.map_some, Bool.not_true]
        refine ⟨len_ok (by decide), false, he', ?_⟩
        simp only [q_nil, q_cons, k_nx, k_ret, k_brk, k_ct, q_asg, q_asgA, q_asgS, q_aug, q_ex, q_ret, q_retN, q_pass, q_brk, q_cont, q_ifs, q_for, q_whl, b_t, b_f, be_t, be_f, ba_t, ba_f, bo_t, bo_f, t_bl, t_int, t_non,     q_var, q_con, q_glb, q_tup, q_lst, q_dict0, q_bin, q_neg, q_not, q_and, q_or, q_ife, q_cmp, q_cmp2, q_attr, q_sub, q_srev, q_call, q_callk, q_meth, q_bm, q_new, q_bi, q_isi, q_lc, q_dc, q_sortk, q_sortv, q_sortvM, q_maxk, q_dict2, q_anil, q_acons, q_ival, q_items, q_vals, q_rng, q_zip, q_cntT, q_tab, q_tnin, q_zipT,     o_add, o_sub, o_mul, o_fdiv, o_mod, o_pow18, o_addT, ag_add, ag_sub, c_lt, c_gt, c_le, c_ge, c_eq, c_ne, c_is, c_isn, c_in, c_nin, u_tup, u_scr, n_scr, n_tup, n_str, n_abs, n_min2, n_max2, tg_nm, tg_2, tg_3, at_0, at_1, at_2, at_3, at_4, i_int, sat_some, getV_0, getV_s,     List.set_cons_zero, List.set_cons_succ, List.map_cons, List.map_nil, List.replicate_succ, List.replicate_zero, List.cons_append, List.nil_append, List.length_cons, List.length_nil, isi_str_no hx (fun z e => cs ⟨z, e⟩), Option.map_some, Bool.not_false]
        refine ⟨?_, List.prefix_refl _⟩
        cases x with
        | str z => exact absurd ⟨z, rfl⟩ cs
        | _ => rfl
  · simp only [q_nil, q_cons, k_nx, k_ret, k_brk, k_ct, q_asg, q_asgA, q_asgS, q_aug, q_ex, q_ret, q_retN, q_pass, q_brk, q_cont, q_ifs, q_for, q_whl, b_t, b_f, be_t, be_f, ba_t, ba_f, bo_t, bo_f, t_bl, t_int, t_non,     q_var, q_con, q_glb, q_tup, q_lst, q_dict0, q_bin, q_neg, q_not, q_and, q_or, q_ife, q_cmp, q_cmp2, q_attr, q_sub, q_srev, q_call, q_callk, q_meth, q_bm, q_new, q_bi, q_isi, q_lc, q_dc, q_sortk, q_sortv, q_sortvM, q_maxk, q_dict2, q_anil, q_acons, q_ival, q_items, q_vals, q_rng, q_zip, q_cntT, q_tab, q_tnin, q_zipT,     o_add, o_sub, o_mul, o_fdiv, o_mod, o_pow18, o_addT, ag_add, ag_sub, c_lt, c_gt, c_le, c_ge, c_eq, c_ne, c_is, c_isn, c_in, c_nin, u_tup, u_scr, n_scr, n_tup, n_str, n_abs, n_min2, n_max2, tg_nm, tg_2, tg_3, at_0, at_1, at_2, at_3, at_4, i_int, sat_some, getV_0, getV_s,     List.set_cons_zero, List.set_cons_succ, List.map_cons, List.map_nil, List.replicate_succ, List.replicate_zero, List.cons_append, List.nil_append, List.length_cons, List.length_nil, isi_tup_no h (fun ws e => ct ⟨ws, e⟩), Option.map_some, Bool.not_false]
    refine ⟨?_, List.prefix_refl _⟩
    cases v with
    | tup ws => exact absurd ⟨ws, rfl⟩ ct
    | _ => rfl
end Bh
end
section
set_option Elab.async false
set_option linter.all false
set_option maxRecDepth 100000
set_option maxHeartbeats 0
namespace Bh
open PySem MP
/-! ### truths -/
def truthB : Nat → Wv → Bool
  | 0, v => plainB v
  | n + 1, v => match v with
    | .tup [.str z, x] => if z = ("void" : Str) then truthB n x else plainB (.tup [.str z, x])
    | v => plainB v
def OkT (S : List Int) (M : Mem) (v : Wv) : Prop := OddW M v ∧ ∀ ws, v = .tup ws → ws.length ≤ 50 ∧ EqE S M ws ∧ ∀ w ∈ ws, OddW M w
def OkN (S : List Int) (M : Mem) : Nat → Wv → Prop
  | 0, v => OkT S M v
  | n + 1, v => OkT S M v ∧ ∀ z x, v = .tup [.str z, x] → OkN S M n x
theorem OkN.t {S : List Int} {M : Mem} {n : Nat} {v : Wv} (h : OkN S M n v) : OkT S M v := by
  cases n with
  | zero => exact h
  | succ n => exact h.1
def truL : Sl := (.cons (.ifs (.or (.not (.isi .tuple (.var 0))) (.or (.cmp .ne (.bi .len (.cons (.var 0) .nil)) (.con (.int 2))) (.or (.not (.isi .str (.sub (.var 0) (.con (.int 0))))) (.cmp .ne (.sub (.var 0) (.con (.int 0))) (.glb "VOID"))))) (.cons (.ret (.call ix_is_plain (.cons (.var 0) .nil) [])) .nil) .nil) (.cons (.asg (.nm 0) (.sub (.var 0) (.con (.int 1)))) .nil))
theorem truth_plain {n : Nat} {v : Wv} (h : ∀ x, v ≠ .tup [.str "void", x]) : truthB (n + 1) v = plainB v := by
  unfold truthB
  split
  · rename_i z x
    rw [if_neg (fun e => h x (by rw [e]))]
  · rfl
theorem tru_step (S : List Int) (k : Nat) {C1 : Nat → List Wv → Mem → Out Wv} {v : Wv} {M : Mem} {n : Nat} (h : OkN S M (n + 1) v) (x1 : Option Wv) :
    (evSl (Gp S) (callN (Gp S) fuel (k + 4)) C1 fuel truL [some v, x1] M).sat fun q M' => (∃ x, v = .tup [.str "void", x] ∧ q = (.nx, [some x, x1]) ∧ M' = M) ∨ (∃ σ, q = (.ret (.bl (truthB (n + 1) v)), σ) ∧ M <+: M') := by
  have pl := fun (hh : ∀ x, v ≠ .tup [.str "void", x]) => sat_mono (is_plain_ok S k h.t.1 h.t.2) (R := fun r M' => r = .bl (truthB (n + 1) v) ∧ M <+: M') fun r M' ⟨h1, h2⟩ => ⟨by rw [h1, truth_plain hh], h2⟩
  unfold truL
  by_cases ct : ∃ ws, v = .tup ws
  · obtain ⟨ws, rfl⟩ := ct
    have h1 : isiW .tuple (.tup ws) M = some true := rfl
    by_cases cl : ws.length = 2
    · match ws, cl with
      | [a, x], _ =>
        have ha := (h.t.2 _ rfl).2.2 a (by simp)
        by_cases cs : ∃ z, a = .str z
        · obtain ⟨z, rfl⟩ := cs
          have hs : SeqAt.shaped (.str z) = true := by
            have := shaped_dat (n := 1) (w := .str z) ha.2 (by omega)
            simpa only [dat] using this
          simp only [q_nil, q_cons, k_nx, k_ret, k_brk, k_ct, q_asg, q_asgA, q_asgS, q_aug, q_ex, q_ret, q_retN, q_pass, q_brk, q_cont, q_ifs, q_for, q_whl, b_t, b_f, be_t, be_f, ba_t, ba_f, bo_t, bo_f, t_bl, t_int, t_non,     q_var, q_con, q_glb, q_tup, q_lst, q_dict0, q_bin, q_neg, q_not, q_and, q_or, q_ife, q_cmp, q_cmp2, q_attr, q_sub, q_srev, q_call, q_callk, q_meth, q_bm, q_new, q_bi, q_isi, q_lc, q_dc, q_sortk, q_sortv, q_sortvM, q_maxk, q_dict2, q_anil, q_acons, q_ival, q_items, q_vals, q_rng, q_zip, q_cntT, q_tab, q_tnin, q_zipT,     o_add, o_sub, o_mul, o_fdiv, o_mod, o_pow18, o_addT, ag_add, ag_sub, c_lt, c_gt, c_le, c_ge, c_eq, c_ne, c_is, c_isn, c_in, c_nin, u_tup, u_scr, n_scr, n_tup, n_str, n_abs, n_min2, n_max2, tg_nm, tg_2, tg_3, at_0, at_1, at_2, at_3, at_4, i_int, sat_some, getV_0, getV_s,     List.set_cons_zero, List.set_cons_succ, List.map_cons, List.map_nil, List.replicate_succ, List.replicate_zero, List.cons_append, List.nil_append, List.length_cons, List.length_nil, h1, Option.map_some, Bool.not_true]
          refine ⟨true, (eqW_int _ _).trans (by simp), ?_⟩
          simp only [Bool.not_true, q_nil, q_cons, k_nx, k_ret, k_brk, k_ct, q_asg, q_asgA, q_asgS, q_aug, q_ex, q_ret, q_retN, q_pass, q_brk, q_cont, q_ifs, q_for, q_whl, b_t, b_f, be_t, be_f, ba_t, ba_f, bo_t, bo_f, t_bl, t_int, t_non,     q_var, q_con, q_glb, q_tup, q_lst, q_dict0, q_bin, q_neg, q_not, q_and, q_or, q_ife, q_cmp, q_cmp2, q_attr, q_sub, q_srev, q_call, q_callk, q_meth, q_bm, q_new, q_bi, q_isi, q_lc, q_dc, q_sortk, q_sortv, q_sortvM, q_maxk, q_dict2, q_anil, q_acons, q_ival, q_items, q_vals, q_rng, q_zip, q_cntT, q_tab, q_tnin, q_zipT,     o_add, o_sub, o_mul, o_fdiv, o_mod, o_pow18, o_addT, ag_add, ag_sub, c_lt, c_gt, c_le, c_ge, c_eq, c_ne, c_is, c_isn, c_in, c_nin, u_tup, u_scr, n_scr, n_tup, n_str, n_abs, n_min2, n_max2, tg_nm, tg_2, tg_3, at_0, at_1, at_2, at_3, at_4, i_int, sat_some, getV_0, getV_s,     List.set_cons_zero, List.set_cons_succ, List.map_cons, List.map_nil, List.replicate_succ, List.replicate_zero, List.cons_append, List.nil_append, List.length_cons, List.length_nil, isi_str, Option.map_some, con_VOID]
          refine ⟨_, eqW_str hs (by decide +kernel), ?_⟩
          by_cases cz : z = ("void" : Str)
          · rw [decide_eq_true cz]
            subst cz
            simp only [Bool.not_true, q_nil, q_cons, k_nx, k_ret, k_brk, k_ct, q_asg, q_asgA, q_asgS, q_aug, q_ex, q_ret, q_retN, q_pass, q_brk, q_cont, q_ifs, q_for, q_whl, b_t, b_f, be_t, be_f, ba_t, ba_f, bo_t, bo_f, t_bl, t_int, t_non,     q_var, q_con, q_glb, q_tup, q_lst, q_dict0, q_bin, q_neg, q_not, q_and, q_or, q_ife, q_cmp, q_cmp2, q_attr, q_sub, q_srev, q_call, q_callk, q_meth, q_bm, q_new, q_bi, q_isi, q_lc, q_dc, q_sortk, q_sortv, q_sortvM, q_maxk, q_dict2, q_anil, q_acons, q_ival, q_items, q_vals, q_rng, q_zip, q_cntT, q_tab, q_tnin, q_zipT,     o_add, o_sub, o_mul, o_fdiv, o_mod, o_pow18, o_addT, ag_add, ag_sub, c_lt, c_gt, c_le, c_ge, c_eq, c_ne, c_is, c_isn, c_in, c_nin, u_tup, u_scr, n_scr, n_tup, n_str, n_abs, n_min2, n_max2, tg_nm, tg_2, tg_3, at_0, at_1, at_2, at_3, at_4, i_int, sat_some, getV_0, getV_s,     List.set_cons_zero, List.set_cons_succ, List.map_cons, List.map_nil, List.replicate_succ, List.replicate_zero, List.cons_append, List.nil_append, List.length_cons, List.length_nil]
            exact .inl ⟨x, rfl, by first | rfl | trivial, by first | rfl | trivial⟩
          · rw [decide_eq_false cz]
            simp only [Bool.not_false, q_nil, q_cons, k_nx, k_ret, k_brk, k_ct, q_asg, q_asgA, q_asgS, q_aug, q_ex, q_ret, q_retN, q_pass, q_brk, q_cont, q_ifs, q_for, q_whl, b_t, b_f, be_t, be_f, ba_t, ba_f, bo_t, bo_f, t_bl, t_int, t_non,     q_var, q_con, q_glb, q_tup, q_lst, q_dict0, q_bin, q_neg, q_not, q_and, q_or, q_ife, q_cmp, q_cmp2, q_attr, q_sub, q_srev, q_call, q_callk, q_meth, q_bm, q_new, q_bi, q_isi, q_lc, q_dc, q_sortk, q_sortv, q_sortvM, q_maxk, q_dict2, q_anil, q_acons, q_ival, q_items, q_vals, q_rng, q_zip, q_cntT, q_tab, q_tnin, q_zipT,     o_add, o_sub, o_mul, o_fdiv, o_mod, o_pow18, o_addT, ag_add, ag_sub, c_lt, c_gt, c_le, c_ge, c_eq, c_ne, c_is, c_isn, c_in, c_nin, u_tup, u_scr, n_scr, n_tup, n_str, n_abs, n_min2, n_max2, tg_nm, tg_2, tg_3, at_0, at_1, at_2, at_3, at_4, i_int, sat_some, getV_0, getV_s,     List.set_cons_zero, List.set_cons_succ, List.map_cons, List.map_nil, List.replicate_succ, List.replicate_zero, List.cons_append, List.nil_append, List.length_cons, List.length_nil]
            refine sat_mono (pl fun x e => ?_) fun r M' ⟨h2, h3⟩ => (by subst h2; exact .inr ⟨_, rfl, h3⟩)
            injection e with e
            injection e with e _
            injection e with e
            exact cz e
        · simp only [q_nil, q_cons, k_nx, k_ret, k_brk, k_ct, q_asg, q_asgA, q_asgS, q_aug, q_ex, q_ret, q_retN, q_pass, q_brk, q_cont, q_ifs, q_for, q_whl, b_t, b_f, be_t, be_f, ba_t, ba_f, bo_t, bo_f, t_bl, t_int, t_non,     q_var, q_con, q_glb, q_tup, q_lst, q_dict0, q_bin, q_neg, q_not, q_and, q_or, q_ife, q_cmp, q_cmp2, q_attr, q_sub, q_srev, q_call, q_callk, q_meth, q_bm, q_new, q_bi, q_isi, q_lc, q_dc, q_sortk, q_sortv, q_sortvM, q_maxk, q_dict2, q_anil, q_acons, q_ival, q_items, q_vals, q_rng, q_zip, q_cntT, q_tab, q_tnin, q_zipT,     o_add, o_sub, o_mul, o_fdiv, o_mod, o_pow18, o_addT, ag_add, ag_sub, c_lt, c_gt, c_le, c_ge, c_eq, c_ne, c_is, c_isn, c_in, c_nin, u_tup, u_scr, n_scr, n_tup, n_str, n_abs, n_min2, n_max2, tg_nm, tg_2, tg_3, at_0, at_1, at_2, at_3, at_4, i_int, sat_some, getV_0, getV_s,     List.set_cons_zero, List.set_cons_succ, List.map_cons, List.map_nil, List.replicate_succ, List.replicate_zero, List.cons_append, List.nil_append, List.length_cons, List.length_nil, h1, Option.map_some, Bool.not_true]
          refine ⟨true, (eqW_int _ _).trans (by simp), ?_⟩
          simp only [Bool.not_true, q_nil, q_cons, k_nx, k_ret, k_brk, k_ct, q_asg, q_asgA, q_asgS, q_aug, q_ex, q_ret, q_retN, q_pass, q_brk, q_cont, q_ifs, q_for, q_whl, b_t, b_f, be_t, be_f, ba_t, ba_f, bo_t, bo_f, t_bl, t_int, t_non,     q_var, q_con, q_glb, q_tup, q_lst, q_dict0, q_bin, q_neg, q_not, q_and, q_or, q_ife, q_cmp, q_cmp2, q_attr, q_sub, q_srev, q_call, q_callk, q_meth, q_bm, q_new, q_bi, q_isi, q_lc, q_dc, q_sortk, q_sortv, q_sortvM, q_maxk, q_dict2, q_anil, q_acons, q_ival, q_items, q_vals, q_rng, q_zip, q_cntT, q_tab, q_tnin, q_zipT,     o_add, o_sub, o_mul, o_fdiv, o_mod, o_pow18, o_addT, ag_add, ag_sub, c_lt, c_gt, c_le, c_ge, c_eq, c_ne, c_is, c_isn, c_in, c_nin, u_tup, u_scr, n_scr, n_tup, n_str, n_abs, n_min2, n_max2, tg_nm, tg_2, tg_3, at_0, at_1, at_2, at_3, at_4, i_int, sat_some, getV_0, getV_s,     List.set_cons_zero, List.set_cons_succ, List.map_cons, List.map_nil, List.replicate_succ, List.replicate_zero, List.cons_append, List.nil_append, List.length_cons, List.length_nil, isi_str_no ha (fun z e => cs ⟨z, e⟩), Option.map_some, Bool.not_false]
          refine sat_mono (pl fun x e => ?_) fun r M' ⟨h2, h3⟩ => (by subst h2; exact .inr ⟨_, rfl, h3⟩)
          injection e with e
          injection e with e _
          exact cs ⟨_, e⟩
    · simp only [q_nil, q_cons, k_nx, k_ret, k_brk, k_ct, q_asg, q_asgA, q_asgS, q_aug, q_ex, q_ret, q_retN, q_pass, q_brk, q_cont, q_ifs, q_for, q_whl, b_t, b_f, be_t, be_f, ba_t, ba_f, bo_t, bo_f, t_bl, t_int, t_non,     q_var, q_con, q_glb, q_tup, q_lst, q_dict0, q_bin, q_neg, q_not, q_and, q_or, q_ife, q_cmp, q_cmp2, q_attr, q_sub, q_srev, q_call, q_callk, q_meth, q_bm, q_new, q_bi, q_isi, q_lc, q_dc, q_sortk, q_sortv, q_sortvM, q_maxk, q_dict2, q_anil, q_acons, q_ival, q_items, q_vals, q_rng, q_zip, q_cntT, q_tab, q_tnin, q_zipT,     o_add, o_sub, o_mul, o_fdiv, o_mod, o_pow18, o_addT, ag_add, ag_sub, c_lt, c_gt, c_le, c_ge, c_eq, c_ne, c_is, c_isn, c_in, c_nin, u_tup, u_scr, n_scr, n_tup, n_str, n_abs, n_min2, n_max2, tg_nm, tg_2, tg_3, at_0, at_1, at_2, at_3, at_4, i_int, sat_some, getV_0, getV_s,     List.set_cons_zero, List.set_cons_succ, List.map_cons, List.map_nil, List.replicate_succ, List.replicate_zero, List.cons_append, List.nil_append, List.length_cons, List.length_nil, h1, Option.map_some, Bool.not_true]
      refine ⟨_, eqW_int _ _, ?_⟩
      rw [decide_eq_false (by omega)]
      simp only [Bool.not_false, q_nil, q_cons, k_nx, k_ret, k_brk, k_ct, q_asg, q_asgA, q_asgS, q_aug, q_ex, q_ret, q_retN, q_pass, q_brk, q_cont, q_ifs, q_for, q_whl, b_t, b_f, be_t, be_f, ba_t, ba_f, bo_t, bo_f, t_bl, t_int, t_non,     q_var, q_con, q_glb, q_tup, q_lst, q_dict0, q_bin, q_neg, q_not, q_and, q_or, q_ife, q_cmp, q_cmp2, q_attr, q_sub, q_srev, q_call, q_callk, q_meth, q_bm, q_new, q_bi, q_isi, q_lc, q_dc, q_sortk, q_sortv, q_sortvM, q_maxk, q_dict2, q_anil, q_acons, q_ival, q_items, q_vals, q_rng, q_zip, q_cntT, q_tab, q_tnin, q_zipT,     o_add, o_sub, o_mul, o_fdiv, o_mod, o_pow18, o_addT, ag_add, ag_sub, c_lt, c_gt, c_le, c_ge, c_eq, c_ne, c_is, c_isn, c_in, c_nin, u_tup, u_scr, n_scr, n_tup, n_str, n_abs, n_min2, n_max2, tg_nm, tg_2, tg_3, at_0, at_1, at_2, at_3, at_4, i_int, sat_some, getV_0, getV_s,     List.set_cons_zero, List.set_cons_succ, List.map_cons, List.map_nil, List.replicate_succ, List.replicate_zero, List.cons_append, List.nil_append, List.length_cons, List.length_nil]
      refine sat_mono (pl fun x e => ?_) fun r M' ⟨h2, h3⟩ => (by subst h2; exact .inr ⟨_, rfl, h3⟩)
      injection e with e
      rw [e] at cl
      exact cl rfl
  · simp only [q_nil, q_cons, k_nx, k_ret, k_brk, k_ct, q_asg, q_asgA, q_asgS, q_aug, q_ex, q_ret, q_retN, q_pass, q_brk, q_cont, q_ifs, q_for, q_whl, b_t, b_f, be_t, be_f, ba_t, ba_f, bo_t, bo_f, t_bl, t_int, t_non,     q_var, q_con, q_glb, q_tup, q_lst, q_dict0, q_bin, q_neg, q_not, q_and, q_or, q_ife, q_cmp, q_cmp2, q_attr, q_sub, q_srev, q_call, q_callk, q_meth, q_bm, q_new, q_bi, q_isi, q_lc, q_dc, q_sortk, q_sortv, q_sortvM, q_maxk, q_dict2, q_anil, q_acons, q_ival, q_items, q_vals, q_rng, q_zip, q_cntT, q_tab, q_tnin, q_zipT,     o_add, o_sub, o_mul, o_fdiv, o_mod, o_pow18, o_addT, ag_add, ag_sub, c_lt, c_gt, c_le, c_ge, c_eq, c_ne, c_is, c_isn, c_in, c_nin, u_tup, u_scr, n_scr, n_tup, n_str, n_abs, n_min2, n_max2, tg_nm, tg_2, tg_3, at_0, at_1, at_2, at_3, at_4, i_int, sat_some, getV_0, getV_s,     List.set_cons_zero, List.set_cons_succ, List.map_cons, List.map_nil, List.replicate_succ, List.replicate_zero, List.cons_append, List.nil_append, List.length_cons, List.length_nil, isi_tup_no h.t.1 (fun ws e => ct ⟨ws, e⟩), Option.map_some, Bool.not_false]
    exact sat_mono (pl fun x e => ct ⟨_, e⟩) fun r M' ⟨h2, h3⟩ => (by subst h2; exact .inr ⟨_, rfl, h3⟩)
theorem is_truth_ok (S : List Int) (k : Nat) {v : Wv} {M : Mem} (h : OkN S M 3 v) : (callN (Gp S) fuel (k + 5) ix_is_truth [v] M).sat fun r M' => r = .bl (truthB 3 v) ∧ M <+: M' := by
  rw [at_is_truth]
  refine run_sat rfl ?_
  have e0 : sl_is_truth = .cons (.for_ (.nm 1) (.rng (.con (.int 0)) (.glb "MOST_DEEP")) truL) (.cons (.ret (.call ix_is_plain (.cons (.var 0) .nil) [])) .nil) := rfl
  show (evSl (Gp S) (callN (Gp S) fuel (k + 4)) (callN (Gp S) fuel (k + 3)) fuel sl_is_truth [some v, none] M).sat _
  rw [e0, q_cons, q_for, q_rng]
  simp only [q_con, q_glb, con_MOST_DEEP, sat_some, i_int]
  refine ⟨by decide, ?_⟩
  have er : rngW 0 3 = [.int 0, .int 1, .int 2] := rfl
  rw [er]
  show (forGo _ _ [] _ _ M).sat _
  refine for_rule (fun pre post σ M' => ∃ n v' x1, post.length = n ∧ σ = [some v', x1] ∧ OkN S M n v' ∧ truthB n v' = truthB 3 v ∧ M' = M) ?_ ?_ _ [] _ _ ⟨3, v, none, rfl, rfl, h, rfl, rfl⟩
  · rintro pre x post σ M' ⟨n, v', x1, hn, rfl, hv, ht, rfl⟩
    obtain ⟨m, rfl⟩ : ∃ m, n = m + 1 := ⟨post.length, by simpa using hn.symm⟩
    refine ⟨rfl, [some v', some x], rfl, ?_⟩
    refine sat_mono (tru_step S k hv (some x)) fun q M2 hq => ?_
    rcases hq with ⟨y, rfl, rfl, rfl⟩ | ⟨σ, rfl, pM⟩
    · refine ⟨m, y, _, by simpa using hn, rfl, hv.2 _ _ rfl, ?_, rfl⟩
      rw [← ht]
      show truthB m y = if ("void" : Str) = "void" then truthB m y else plainB (.tup [.str "void", y])
      rw [if_pos rfl]
    · rw [ht]
      show _ ∧ _
      exact ⟨rfl, pM⟩
  · rintro pre σ M' ⟨n, v', x1, hn, rfl, hv, ht, rfl⟩
    cases n with
    | succ n => cases hn
    | zero =>
      refine ⟨rfl, ?_⟩
      rw [k_nx, q_cons, q_ret]
      simp only [q_call, q_acons, q_anil, q_var, getV_0, getV_s, sat_some, List.append_nil]
      refine sat_mono (is_plain_ok S k hv.t.1 hv.t.2) fun r M2 ⟨h2, h3⟩ => ?_
      rw [k_ret]
      exact ⟨by rw [h2, ← ht]; rfl, h3⟩
end Bh
end
section
set_option Elab.async false
set_option linter.all false
set_option maxRecDepth 100000
set_option maxHeartbeats 0
namespace Bh
open PySem MP
/-! ### how often a text is found in another: exactly -/
open PySem.Builtin.Str PySem.StrLaws in
theorem occ_exact (s v : Str) (hi lim : Nat) (hv : v.length = 4) (hsep : ∀ i j, subAt s v i = true → subAt s v j = true → i < j → i + 4 ≤ j) (hlim : hi < lim) : ∀ (n i : Nat) (st : Array Nat × Nat), i + n ≤ hi + 1 → st.1.size ≤ i → (∀ j, i ≤ j → subAt s v j = true → st.2 ≤ j) →
    ((forIn (List.range' i n) st (occBody s v hi lim)).run).1.size = st.1.size + ((List.range' i n).filter fun j => decide (j + 4 ≤ hi) && subAt s v j).length
  | 0, i, st, _, _, _ => by simp
  | n + 1, i, st, hb, hs, hn => by
    rw [List.range'_succ, List.forIn_cons]
    by_cases hc : ((st.1.size < lim ∧ st.2 ≤ i) ∧ i + v.length ≤ hi) ∧ subAt s v i = true
    · have hb1 : occBody s v hi lim i st = pure (ForInStep.yield (st.1.push i, i + v.length)) := by unfold occBody; rw [if_pos hc]
      rw [hb1]
      have ih := occ_exact s v hi lim hv hsep hlim n (i + 1) (st.1.push i, i + v.length) (by omega) (by simp only [Array.size_push]; omega) (fun j hj h => by
        have := hsep i j hc.2 h (by omega)
        simp only [hv]; omega)
      show ((forIn (List.range' (i + 1) n) (st.1.push i, i + v.length) (occBody s v hi lim)).run).1.size = _
      rw [ih, List.filter_cons_of_pos (by rw [decide_eq_true (by have := hc.1.2; omega), hc.2]; rfl)]
      simp only [Array.size_push, List.length_cons]
      omega
    · have hb1 : occBody s v hi lim i st = pure (ForInStep.yield (st.1, st.2)) := by unfold occBody; rw [if_neg hc]
      rw [hb1]
      have ih := occ_exact s v hi lim hv hsep hlim n (i + 1) (st.1, st.2) (by omega) (by show st.1.size ≤ i + 1; omega) (fun j hj h => hn j (by omega) h)
      show ((forIn (List.range' (i + 1) n) (st.1, st.2) (occBody s v hi lim)).run).1.size = _
      rw [ih, List.filter_cons_of_neg]
      intro hx
      rw [Bool.and_eq_true, decide_eq_true_eq] at hx
      exact hc ⟨⟨⟨by omega, hn i (Nat.le_refl _) hx.2⟩, by omega⟩, hx.2⟩
open PySem.Builtin.Str PySem.StrLaws in
theorem count_exact {s v : Str} (hv : v.length = 4) (hsep : ∀ i j, subAt s v i = true → subAt s v j = true → i < j → i + 4 ≤ j) : Txt.count s v = (((List.range' 0 (s.length + 1)).filter fun j => decide (j + 4 ≤ s.length) && subAt s v j).length : Nat) := by
  have h := occ_exact s v s.length (s.length + 1) hv hsep (by omega) (s.length + 1) 0 (#[], 0) (by omega) (Nat.le_refl _) (fun j _ _ => Nat.zero_le _)
  unfold Txt.count
  rw [occ_eq]
  simp only [Array.length_toList, Nat.sub_zero]
  have h2 := congrArg (fun n : Nat => (n : Int)) h
  simpa using h2
/-- where the four signs stand -/
def at4 (l : List Nat) : Bool := match l with
  | 118 :: 111 :: 105 :: 100 :: _ => true
  | _ => false
def occL : List Nat → Nat
  | [] => 0
  | c :: r => (if at4 (c :: r) = true then 1 else 0) + occL r
theorem occL_range : ∀ (l : List Nat), occL l = ((List.range' 0 (l.length + 1)).filter fun j => at4 (l.drop j)).length
  | [] => by simp [occL, at4]
  | c :: r => by
    have e2 : List.range' (0 + 1) (r.length + 1) = (List.range' 0 (r.length + 1)).map (· + 1) := by
      have := List.map_add_range' 0 (r.length + 1) 1 (a := 1)
      rw [show (0 + 1) = 1 + 0 from rfl, ← this]
      exact List.map_congr_left fun x _ => Nat.add_comm _ _
    have e : (List.range' (0 + 1) (r.length + 1)).filter (fun j => at4 ((c :: r).drop j)) = ((List.range' 0 (r.length + 1)).filter fun j => at4 (r.drop j)).map (· + 1) := by
      rw [e2, List.filter_map]
      rfl
    show (if at4 (c :: r) = true then 1 else 0) + occL r = ((List.range' 0 (r.length + 1 + 1)).filter fun j => at4 ((c :: r).drop j)).length
    rw [show List.range' 0 (r.length + 1 + 1) = 0 :: List.range' (0 + 1) (r.length + 1) from List.range'_succ .., occL_range r]
    by_cases h : at4 (c :: r) = true
    · rw [if_pos h, List.filter_cons_of_pos (by simpa using h), e]
      simp only [List.length_cons, List.length_map]
      omega
    · rw [if_neg h, List.filter_cons_of_neg (by simpa using h), e]
      simp only [List.length_map]
      omega
end Bh
end
section
set_option Elab.async false
set_option linter.all false
set_option maxRecDepth 100000
set_option maxHeartbeats 0
namespace Bh
open PySem MP
/-! ### "void" in a text -/
theorem at4_iff (l : List Nat) : at4 l = true ↔ ∃ r, l = 118 :: 111 :: 105 :: 100 :: r := by
  constructor
  · intro h
    unfold at4 at h
    split at h
    · exact ⟨_, rfl⟩
    · cases h
  · rintro ⟨r, rfl⟩; rfl
theorem sub_at4 (s : Str) (i : Nat) : Builtin.Str.subAt s "void" i = at4 (s.cps.toList.drop i) := by
  have hv : ("void" : Str).cps = #[118, 111, 105, 100] := by decide +kernel
  have hl : ("void" : Str).length = 4 := by decide +kernel
  unfold Builtin.Str.subAt
  rw [hl, hv]
  have e : (s.cps.extract i (i + 4)).toList = (s.cps.toList.drop i).take 4 := by
    rw [Array.toList_extract]
    simp [List.extract]
  generalize s.cps.toList.drop i = l at e
  rw [Bool.eq_iff_iff, at4_iff]
  constructor
  · intro h
    have h2 : s.cps.extract i (i + 4) = #[118, 111, 105, 100] := eq_of_beq h
    rw [h2] at e
    match l, e with
    | a :: b :: c :: d :: r, e =>
      simp only [List.take_succ_cons, List.take_zero, List.cons.injEq, and_true] at e
      obtain ⟨rfl, rfl, rfl, rfl⟩ := e
      exact ⟨r, rfl⟩
    | [], e => simp at e
    | [a], e => simp at e
    | [a, b], e => simp at e
    | [a, b, c], e => simp at e
  · rintro ⟨r, rfl⟩
    have h2 : s.cps.extract i (i + 4) = #[118, 111, 105, 100] := by
      apply Array.toList_inj.mp
      rw [e]
      rfl
    rw [h2]
    rfl
theorem count_void (s : Str) : Txt.count s "void" = ((occL s.cps.toList : Nat) : Int) := by
  have hv : ("void" : Str).length = 4 := by decide +kernel
  have hl : s.length = s.cps.toList.length := by rw [Array.length_toList]; rfl
  rw [count_exact hv (fun i j h1 h2 hij => ?_), occL_range, ← hl]
  · congr 2
    refine List.filter_congr fun j _ => ?_
    rw [sub_at4]
    cases h : at4 (s.cps.toList.drop j) with
    | false => rw [Bool.and_false]
    | true =>
      obtain ⟨r, e⟩ := (at4_iff _).mp h
      have := congrArg List.length e
      simp only [List.length_drop, List.length_cons] at this
      rw [decide_eq_true (by omega)]
      rfl
  · rw [sub_at4] at h1 h2
    obtain ⟨r, e1⟩ := (at4_iff _).mp h1
    obtain ⟨r2, e2⟩ := (at4_iff _).mp h2
    by_cases z : i + 4 ≤ j
    · exact z
    · have ed : s.cps.toList.drop j = (s.cps.toList.drop i).drop (j - i) := by rw [List.drop_drop]; congr 1; omega
      rw [ed, e1] at e2
      obtain h | h | h : j - i = 1 ∨ j - i = 2 ∨ j - i = 3 := by omega
      · rw [h] at e2; cases e2
      · rw [h] at e2; cases e2
      · rw [h] at e2; cases e2
/-- no "oi" -/
def noOI : List Nat → Bool
  | a :: b :: r => !(decide (a = 111) && decide (b = 105)) && noOI (b :: r)
  | _ => true
theorem occ_no : ∀ {l : List Nat}, noOI l = true → occL l = 0
  | [], _ => rfl
  | [c], _ => by simp [occL, at4]
  | c :: b :: r, h => by
    simp only [noOI, Bool.and_eq_true] at h
    rw [occL, occ_no h.2, if_neg]
    intro h4
    obtain ⟨q, e⟩ := (at4_iff _).mp h4
    injection e with e1 e2
    rw [e2] at h
    have := h.2
    simp [noOI] at this
theorem occ_preV (r : List Nat) : occL ([40, 39, 118, 111, 105, 100, 39, 44, 32] ++ r) = 1 + occL r := by
  simp only [List.cons_append, List.nil_append, occL, at4]
  simp
end Bh
end
section
set_option Elab.async false
set_option linter.all false
set_option maxRecDepth 100000
set_option maxHeartbeats 0
namespace Bh
open PySem MP
/-! ### texts without "void" -/
structure Clean (l : List Nat) : Prop where
  oi : noOI l = true
  hd : ∀ x, l.head? = some x → x ≠ 105
  la : ∀ x, l.getLast? = some x → x ≠ 111
theorem noOI_app : ∀ {a b : List Nat}, noOI a = true → noOI b = true → (∀ x, a.getLast? = some x → x ≠ 111) → noOI (a ++ b) = true
  | [], b, _, hb, _ => hb
  | [c], [], _, _, _ => rfl
  | [c], d :: b, _, hb, h => by
    have : c ≠ 111 := h c rfl
    show (!(decide (c = 111) && decide (d = 105)) && noOI (d :: b)) = true
    rw [decide_eq_false this, hb]; rfl
  | c :: d :: a, b, ha, hb, h => by
    simp only [noOI, Bool.and_eq_true] at ha
    show (!(decide (c = 111) && decide (d = 105)) && noOI ((d :: a) ++ b)) = true
    rw [noOI_app (a := d :: a) ha.2 hb (fun x hx => h x (by rw [List.getLast?_cons_cons]; exact hx)), ha.1]
    rfl
theorem Clean.app {a b : List Nat} (ha : Clean a) (hb : Clean b) : Clean (a ++ b) := by
  refine ⟨noOI_app ha.oi hb.oi ha.la, fun x hx => ?_, fun x hx => ?_⟩
  · cases a with
    | nil => exact hb.hd x hx
    | cons c a => exact ha.hd x hx
  · rw [List.getLast?_append] at hx
    cases hl : b.getLast? with
    | none => rw [hl] at hx; exact ha.la x (by simpa using hx)
    | some y => rw [hl] at hx; exact hb.la x (by rw [hl]; simpa using hx)
theorem noOI_free : ∀ {l : List Nat}, 111 ∉ l → noOI l = true
  | [], _ => rfl
  | [c], _ => rfl
  | c :: d :: l, h => by
    simp only [List.mem_cons, not_or] at h
    simp only [noOI, Bool.and_eq_true]
    refine ⟨?_, noOI_free (by simp only [List.mem_cons, not_or]; exact ⟨h.2.1, h.2.2⟩)⟩
    rw [decide_eq_false (Ne.symm h.1)]; rfl
theorem clean_free {l : List Nat} (h1 : 111 ∉ l) (h2 : 105 ∉ l) : Clean l :=
  ⟨noOI_free h1, fun x hx e => h2 (by rw [← e]; exact List.mem_of_head? hx), fun x hx e => h1 (by rw [← e]; exact List.mem_of_getLast? hx)⟩
theorem clean_nil : Clean [] := ⟨rfl, fun _ h => (by cases h), fun _ h => (by cases h)⟩
theorem clean_join : ∀ {ts : List Str}, (∀ t ∈ ts, Clean t.cps.toList) → Clean (Str.join ", " ts).cps.toList
  | [], _ => by rw [PyProof.Rows.join_nil]; exact clean_nil
  | [x], h => by rw [PyProof.Rows.join_one]; exact h x (by simp)
  | x :: y :: r, h => by
    rw [PyProof.Rows.join_cons_cons, PyProof.Rows.cps_toList_append, PyProof.Rows.cps_toList_append, PyProof.Rows.signs_sep]
    exact ((h x (by simp)).app (clean_free (by decide) (by decide))).app (clean_join fun t ht => h t (List.mem_cons_of_mem _ ht))
theorem clean_tuple {xs : List PyData} (h : ∀ x ∈ xs, Clean x.shown.cps.toList) : Clean (PyData.tuple xs).shown.cps.toList := by
  have ht : ∀ t ∈ PyData.shownAll xs, Clean t.cps.toList := by
    induction xs with
    | nil => intro t ht; simp [PyData.shownAll] at ht
    | cons x xs ih =>
      intro t ht
      simp only [PyData.shownAll, List.mem_cons] at ht
      rcases ht with rfl | ht
      · exact h x (by simp)
      · exact ih (fun y hy => h y (List.mem_cons_of_mem _ hy)) t ht
  have e : (PyData.tuple xs).shown = tupleText (PyData.shownAll xs) := by simp only [PyData.shown]
  rw [e]
  unfold tupleText
  rw [PyProof.Rows.cps_toList_append, PyProof.Rows.cps_toList_append, PyProof.Rows.signs_lparen]
  refine ((clean_free (by decide) (by decide)).app (clean_join ht)).app ?_
  split
  · exact clean_free (by decide) (by decide)
  · exact clean_free (by decide) (by decide)
theorem clean_int (i : Int) : Clean (PyData.int i).shown.cps.toList := clean_free (PyProof.Rows.shown_int_free' (by decide) i) (PyProof.Rows.shown_int_free' (by decide) i)
def cleanB (l : List Nat) : Bool := noOI l && decide (l.head? ≠ some 105) && decide (l.getLast? ≠ some 111)
theorem clean_of {l : List Nat} (h : cleanB l = true) : Clean l := by
  unfold cleanB at h
  rw [Bool.and_eq_true, Bool.and_eq_true, decide_eq_true_eq, decide_eq_true_eq] at h
  exact ⟨h.1.1, fun x hx e => h.1.2 (by rw [hx, e]), fun x hx e => h.2 (by rw [hx, e])⟩
def vdD : Nat → PyData → PyData
  | 0, x => x
  | n + 1, x => .tuple [.str "void", vdD n x]
theorem shown_void1 (x : PyData) : (PyData.shown (.tuple [.str "void", x])).cps.toList = [40, 39, 118, 111, 105, 100, 39, 44, 32] ++ (x.shown.cps.toList ++ [41]) := by
  have e1 : reprText ("void" : Str) = "'void'" := by decide +kernel
  have e2 : PyData.shown (.tuple [.str "void", x]) = ("(" : Str) ++ (("'void'" : Str) ++ (", " : Str) ++ x.shown) ++ (")" : Str) := by
    simp only [PyData.shown, PyData.shownAll, tupleText, e1, Str.join]
    rfl
  have app : ∀ a b : Str, (a ++ b).cps.toList = a.cps.toList ++ b.cps.toList := PyProof.Rows.cps_toList_append
  rw [e2, app, app, app, app]
  have c1 : ("(" : Str).cps.toList = [40] := by decide +kernel
  have c2 : ("'void'" : Str).cps.toList = [39, 118, 111, 105, 100, 39] := by decide +kernel
  have c3 : (", " : Str).cps.toList = [44, 32] := by decide +kernel
  have c4 : (")" : Str).cps.toList = [41] := by decide +kernel
  rw [c1, c2, c3, c4]
  simp
theorem occ_vd {x : PyData} (h : Clean x.shown.cps.toList) : ∀ (n m : Nat), occL ((vdD n x).shown.cps.toList ++ List.replicate m 41) = n
  | 0, m => occ_no (noOI_app h.oi (noOI_free (by simp)) h.la)
  | n + 1, m => by
    show occL ((PyData.shown (.tuple [.str "void", vdD n x])).cps.toList ++ _) = _
    rw [shown_void1, List.append_assoc, occ_preV, List.append_assoc]
    rw [show ([41] ++ List.replicate m 41 : List Nat) = List.replicate (m + 1) 41 from rfl, occ_vd h n (m + 1)]
    omega
theorem count_vd {x : PyData} (h : Clean x.shown.cps.toList) (n : Nat) : Txt.count (vdD n x).shown "void" = (n : Int) := by
  rw [count_void]
  have := occ_vd h n 0
  simp only [List.replicate_zero, List.append_nil] at this
  rw [this]
end Bh
end
section
set_option Elab.async false
set_option linter.all false
set_option maxRecDepth 100000
set_option maxHeartbeats 0
namespace Bh
open PySem MP
/-! ### worlds -/
/-- a truth that is no void: its word, its day, the rest -/
structure Bt where
  w : Str
  d : Int
  xs : List Wv
  deriving DecidableEq
def Bt.v (t : Bt) : Wv := .tup (.str t.w :: .int t.d :: t.xs)
def Bt.tn (t : Bt) : Nat := if t.w = ("share" : Str) then 2 else if t.w = ("release" : Str) then 3 else 1
def Bt.thing (t : Bt) : Wv := .tup (.str t.w :: t.xs.take t.tn)
def Bt.key (t : Bt) : Wv := .tup [t.thing, .int t.d]
structure Bt.ok (t : Bt) : Prop where
  nv : t.w ≠ ("void" : Str)
  sh : SeqAt.shaped (.str t.w) = true
  ln : t.tn ≤ t.xs.length
  pv : pur 5 t.v = true
  kt : keyT t.thing = true
  kk : keyT t.key = true
  pk : pur 6 t.key = true
/-- truths of one thing and day are alike -/
def Alk (fs : List Bt) : Prop := ∀ u ∈ fs, ∀ t ∈ fs, u.key = t.key → W.alike (dat u.v) (dat t.v) = true
/-! ### truths by their words' forms -/
def okS (x : Str) : Bool := PyData.strOk x && decide (x.length ≤ 8)
def okI (i : Int) : Bool := decide (0 ≤ i) && decide (i < 10000000)
/-- texts (true) and numbers (false), place by place -/
def sigM : List Bool → List Wv → Bool
  | [], [] => true
  | true :: s, .str x :: r => okS x && sigM s r
  | false :: s, .int i :: r => okI i && sigM s r
  | _, _ => false
def sigT : List (Str × List Bool) := [("place", [true, true, false, false]), ("read", [true, false]), ("right", [true, true, true, false, false, false, false, false, false, true, false]), ("ask", [true, false]), ("store", [true]), ("dam", [true, false, false]), ("share", [true, true, false]), ("release", [true, true, true, false]), ("sold", [true, true]), ("leased", [true, true, false]), ("moved", [true, true])]
/-- a truth of one of the words, of its form -/
def BKb (t : Bt) : Prop := okI t.d = true ∧ ∃ s, (t.w, s) ∈ sigT ∧ sigM s t.xs = true
theorem sigM_ind {P : List Bool → List Wv → Prop} (h0 : P [] []) (hs : ∀ s x r, okS x = true → sigM s r = true → P s r → P (true :: s) (.str x :: r)) (hi : ∀ s i r, okI i = true → sigM s r = true → P s r → P (false :: s) (.int i :: r)) : ∀ s xs, sigM s xs = true → P s xs
  | [], [], _ => h0
  | true :: s, .str x :: r, h => by
    simp only [sigM, Bool.and_eq_true] at h
    exact hs s x r h.1 h.2 (sigM_ind h0 hs hi s r h.2)
  | false :: s, .int i :: r, h => by
    simp only [sigM, Bool.and_eq_true] at h
    exact hi s i r h.1 h.2 (sigM_ind h0 hs hi s r h.2)
  | [], _ :: _, h => by simp [sigM] at h
  | true :: s, [], h => by simp [sigM] at h
  | false :: s, [], h => by simp [sigM] at h
  | true :: s, .int _ :: _, h => by simp [sigM] at h
  | true :: s, .non :: _, h => by simp [sigM] at h
  | true :: s, .bl _ :: _, h => by simp [sigM] at h
  | true :: s, .tup _ :: _, h => by simp [sigM] at h
  | true :: s, .ref _ :: _, h => by simp [sigM] at h
  | true :: s, .scr :: _, h => by simp [sigM] at h
  | false :: s, .str _ :: _, h => by simp [sigM] at h
  | false :: s, .non :: _, h => by simp [sigM] at h
  | false :: s, .bl _ :: _, h => by simp [sigM] at h
  | false :: s, .tup _ :: _, h => by simp [sigM] at h
  | false :: s, .ref _ :: _, h => by simp [sigM] at h
  | false :: s, .scr :: _, h => by simp [sigM] at h
theorem sig_len {s : List Bool} {xs : List Wv} (h : sigM s xs = true) : xs.length = s.length :=
  sigM_ind (P := fun s xs => xs.length = s.length) rfl (fun s x r _ _ h => by simp [h]) (fun s i r _ _ h => by simp [h]) s xs h
theorem okS_ok {x : Str} (h : okS x = true) : PyData.strOk x = true := by
  unfold okS at h
  rw [Bool.and_eq_true] at h
  exact h.1
theorem sig_purs (n : Nat) {s : List Bool} {xs : List Wv} (h : sigM s xs = true) : purs n xs = true :=
  sigM_ind (P := fun s xs => purs n xs = true) (by simp [purs]) (fun s x r hx _ h => by simp [purs, pur, okS_ok hx, h]) (fun s i r _ _ h => by simp [purs, pur, h]) s xs h
theorem sig_key (n : Nat) {s : List Bool} {xs : List Wv} (h : sigM s xs = true) : keyTup n xs = true :=
  sigM_ind (P := fun s xs => keyTup n xs = true) (by simp [keyTup]) (fun s x r hx _ h => by simp [keyTup, keyIn, h]) (fun s i r _ _ h => by simp [keyTup, keyIn, h]) s xs h
theorem sig_take {s : List Bool} {xs : List Wv} (h : sigM s xs = true) : ∀ n, sigM (s.take n) (xs.take n) = true :=
  sigM_ind (P := fun s xs => ∀ n, sigM (s.take n) (xs.take n) = true) (fun n => by simp [sigM]) (fun s x r hx _ h n => by
    cases n with
    | zero => rfl
    | succ n => simp only [List.take_succ_cons, sigM, hx, h n, Bool.and_self]) (fun s i r hi _ h n => by
    cases n with
    | zero => rfl
    | succ n => simp only [List.take_succ_cons, sigM, hi, h n, Bool.and_self]) s xs h
theorem sig_alike {s : List Bool} {xs : List Wv} (h : sigM s xs = true) : ∀ ys, sigM s ys = true → W.alikeAll (dats xs) (dats ys) = true :=
  sigM_ind (P := fun s xs => ∀ ys, sigM s ys = true → W.alikeAll (dats xs) (dats ys) = true) (fun ys _ => by simp [dats, W.alikeAll]) (fun s x r hx _ h ys hy => by
    match ys, hy with
    | .str y :: ys, hy =>
      simp only [sigM, Bool.and_eq_true] at hy
      simp only [dats, dat, W.alikeAll, W.alike, h ys hy.2, Bool.and_self]) (fun s i r hi _ h ys hy => by
    match ys, hy with
    | .int y :: ys, hy =>
      simp only [sigM, Bool.and_eq_true] at hy
      simp only [dats, dat, W.alikeAll, W.alike, h ys hy.2, Bool.and_self]) s xs h
/-- texts alone are alike, however many -/
theorem strs_alike : ∀ {s t : List Bool} {xs ys : List Wv}, sigM s xs = true → sigM t ys = true → (s.all id) = true → (t.all id) = true → W.alikeAll (dats xs) (dats ys) = true
  | [], _, [], _, _, _, _, _ => by simp [dats, W.alikeAll]
  | _ :: _, [], _ :: _, [], _, _, _, _ => by simp [dats, W.alikeAll]
  | true :: s, true :: t, .str x :: xs, .str y :: ys, h1, h2, h3, h4 => by
    simp only [sigM, Bool.and_eq_true] at h1 h2
    simp only [List.all_cons, id, Bool.true_and] at h3 h4
    simp only [dats, dat, W.alikeAll, W.alike, strs_alike h1.2 h2.2 h3 h4, Bool.and_self]
  | [], _, _ :: _, _, h, _, _, _ => by simp [sigM] at h
  | true :: _, _, [], _, h, _, _, _ => by simp [sigM] at h
  | false :: _, _, _, _, _, _, h, _ => by simp at h
  | _, false :: _, _, _, _, _, _, h => by simp at h
  | true :: _, [], _, _ :: _, _, h, _, _ => by simp [sigM] at h
  | true :: _, true :: _, _, [], _, h, _, _ => by simp [sigM] at h
  | true :: _, _, .int _ :: _, _, h, _, _, _ => by simp [sigM] at h
  | true :: _, _, .non :: _, _, h, _, _, _ => by simp [sigM] at h
  | true :: _, _, .bl _ :: _, _, h, _, _, _ => by simp [sigM] at h
  | true :: _, _, .tup _ :: _, _, h, _, _, _ => by simp [sigM] at h
  | true :: _, _, .ref _ :: _, _, h, _, _, _ => by simp [sigM] at h
  | true :: _, _, .scr :: _, _, h, _, _, _ => by simp [sigM] at h
  | _, true :: _, _, .int _ :: _, _, h, _, _ => by simp [sigM] at h
  | _, true :: _, _, .non :: _, _, h, _, _ => by simp [sigM] at h
  | _, true :: _, _, .bl _ :: _, _, h, _, _ => by simp [sigM] at h
  | _, true :: _, _, .tup _ :: _, _, h, _, _ => by simp [sigM] at h
  | _, true :: _, _, .ref _ :: _, _, h, _, _ => by simp [sigM] at h
  | _, true :: _, _, .scr :: _, _, h, _, _ => by simp [sigM] at h
def tnW (w : Str) : Nat := if w = ("share" : Str) then 2 else if w = ("release" : Str) then 3 else 1
theorem tn_eq (t : Bt) : t.tn = tnW t.w := rfl
theorem sig_words : ∀ p ∈ sigT, p.1 ≠ ("void" : Str) ∧ SeqAt.shaped (.str p.1) = true ∧ PyData.strOk p.1 = true ∧ tnW p.1 ≤ p.2.length ∧ ((p.2.take (tnW p.1)).all id) = true := by
  have : (sigT.all fun p => decide (p.1 ≠ ("void" : Str)) && SeqAt.shaped (.str p.1) && PyData.strOk p.1 && decide (tnW p.1 ≤ p.2.length) && ((p.2.take (tnW p.1)).all id)) = true := by decide +kernel
  intro p hp
  have h := List.all_eq_true.mp this p hp
  simp only [Bool.and_eq_true] at h
  exact ⟨of_decide_eq_true h.1.1.1.1, h.1.1.1.2, h.1.1.2, of_decide_eq_true h.1.2, h.2⟩
theorem sig_one : ∀ p ∈ sigT, ∀ q ∈ sigT, p.1 = q.1 → p = q := by
  have : (sigT.all fun p => sigT.all fun q => !decide (p.1 = q.1) || decide (p = q)) = true := by decide +kernel
  intro p hp q hq e
  have h := List.all_eq_true.mp (List.all_eq_true.mp this p hp) q hq
  rw [decide_eq_true e] at h
  simpa using h
theorem BKb.ok {t : Bt} (h : BKb t) : t.ok := by
  obtain ⟨hd, s, hs, hm⟩ := h
  obtain ⟨w1, w2, w3, w4, w5⟩ := sig_words _ hs
  have htk := sig_take hm t.tn
  refine ⟨w1, w2, ?_, ?_, ?_, ?_, ?_⟩
  · rw [tn_eq, sig_len hm]; exact w4
  · show pur 5 (.tup (.str t.w :: .int t.d :: t.xs)) = true
    simp only [pur, purs, w3, sig_purs 4 hm, Bool.and_self]
  · show keyTup 7 (.str t.w :: t.xs.take t.tn) = true
    simp only [keyTup, keyIn, sig_key 7 htk, Bool.and_self]
  · show keyTup 7 [t.thing, .int t.d] = true
    simp only [Bt.thing, keyTup, keyIn, sig_key 6 htk, Bool.and_self]
  · show pur 6 (.tup [t.thing, .int t.d]) = true
    simp only [Bt.thing, pur, purs, w3, sig_purs 4 htk, Bool.and_self]
theorem BKb.kv {t : Bt} (h : BKb t) : keyT t.v = true := by
  obtain ⟨hd, s, hs, hm⟩ := h
  show keyTup 7 (.str t.w :: .int t.d :: t.xs) = true
  simp only [keyTup, keyIn, sig_key 7 hm, Bool.and_self]
theorem thing_w {u t : Bt} (h : u.thing = t.thing) : u.w = t.w := by
  simp only [Bt.thing, Wv.tup.injEq, List.cons.injEq, Wv.str.injEq] at h
  exact h.1
theorem BKb.alk {fs : List Bt} (h : ∀ t ∈ fs, BKb t) : Alk fs := fun u hu t ht e => by
  obtain ⟨_, s, hs, hm⟩ := h u hu
  obtain ⟨_, r, hr, hn⟩ := h t ht
  have ew : u.w = t.w := by
    simp only [Bt.key, Wv.tup.injEq, List.cons.injEq] at e
    exact thing_w e.1
  have := sig_one _ hs _ hr ew
  have es : s = r := congrArg Prod.snd this
  subst es
  simp only [Bt.v, dat, dats, W.alike, W.alikeAll, sig_alike hm _ hn, Bool.and_self]
theorem BKb.kalike {u t : Bt} (hu : BKb u) (ht : BKb t) : W.alike (dat u.key) (dat t.key) = true := by
  obtain ⟨_, s, hs, hm⟩ := hu
  obtain ⟨_, r, hr, hn⟩ := ht
  have a1 := (sig_words _ hs).2.2.2.2
  have a2 := (sig_words _ hr).2.2.2.2
  have := strs_alike (sig_take hm u.tn) (sig_take hn t.tn) a1 a2
  simp only [Bt.key, Bt.thing, dat, dats, W.alike, W.alikeAll, this, Bool.and_self]
/-- keys are sorted, somehow -/
theorem sort_ex (cf : List Bt) (h : ∀ t ∈ cf, BKb t) : ∃ sk, cf.Perm sk ∧ sortBy ((cf.map Bt.key).map dat) (cf.map Bt.key) = some (sk.map Bt.key) := by
  have ha : alikeAllB (cf.map (dat ∘ Bt.key)) = true := alikeAllB_map fun u hu t ht => (h u hu).kalike (h t ht)
  have hs : sortableB (cf.map (dat ∘ Bt.key)) = true := sortableB_tup fun u hu => ⟨_, _, rfl⟩
  have hd : (cf.map (dat ∘ Bt.key)).all dcap = true := dcap_map fun u hu => Nat.le_trans (dat_depth (h u hu).ok.pk) (by decide)
  have e2 := List.map_mergeSort (r := fun a b : Bt => W.dataLe false (fun p : PyData × Wv => p.1) (dat a.key, a.key) (dat b.key, b.key)) (s := fun a b => W.dataLe false (fun p : PyData × Wv => p.1) a b) (f := fun a : Bt => (dat a.key, a.key)) (l := cf) (fun a ha b hb => rfl)
  refine ⟨_, (List.mergeSort_perm cf (fun a b : Bt => W.dataLe false (fun p : PyData × Wv => p.1) (dat a.key, a.key) (dat b.key, b.key))).symm, ?_⟩
  rw [List.map_map]
  unfold sortBy
  rw [ha, hs, hd]
  simp only [Bool.and_self, if_true]
  have e1 : (cf.map (dat ∘ Bt.key)).zip (cf.map Bt.key) = cf.map fun a : Bt => (dat a.key, a.key) := by rw [List.zip_map']; rfl
  rw [e1, ← e2, List.map_map]
  rfl
end Bh
end
section
set_option Elab.async false
set_option linter.all false
set_option maxRecDepth 100000
set_option maxHeartbeats 0
namespace Bh
open PySem MP
/-! ### voids, and how they are told as text -/
def vdN : Nat → Wv → Wv
  | 0, v => v
  | n + 1, v => .tup [.str "void", vdN n v]
theorem sig_small : ∀ p ∈ sigT, p.1.cps.size ≤ 8 := by
  have : (sigT.all fun p => decide (p.1.cps.size ≤ 8)) = true := by decide +kernel
  exact fun p hp => of_decide_eq_true (List.all_eq_true.mp this p hp)
theorem int_small {i : Int} (h : okI i = true) : PyData.showable (.int i) = true ∧ PyData.intsShort 13 (.int i) = true ∧ PyData.weight (.int i) ≤ 25 := by
  unfold okI at h
  rw [Bool.and_eq_true] at h
  have h1 := of_decide_eq_true h.1
  have h2 := of_decide_eq_true h.2
  have hn : i.natAbs < 10000000 := by omega
  have hlog : i.natAbs.log2 ≤ 24 := by
    by_cases z : i.natAbs = 0
    · rw [z]; decide
    · have := (Nat.log2_lt z (k := 25)).mpr (by omega)
      omega
  refine ⟨?_, ?_, ?_⟩
  · simp only [PyData.showable]
    exact decide_eq_true (by omega)
  · simp only [PyData.intsShort]
    refine decide_eq_true ?_
    have := int_text_length_le10 (a := i) (k := 7) (by omega) (by omega)
    show (Str.ofString (toString i)).length ≤ 13
    rw [ofString_length]
    omega
  · simp only [PyData.weight]
    split <;> omega
theorem sig_shown {s : List Bool} {xs : List Wv} (h : sigM s xs = true) : PyData.showableAll (dats xs) = true ∧ PyData.intsShortAll 13 (dats xs) = true ∧ PyData.weightAll (dats xs) ≤ 26 * xs.length :=
  sigM_ind (P := fun s xs => PyData.showableAll (dats xs) = true ∧ PyData.intsShortAll 13 (dats xs) = true ∧ PyData.weightAll (dats xs) ≤ 26 * xs.length) ⟨by simp [dats, PyData.showableAll], by simp [dats, PyData.intsShortAll], by simp [dats, PyData.weightAll]⟩
    (fun s x r hx _ ⟨h1, h2, h3⟩ => by
      have hl : x.cps.size ≤ 8 := by
        unfold okS at hx
        rw [Bool.and_eq_true] at hx
        exact of_decide_eq_true hx.2
      refine ⟨by simp [dats, dat, PyData.showableAll, PyData.showable, h1], by simp [dats, dat, PyData.intsShortAll, PyData.intsShort, h2], ?_⟩
      simp only [dats, dat, PyData.weightAll, PyData.weight, List.length_cons]
      omega)
    (fun s i r hi _ ⟨h1, h2, h3⟩ => by
      obtain ⟨g1, g2, g3⟩ := int_small hi
      refine ⟨by simp only [dats, dat, PyData.showableAll, g1, h1, Bool.and_self], by simp only [dats, dat, PyData.intsShortAll, g2, h2, Bool.and_self], ?_⟩
      simp only [dats, dat, PyData.weightAll, List.length_cons]
      omega) s xs h
theorem sig_short : ∀ p ∈ sigT, p.2.length ≤ 11 := by
  have : (sigT.all fun p => decide (p.2.length ≤ 11)) = true := by decide +kernel
  exact fun p hp => of_decide_eq_true (List.all_eq_true.mp this p hp)
theorem vd_strOk : PyData.strOk ("void" : Str) = true := by decide +kernel
theorem vdN_pur {t : Bt} (h : BKb t) : ∀ n, pur (n + 5) (vdN n t.v) = true
  | 0 => h.ok.pv
  | n + 1 => by
    show (PyData.strOk ("void" : Str) && (pur (n + 5) (vdN n t.v) && true)) = true
    rw [vd_strOk, vdN_pur h n]
    rfl
theorem vdN_shown {t : Bt} (h : BKb t) : ∀ n, PyData.showable (dat (vdN n t.v)) = true ∧ PyData.intsShort 13 (dat (vdN n t.v)) = true ∧ PyData.weight (dat (vdN n t.v)) ≤ 400 + 10 * n
  | 0 => by
    obtain ⟨hd, s, hs, hm⟩ := h
    obtain ⟨g1, g2, g3⟩ := int_small hd
    obtain ⟨f1, f2, f3⟩ := sig_shown hm
    have hl := sig_len hm
    have h11 := sig_short _ hs
    have h8 := sig_small _ hs
    simp only at h8 h11
    refine ⟨?_, ?_, ?_⟩
    · simp only [vdN, Bt.v, dat, dats, PyData.showable, PyData.showableAll, g1, f1, Bool.and_self]
      simpa [PyData.showable] using g1
    · simp only [vdN, Bt.v, dat, dats, PyData.intsShort, PyData.intsShortAll, f2, Bool.true_and, Bool.and_true]
      simpa [PyData.intsShort] using g2
    · simp only [vdN, Bt.v, dat, dats, PyData.weight, PyData.weightAll] at g3 ⊢
      omega
  | n + 1 => by
    obtain ⟨g1, g2, g3⟩ := vdN_shown h n
    refine ⟨?_, ?_, ?_⟩
    · simp only [vdN, dat, dats, PyData.showable, PyData.showableAll, g1, Bool.and_self]
    · simp only [vdN, dat, dats, PyData.intsShort, PyData.intsShortAll, g2, Bool.and_self]
    · have e4 : ("void" : Str).cps.size = 4 := by decide +kernel
      simp only [vdN, dat, dats, PyData.weight, PyData.weightAll, e4]
      omega
theorem str_ok (S : List Int) {t : Bt} (h : BKb t) (n : Nat) (hn : n ≤ 3) (M : Mem) : biW (Gp S) .str [vdN n t.v] M = .ok (.str (dat (vdN n t.v)).shown) M := by
  have hp := vdN_pur h n
  obtain ⟨g1, g2, g3⟩ := vdN_shown h n
  have hlay : PyData.layable0 (dat (vdN n t.v)) = true := by
    unfold PyData.layable0
    rw [dat_lay hp, decide_eq_true (Nat.le_trans (dat_depth hp) (by omega)), decide_eq_true (by omega)]
    rfl
  have hlen := PyData.shown_le_of_layable0 hlay g2
  have hz : 15728653 ≤ sizeLine := by decide
  have hD := PyData.hasDict_of_canLay _ (dat_lay hp)
  have hc : dcap (dat (vdN n t.v)) = true := decide_eq_true (Nat.le_trans (dat_depth hp) (by omega))
  have ht : toD (Gp S).S M deepD (vdN n t.v) = some (dat (vdN n t.v)) := toD_pur hp (show n + 5 ≤ 12 by omega)
  have hsh : ∃ ws, vdN n t.v = .tup ws := by
    cases n with
    | zero => exact ⟨_, rfl⟩
    | succ n => exact ⟨_, rfl⟩
  obtain ⟨ws, ew⟩ := hsh
  rw [ew] at ht ⊢
  rw [ew] at g1 hD hc hlen
  simp only [biW, ht, g1, hD, hc, len_ok (show (dat (.tup ws)).shown.length ≤ sizeLine by omega), Bool.not_false, Bool.and_self, Out.chk]
/-! found three times -/
def kf (i : Nat) : Nat := (if 2 < i then 1 else 0) + (if 11 < i then 1 else 0) + (if 20 < i then 1 else 0)
def nb (i : Nat) : Nat := if i ≤ 2 then 0 else if i ≤ 11 then 6 else if i ≤ 20 then 15 else 24
theorem kf_at : kf 2 = 0 ∧ kf 3 = 1 ∧ kf 11 = 1 ∧ kf 12 = 2 ∧ kf 20 = 2 ∧ kf 21 = 3 ∧ nb 2 = 0 ∧ nb 3 = 6 ∧ nb 11 = 6 ∧ nb 12 = 15 ∧ nb 20 = 15 ∧ nb 21 = 24 := by decide
theorem kf_no {i : Nat} (h2 : i ≠ 2) (h11 : i ≠ 11) (h20 : i ≠ 20) : kf (i + 1) = kf i ∧ nb (i + 1) = nb i := by
  unfold kf nb
  have e1 : (2 < i + 1) = (2 < i) := by apply propext; omega
  have e2 : (11 < i + 1) = (11 < i) := by apply propext; omega
  have e3 : (20 < i + 1) = (20 < i) := by apply propext; omega
  have e4 : (i + 1 ≤ 2) = (i ≤ 2) := by apply propext; omega
  have e5 : (i + 1 ≤ 11) = (i ≤ 11) := by apply propext; omega
  have e6 : (i + 1 ≤ 20) = (i ≤ 20) := by apply propext; omega
  simp only [e1, e2, e3, e4, e5, e6]
  exact ⟨trivial, trivial⟩
theorem kf_step (i : Nat) : kf (i + 1) ≤ kf i + 1 := by
  by_cases h2 : i = 2
  · subst h2; decide
  · by_cases h11 : i = 11
    · subst h11; decide
    · by_cases h20 : i = 20
      · subst h20; decide
      · rw [(kf_no h2 h11 h20).1]; omega
open PySem.Builtin.Str PySem.StrLaws in
theorem occ_inv (s v : Str) (hi lim : Nat) (hv : v.length = 4) (h2 : subAt s v 2 = true) (h11 : subAt s v 11 = true) (h20 : subAt s v 20 = true) (hh : 24 ≤ hi) (hlim : hi < lim) : ∀ (n i : Nat) (st : Array Nat × Nat), i + n ≤ hi + 1 →
    (kf i ≤ st.1.size ∧ (st.1.size = kf i → st.2 ≤ nb i) ∧ st.2 ≤ i + 3 ∧ st.1.size ≤ i) → kf (i + n) ≤ ((forIn (List.range' i n) st (occBody s v hi lim)).run).1.size
  | 0, i, st, _, h => h.1
  | n + 1, i, st, hb, ⟨a1, a2, a3, a4⟩ => by
    have e : i + (n + 1) = (i + 1) + n := by omega
    rw [List.range'_succ, List.forIn_cons, e]
    obtain ⟨f1, f2, f3, f4, f5, f6, f7, f8, f9, f10, f11, f12⟩ := kf_at
    by_cases hc : ((st.1.size < lim ∧ st.2 ≤ i) ∧ i + v.length ≤ hi) ∧ subAt s v i = true
    · have hb1 : occBody s v hi lim i st = pure (ForInStep.yield (st.1.push i, i + v.length)) := by unfold occBody; rw [if_pos hc]
      rw [hb1]
      refine occ_inv s v hi lim hv h2 h11 h20 hh hlim n (i + 1) (st.1.push i, i + v.length) (by omega) ⟨?_, ?_, ?_, ?_⟩
      · have := kf_step i
        simp only [Array.size_push]; omega
      · simp only [Array.size_push, hv]
        intro z
        by_cases q2 : i = 2
        · subst q2; show 2 + 4 ≤ nb 3; omega
        · by_cases q11 : i = 11
          · subst q11; show 11 + 4 ≤ nb 12; omega
          · by_cases q20 : i = 20
            · subst q20; show 20 + 4 ≤ nb 21; omega
            · have := (kf_no q2 q11 q20).1; omega
      · simp only [hv]; omega
      · simp only [Array.size_push]; omega
    · have hb1 : occBody s v hi lim i st = pure (ForInStep.yield (st.1, st.2)) := by unfold occBody; rw [if_neg hc]
      rw [hb1]
      have key : subAt s v i = true → i + 4 ≤ hi → ¬ st.2 ≤ i := fun hs hi' hf => hc ⟨⟨⟨by omega, hf⟩, by omega⟩, hs⟩
      refine occ_inv s v hi lim hv h2 h11 h20 hh hlim n (i + 1) (st.1, st.2) (by omega) ⟨?_, ?_, by show st.2 ≤ i + 1 + 3; omega, by show st.1.size ≤ i + 1; omega⟩
      · show kf (i + 1) ≤ st.1.size
        by_cases q2 : i = 2
        · subst q2
          have k2 := key h2 (by omega)
          by_cases z : st.1.size = kf 2
          · have := a2 z; omega
          · show kf 3 ≤ _; omega
        · by_cases q11 : i = 11
          · subst q11
            have k2 := key h11 (by omega)
            by_cases z : st.1.size = kf 11
            · have := a2 z; omega
            · show kf 12 ≤ _; omega
          · by_cases q20 : i = 20
            · subst q20
              have k2 := key h20 (by omega)
              by_cases z : st.1.size = kf 20
              · have := a2 z; omega
              · show kf 21 ≤ _; omega
            · rw [(kf_no q2 q11 q20).1]; exact a1
      · show st.1.size = kf (i + 1) → st.2 ≤ nb (i + 1)
        intro z
        by_cases q2 : i = 2
        · subst q2; show st.2 ≤ nb 3; omega
        · by_cases q11 : i = 11
          · subst q11; show st.2 ≤ nb 12; omega
          · by_cases q20 : i = 20
            · subst q20; show st.2 ≤ nb 21; omega
            · obtain ⟨g1, g2⟩ := kf_no q2 q11 q20
              rw [g2]; exact a2 (by omega)
open PySem.Builtin.Str PySem.StrLaws in
theorem occ_three {s v : Str} (hv : v.length = 4) (h2 : subAt s v 2 = true) (h11 : subAt s v 11 = true) (h20 : subAt s v 20 = true) (hl : 24 ≤ s.length) : 3 ≤ Txt.count s v := by
  have h := occ_inv s v s.length (s.length + 1) hv h2 h11 h20 hl (by omega) (s.length + 1) 0 (#[], 0) (by omega) ⟨Nat.zero_le _, fun _ => Nat.zero_le _, Nat.zero_le _, Nat.le_refl _⟩
  have e : kf (0 + (s.length + 1)) = 3 := by
    unfold kf
    rw [if_pos (by omega), if_pos (by omega), if_pos (by omega)]
  rw [e] at h
  unfold Txt.count
  rw [occ_eq]
  simp only [Array.length_toList, Nat.sub_zero]
  omega
def preV : List Nat := [40, 39, 118, 111, 105, 100, 39, 44, 32]
theorem shown_void (x : PyData) : (PyData.shown (.tuple [.str "void", x])).cps.toList = preV ++ (x.shown.cps.toList ++ [41]) := by
  have e1 : reprText ("void" : Str) = "'void'" := by decide +kernel
  have e2 : PyData.shown (.tuple [.str "void", x]) = ("(" : Str) ++ (("'void'" : Str) ++ (", " : Str) ++ x.shown) ++ (")" : Str) := by
    simp only [PyData.shown, PyData.shownAll, tupleText, e1, Str.join]
    rfl
  have app : ∀ a b : Str, (a ++ b).cps.toList = a.cps.toList ++ b.cps.toList := fun a b => by
    show (a.cps ++ b.cps).toList = _
    simp
  rw [e2, app, app, app, app]
  have c1 : ("(" : Str).cps.toList = [40] := by decide +kernel
  have c2 : ("'void'" : Str).cps.toList = [39, 118, 111, 105, 100, 39] := by decide +kernel
  have c3 : (", " : Str).cps.toList = [44, 32] := by decide +kernel
  have c4 : (")" : Str).cps.toList = [41] := by decide +kernel
  rw [c1, c2, c3, c4]
  simp [preV]
theorem sub_at {s : Str} {p r : List Nat} (h : s.cps.toList = p ++ ([118, 111, 105, 100] ++ r)) : Builtin.Str.subAt s "void" p.length = true := by
  have hv : ("void" : Str).cps = #[118, 111, 105, 100] := by decide +kernel
  have hl : ("void" : Str).length = 4 := by decide +kernel
  unfold Builtin.Str.subAt
  rw [hl, hv]
  have : s.cps.extract p.length (p.length + 4) = #[118, 111, 105, 100] := by
    apply Array.toList_inj.mp
    rw [Array.toList_extract, h]
    simp [List.extract]
  rw [this]
  rfl
theorem cnt_pre {s : Str} {r : List Nat} (e : s.cps.toList = preV ++ (preV ++ (preV ++ r))) : 3 ≤ Txt.count s "void" := by
  have hv : ("void" : Str).length = 4 := by decide +kernel
  have a1 := sub_at (s := s) (p := [40, 39]) (r := [39, 44, 32] ++ (preV ++ (preV ++ r))) (by rw [e]; rfl)
  have a2 := sub_at (s := s) (p := preV ++ [40, 39]) (r := [39, 44, 32] ++ (preV ++ r)) (by rw [e]; rfl)
  have a3 := sub_at (s := s) (p := preV ++ (preV ++ [40, 39])) (r := [39, 44, 32] ++ r) (by rw [e]; rfl)
  have hl : s.length = s.cps.toList.length := by rw [Array.length_toList]; rfl
  have l1 : preV.length = 9 := rfl
  refine occ_three hv a1 a2 a3 ?_
  rw [hl, e]
  simp only [List.length_append, l1]
  omega
theorem cnt_three (x : PyData) : 3 ≤ Txt.count (PyData.shown (.tuple [.str "void", .tuple [.str "void", .tuple [.str "void", x]]])) "void" := by
  have e1 := shown_void (.tuple [.str "void", .tuple [.str "void", x]])
  have e2 := shown_void (.tuple [.str "void", x])
  have e3 := shown_void x
  rw [e3] at e2
  rw [e2] at e1
  refine cnt_pre (r := x.shown.cps.toList ++ [41] ++ [41] ++ [41]) ?_
  rw [e1]
  simp only [List.append_assoc]
theorem cnt_vd {t : Bt} {n : Nat} (hn : n ≤ 3) (h : Txt.count (dat (vdN n t.v)).shown "void" < 3) : n < 3 := by
  by_cases z : n = 3
  · subst z
    have := cnt_three (dat t.v)
    have e : dat (vdN 3 t.v) = .tuple [.str "void", .tuple [.str "void", .tuple [.str "void", dat t.v]]] := by simp only [vdN, dat, dats]
    rw [e] at h
    omega
  · omega
end Bh
end
section
set_option Elab.async false
set_option linter.all false
set_option maxRecDepth 100000
set_option maxHeartbeats 0
namespace Bh
open PySem MP
/-! ### what makes a truth plain -/
theorem plain_bt {t : Bt} {ks : List Str} (h : tabP.lookup t.w = some ((("day" : Str) :: ks) : List Str)) (hd : 0 ≤ t.d ∧ t.d ≤ 9999) (hl : t.xs.length = ks.length) (ha : ((t.xs.zip ks).all fun p => partB p.1 p.2) = true) : plainB t.v = true := by
  unfold Bt.v plainB
  simp only [h]
  have e : partB (.int t.d) "day" = true := by
    unfold partB
    rw [if_pos rfl]
    simp only [wholeB, decide_eq_true hd.1, decide_eq_true hd.2, Bool.and_self]
  simp only [List.length_cons, List.zip_cons_cons, List.all_cons, e, ha, hl, decide_true, Bool.and_self]
theorem part_name {s : Str} (h : nameOk s = true) : partB (.str s) "name" = true := by
  unfold partB
  rw [if_neg (by decide +kernel), if_pos rfl]
  exact h
theorem part_below {s : Str} (h : nameOk s = true ∨ s = ("-" : Str)) : partB (.str s) "below" = true := by
  unfold partB
  rw [if_neg (by decide +kernel), if_neg (by decide +kernel), if_pos rfl]
  simp only [belowB]
  rcases h with h | h
  · rw [h]; rfl
  · rw [decide_eq_true h, Bool.or_true]
theorem part_day {i : Int} (h : 0 ≤ i ∧ i ≤ 9999) : partB (.int i) "day" = true := by
  unfold partB
  rw [if_pos rfl]
  simp only [wholeB, decide_eq_true h.1, decide_eq_true h.2, Bool.and_self]
theorem part_rng {i a b : Int} {k : Str} (h : rngV k = some (a, b)) (h1 : k ≠ ("day" : Str)) (h2 : k ≠ ("name" : Str)) (h3 : k ≠ ("below" : Str)) (hi : a ≤ i ∧ i ≤ b) : partB (.int i) k = true := by
  unfold partB
  rw [if_neg h1, if_neg h2, if_neg h3, h]
  simp only [wholeB, decide_eq_true hi.1, decide_eq_true hi.2, Bool.and_self]
theorem part_water {i : Int} (h : 0 ≤ i ∧ i ≤ 9999) : partB (.int i) "water" = true := part_rng (by kernel_rfl) (by decide +kernel) (by decide +kernel) (by decide +kernel) h
theorem part_much {i : Int} (h : 0 ≤ i ∧ i ≤ 999999) : partB (.int i) "much" = true := part_rng (by kernel_rfl) (by decide +kernel) (by decide +kernel) (by decide +kernel) h
theorem part_travel {i : Int} (h : 1 ≤ i ∧ i ≤ 9) : partB (.int i) "travel" = true := part_rng (by kernel_rfl) (by decide +kernel) (by decide +kernel) (by decide +kernel) h
theorem part_rank {i : Int} (h : 1 ≤ i ∧ i ≤ 99) : partB (.int i) "rank" = true := part_rng (by kernel_rfl) (by decide +kernel) (by decide +kernel) (by decide +kernel) h
theorem part_season {i : Int} (h : 0 ≤ i ∧ i ≤ 364) : partB (.int i) "season" = true := part_rng (by kernel_rfl) (by decide +kernel) (by decide +kernel) (by decide +kernel) h
theorem part_part {i : Int} (h : 0 ≤ i ∧ i ≤ 1000) : partB (.int i) "part" = true := part_rng (by kernel_rfl) (by decide +kernel) (by decide +kernel) (by decide +kernel) h
theorem part_delay {i : Int} (h : 0 ≤ i ∧ i ≤ 30) : partB (.int i) "delay" = true := part_rng (by kernel_rfl) (by decide +kernel) (by decide +kernel) (by decide +kernel) h
/-- voids of a plain truth: three deep and no deeper -/
theorem truth_vd {v : Wv} (hv : plainB v = true) : ∀ n m : Nat, truthB n (vdN m v) = decide (m ≤ n) := by
  have np : ∀ x, plainB (.tup [.str "void", x]) = false := fun x => by
    have e : tabP.lookup ("void" : Str) = none := by kernel_rfl
    simp only [plainB, e]
  have nv : ∀ x, v ≠ .tup [.str "void", x] := fun x e => by rw [e, np] at hv; cases hv
  intro n
  induction n with
  | zero =>
    intro m
    cases m with
    | zero => show plainB v = _; rw [hv]; rfl
    | succ m => show plainB (.tup [.str "void", vdN m v]) = _; rw [np, decide_eq_false (by omega)]
  | succ n ih =>
    intro m
    cases m with
    | zero => show truthB (n + 1) v = _; rw [truth_plain nv, hv, decide_eq_true (by omega)]
    | succ m =>
      show (if ("void" : Str) = "void" then truthB n (vdN m v) else plainB (.tup [.str "void", vdN m v])) = _
      rw [if_pos rfl, ih m, Bool.eq_iff_iff]
      simp
end Bh
end
section
set_option Elab.async false
set_option linter.all false
set_option maxRecDepth 100000
set_option maxHeartbeats 0
namespace Bh
open PySem MP
/-! ### drawn truths -/
def ch (c : Nat) : Str := ⟨#[c]⟩
theorem at_mem {α : Type} {xs : List α} {r : Int} (h0 : 0 ≤ r) (h1 : r < xs.length) : ∃ y ∈ xs, atI xs r = some y := by
  obtain ⟨j, rfl⟩ := Int.eq_ofNat_of_zero_le h0
  have hj : j < xs.length := by omega
  exact ⟨xs[j], List.getElem_mem hj, at_nat (List.getElem?_eq_getElem hj)⟩
theorem str_pick {S : List Int} {M : Mem} {z : Str} {r : Int} (hz : z.length ≤ sizeLine) (h0 : 0 ≤ r) (h1 : r < z.length) : ∃ c ∈ z.cps.toList, subW (Gp S) (.str z) (.int r) M = .ok (.str (ch c)) M := by
  have hl : z.cps.toList.length = z.length := by rw [Array.length_toList]; rfl
  obtain ⟨c, hc, e⟩ := at_mem (xs := z.cps.toList) h0 (by rw [hl]; exact h1)
  refine ⟨c, hc, ?_⟩
  simp only [subW, if_pos hz, e, Option.map_some, Out.ofO]
  rfl
theorem okS_ch {c : Nat} (h : c < 128) : okS (ch c) = true := by
  unfold okS ch PyData.strOk
  rw [Bool.and_eq_true]
  refine ⟨?_, decide_eq_true (show 1 ≤ 8 by omega)⟩
  simp
  omega
theorem okI_of {i : Int} (h0 : 0 ≤ i) (h1 : i < 10000000) : okI i = true := by
  unfold okI
  rw [decide_eq_true h0, decide_eq_true h1]
  rfl
/-- the letters of drawn names -/
def LT : List Nat := [97, 98, 99, 100, 111, 119, 114, 115, 116, 118, 120, 121, 45]
structure LtC (c : Nat) : Prop where
  m : c ∈ LT
  n : nameOk (ch c) = true
  o : okS (ch c) = true
theorem ltc {c : Nat} (h : c ∈ ("abcdowrstvxy" : Str).cps.toList) : LtC c := by
  have : ∀ c ∈ ("abcdowrstvxy" : Str).cps.toList, c ∈ LT ∧ nameOk (ch c) = true ∧ okS (ch c) = true := by decide +kernel
  obtain ⟨h1, h2, h3⟩ := this c h
  exact ⟨h1, h2, h3⟩
theorem lt_abcd {c : Nat} (h : c ∈ ("abcd" : Str).cps.toList) : LtC c := ltc ((by decide +kernel : ∀ c ∈ ("abcd" : Str).cps.toList, c ∈ ("abcdowrstvxy" : Str).cps.toList) c h)
theorem lt_rstv {c : Nat} (h : c ∈ ("rstv" : Str).cps.toList) : LtC c := ltc ((by decide +kernel : ∀ c ∈ ("rstv" : Str).cps.toList, c ∈ ("abcdowrstvxy" : Str).cps.toList) c h)
theorem lt_ow {c : Nat} (h : c ∈ ("ow" : Str).cps.toList) : LtC c := ltc ((by decide +kernel : ∀ c ∈ ("ow" : Str).cps.toList, c ∈ ("abcdowrstvxy" : Str).cps.toList) c h)
theorem lt_xy {c : Nat} (h : c ∈ ("xy" : Str).cps.toList) : LtC c := ltc ((by decide +kernel : ∀ c ∈ ("xy" : Str).cps.toList, c ∈ ("abcdowrstvxy" : Str).cps.toList) c h)
def txtB (xs : List Wv) : Bool := xs.all fun x => match x with
  | .str s => decide (s ∈ LT.map ch)
  | .int _ => true
  | _ => false
def GB (t : Bt) : Prop := BKb t ∧ plainB t.v = true ∧ txtB t.xs = true
theorem gb_of {w : Str} {d : Int} {xs : List Wv} {s : List Bool} {ks : List Str} (hd : okI d = true) (hd9 : 0 ≤ d ∧ d ≤ 9999) (hs : (w, s) ∈ sigT) (hm : sigM s xs = true) (hk : tabP.lookup w = some ((("day" : Str) :: ks) : List Str)) (hl : xs.length = ks.length) (ha : ((xs.zip ks).all fun p => partB p.1 p.2) = true) (ht : txtB xs = true) : GB ⟨w, d, xs⟩ :=
  ⟨⟨hd, s, hs, hm⟩, plain_bt (t := ⟨w, d, xs⟩) hk hd9 hl ha, ht⟩
theorem LtC.t {c : Nat} (h : LtC c) : decide (ch c ∈ LT.map ch) = true := decide_eq_true (List.mem_map.mpr ⟨c, h.m, rfl⟩)
theorem law_day_ok (S : List Int) (hl : S.length ≤ 63) (k : Nat) (i : Int) (hi : 0 ≤ i) (M : Mem) :
    (callN (Gp S) fuel (k + 2) ix__law_day [.scr, .int i] M).sat fun v M' => M <+: M' ∧ ∃ r : Int, v = .int r ∧ 0 ≤ r ∧ r < 31 := by
  rw [at__law_day]
  refine run_sat rfl ?_
  show (evSl (Gp S) _ _ fuel sl__law_day [some .scr, some (.int i)] M).sat _
  unfold sl__law_day
  simp only [q_nil, q_cons, k_nx, k_ret, k_brk, k_ct, q_asg, q_asgA, q_asgS, q_aug, q_ex, q_ret, q_retN, q_pass, q_brk, q_cont, q_ifs, q_for, q_whl, b_t, b_f, be_t, be_f, ba_t, ba_f, bo_t, bo_f, t_bl, t_int, t_non,     q_var, q_con, q_glb, q_tup, q_lst, q_dict0, q_bin, q_neg, q_not, q_and, q_or, q_ife, q_cmp, q_cmp2, q_attr, q_sub, q_srev, q_call, q_callk, q_meth, q_bm, q_new, q_bi, q_isi, q_lc, q_dc, q_sortk, q_sortv, q_sortvM, q_maxk, q_dict2, q_anil, q_acons, q_ival, q_items, q_vals, q_rng, q_zip, q_cntT, q_tab, q_tnin, q_zipT,     o_add, o_sub, o_mul, o_fdiv, o_mod, o_pow18, o_addT, ag_add, ag_sub, c_lt, c_gt, c_le, c_ge, c_eq, c_ne, c_is, c_isn, c_in, c_nin, u_tup, u_scr, n_scr, n_tup, n_str, n_abs, n_min2, n_max2, tg_nm, tg_2, tg_3, at_0, at_1, at_2, at_3, at_4, i_int, sat_some, getV_0, getV_s,     List.set_cons_zero, List.set_cons_succ, List.map_cons, List.map_nil, List.replicate_succ, List.replicate_zero, List.cons_append, List.nil_append, List.length_cons, List.length_nil]
  exact drawn_ok S hl k i 31 hi (by omega) M
theorem law_place_ok (S : List Int) (hl : S.length ≤ 63) (k : Nat) (i : Int) (hi : 0 ≤ i) (M : Mem) :
    (callN (Gp S) fuel (k + 2) ix__law_place [.scr, .int i] M).sat fun v M' => M <+: M' ∧ ∃ c, v = .str (ch c) ∧ LtC c := by
  rw [at__law_place]
  refine run_sat rfl ?_
  show (evSl (Gp S) _ _ fuel sl__law_place [some .scr, some (.int i)] M).sat _
  unfold sl__law_place
  simp only [q_nil, q_cons, k_nx, k_ret, k_brk, k_ct, q_asg, q_asgA, q_asgS, q_aug, q_ex, q_ret, q_retN, q_pass, q_brk, q_cont, q_ifs, q_for, q_whl, b_t, b_f, be_t, be_f, ba_t, ba_f, bo_t, bo_f, t_bl, t_int, t_non,     q_var, q_con, q_glb, q_tup, q_lst, q_dict0, q_bin, q_neg, q_not, q_and, q_or, q_ife, q_cmp, q_cmp2, q_attr, q_sub, q_srev, q_call, q_callk, q_meth, q_bm, q_new, q_bi, q_isi, q_lc, q_dc, q_sortk, q_sortv, q_sortvM, q_maxk, q_dict2, q_anil, q_acons, q_ival, q_items, q_vals, q_rng, q_zip, q_cntT, q_tab, q_tnin, q_zipT,     o_add, o_sub, o_mul, o_fdiv, o_mod, o_pow18, o_addT, ag_add, ag_sub, c_lt, c_gt, c_le, c_ge, c_eq, c_ne, c_is, c_isn, c_in, c_nin, u_tup, u_scr, n_scr, n_tup, n_str, n_abs, n_min2, n_max2, tg_nm, tg_2, tg_3, at_0, at_1, at_2, at_3, at_4, i_int, sat_some, getV_0, getV_s,     List.set_cons_zero, List.set_cons_succ, List.map_cons, List.map_nil, List.replicate_succ, List.replicate_zero, List.cons_append, List.nil_append, List.length_cons, List.length_nil]
  refine sat_mono (drawn_ok S hl k i 4 hi (by omega) M) fun v M' ⟨p, r, hv, h0, h1⟩ => ?_
  subst hv
  obtain ⟨c, hc, e⟩ := str_pick (S := S) (M := M') (z := "abcd") (by decide +kernel) h0 (by rw [show (("abcd" : Str).length : Int) = 4 by decide +kernel]; exact h1)
  refine sat_of e ⟨p, c, rfl, ?_⟩
  exact lt_abcd hc
theorem sig_right : (("right" : Str), [true, true, true, false, false, false, false, false, false, true, false]) ∈ sigT := by decide +kernel
theorem law_right_ok (S : List Int) (hl : S.length ≤ 63) (k : Nat) (i day : Int) (hi : 0 ≤ i) (hd : okI day = true) (hd9 : 0 ≤ day ∧ day ≤ 9999) (M : Mem) :
    (callN (Gp S) fuel (k + 3) ix__law_right [.scr, .int i, .int day] M).sat fun v M' => M <+: M' ∧ ∃ t, v = t.v ∧ GB t := by
  rw [at__law_right]
  refine run_sat rfl ?_
  show (evSl (Gp S) _ _ fuel sl__law_right [some .scr, some (.int i), some (.int day), none, none, none, none, none, none, none, none] M).sat _
  unfold sl__law_right
  simp only [q_nil, q_cons, k_nx, k_ret, k_brk, k_ct, q_asg, q_asgA, q_asgS, q_aug, q_ex, q_ret, q_retN, q_pass, q_brk, q_cont, q_ifs, q_for, q_whl, b_t, b_f, be_t, be_f, ba_t, ba_f, bo_t, bo_f, t_bl, t_int, t_non,     q_var, q_con, q_glb, q_tup, q_lst, q_dict0, q_bin, q_neg, q_not, q_and, q_or, q_ife, q_cmp, q_cmp2, q_attr, q_sub, q_srev, q_call, q_callk, q_meth, q_bm, q_new, q_bi, q_isi, q_lc, q_dc, q_sortk, q_sortv, q_sortvM, q_maxk, q_dict2, q_anil, q_acons, q_ival, q_items, q_vals, q_rng, q_zip, q_cntT, q_tab, q_tnin, q_zipT,     o_add, o_sub, o_mul, o_fdiv, o_mod, o_pow18, o_addT, ag_add, ag_sub, c_lt, c_gt, c_le, c_ge, c_eq, c_ne, c_is, c_isn, c_in, c_nin, u_tup, u_scr, n_scr, n_tup, n_str, n_abs, n_min2, n_max2, tg_nm, tg_2, tg_3, at_0, at_1, at_2, at_3, at_4, i_int, sat_some, getV_0, getV_s,     List.set_cons_zero, List.set_cons_succ, List.map_cons, List.map_nil, List.replicate_succ, List.replicate_zero, List.cons_append, List.nil_append, List.length_cons, List.length_nil]
  refine sat_mono (drawn_ok S hl (k + 1) i 4 hi (by omega) M) fun v A ⟨pA, r, hv, a0, a1⟩ => ?_
  subst hv
  obtain ⟨c1, hc1, e1⟩ := str_pick (S := S) (M := A) (z := "rstv") (by decide +kernel) a0 (by rw [show (("rstv" : Str).length : Int) = 4 by decide +kernel]; exact a1)
  refine sat_of e1 ?_
  try simp only [q_nil, q_cons, k_nx, k_ret, k_brk, k_ct, q_asg, q_asgA, q_asgS, q_aug, q_ex, q_ret, q_retN, q_pass, q_brk, q_cont, q_ifs, q_for, q_whl, b_t, b_f, be_t, be_f, ba_t, ba_f, bo_t, bo_f, t_bl, t_int, t_non,     q_var, q_con, q_glb, q_tup, q_lst, q_dict0, q_bin, q_neg, q_not, q_and, q_or, q_ife, q_cmp, q_cmp2, q_attr, q_sub, q_srev, q_call, q_callk, q_meth, q_bm, q_new, q_bi, q_isi, q_lc, q_dc, q_sortk, q_sortv, q_sortvM, q_maxk, q_dict2, q_anil, q_acons, q_ival, q_items, q_vals, q_rng, q_zip, q_cntT, q_tab, q_tnin, q_zipT,     o_add, o_sub, o_mul, o_fdiv, o_mod, o_pow18, o_addT, ag_add, ag_sub, c_lt, c_gt, c_le, c_ge, c_eq, c_ne, c_is, c_isn, c_in, c_nin, u_tup, u_scr, n_scr, n_tup, n_str, n_abs, n_min2, n_max2, tg_nm, tg_2, tg_3, at_0, at_1, at_2, at_3, at_4, i_int, sat_some, getV_0, getV_s,     List.set_cons_zero, List.set_cons_succ, List.map_cons, List.map_nil, List.replicate_succ, List.replicate_zero, List.cons_append, List.nil_append, List.length_cons, List.length_nil]
  refine sat_mono (law_place_ok S hl k (i + 1) (by omega) A) fun v B ⟨pB, c2, hv, hc2⟩ => ?_
  subst hv
  refine ⟨len_ok (by decide), ?_⟩
  try simp only [q_nil, q_cons, k_nx, k_ret, k_brk, k_ct, q_asg, q_asgA, q_asgS, q_aug, q_ex, q_ret, q_retN, q_pass, q_brk, q_cont, q_ifs, q_for, q_whl, b_t, b_f, be_t, be_f, ba_t, ba_f, bo_t, bo_f, t_bl, t_int, t_non,     q_var, q_con, q_glb, q_tup, q_lst, q_dict0, q_bin, q_neg, q_not, q_and, q_or, q_ife, q_cmp, q_cmp2, q_attr, q_sub, q_srev, q_call, q_callk, q_meth, q_bm, q_new, q_bi, q_isi, q_lc, q_dc, q_sortk, q_sortv, q_sortvM, q_maxk, q_dict2, q_anil, q_acons, q_ival, q_items, q_vals, q_rng, q_zip, q_cntT, q_tab, q_tnin, q_zipT,     o_add, o_sub, o_mul, o_fdiv, o_mod, o_pow18, o_addT, ag_add, ag_sub, c_lt, c_gt, c_le, c_ge, c_eq, c_ne, c_is, c_isn, c_in, c_nin, u_tup, u_scr, n_scr, n_tup, n_str, n_abs, n_min2, n_max2, tg_nm, tg_2, tg_3, at_0, at_1, at_2, at_3, at_4, i_int, sat_some, getV_0, getV_s,     List.set_cons_zero, List.set_cons_succ, List.map_cons, List.map_nil, List.replicate_succ, List.replicate_zero, List.cons_append, List.nil_append, List.length_cons, List.length_nil]
  refine sat_mono (drawn_ok S hl (k + 1) (i + 2) 2 (by omega) (by omega) B) fun v C ⟨pC, r, hv, b0, b1⟩ => ?_
  subst hv
  obtain ⟨c3, hc3, e3⟩ := str_pick (S := S) (M := C) (z := "ow") (by decide +kernel) b0 (by rw [show (("ow" : Str).length : Int) = 2 by decide +kernel]; exact b1)
  refine sat_of e3 ?_
  try simp only [q_nil, q_cons, k_nx, k_ret, k_brk, k_ct, q_asg, q_asgA, q_asgS, q_aug, q_ex, q_ret, q_retN, q_pass, q_brk, q_cont, q_ifs, q_for, q_whl, b_t, b_f, be_t, be_f, ba_t, ba_f, bo_t, bo_f, t_bl, t_int, t_non,     q_var, q_con, q_glb, q_tup, q_lst, q_dict0, q_bin, q_neg, q_not, q_and, q_or, q_ife, q_cmp, q_cmp2, q_attr, q_sub, q_srev, q_call, q_callk, q_meth, q_bm, q_new, q_bi, q_isi, q_lc, q_dc, q_sortk, q_sortv, q_sortvM, q_maxk, q_dict2, q_anil, q_acons, q_ival, q_items, q_vals, q_rng, q_zip, q_cntT, q_tab, q_tnin, q_zipT,     o_add, o_sub, o_mul, o_fdiv, o_mod, o_pow18, o_addT, ag_add, ag_sub, c_lt, c_gt, c_le, c_ge, c_eq, c_ne, c_is, c_isn, c_in, c_nin, u_tup, u_scr, n_scr, n_tup, n_str, n_abs, n_min2, n_max2, tg_nm, tg_2, tg_3, at_0, at_1, at_2, at_3, at_4, i_int, sat_some, getV_0, getV_s,     List.set_cons_zero, List.set_cons_succ, List.map_cons, List.map_nil, List.replicate_succ, List.replicate_zero, List.cons_append, List.nil_append, List.length_cons, List.length_nil]
  refine ⟨len_ok (by decide), ?_⟩
  refine sat_mono (drawn_ok S hl (k + 1) (i + 3) 4 (by omega) (by omega) _) fun v D ⟨pD, r, hv, d0, d1⟩ => ?_
  subst hv
  obtain ⟨y4, hy4, e4⟩ := at_mem (xs := [Wv.int 3, .int 10, .int 40, .int 9999]) d0 d1
  refine sat_of (sub_lst (pre_get pD (at_new ..)) e4) ?_
  try simp only [q_nil, q_cons, k_nx, k_ret, k_brk, k_ct, q_asg, q_asgA, q_asgS, q_aug, q_ex, q_ret, q_retN, q_pass, q_brk, q_cont, q_ifs, q_for, q_whl, b_t, b_f, be_t, be_f, ba_t, ba_f, bo_t, bo_f, t_bl, t_int, t_non,     q_var, q_con, q_glb, q_tup, q_lst, q_dict0, q_bin, q_neg, q_not, q_and, q_or, q_ife, q_cmp, q_cmp2, q_attr, q_sub, q_srev, q_call, q_callk, q_meth, q_bm, q_new, q_bi, q_isi, q_lc, q_dc, q_sortk, q_sortv, q_sortvM, q_maxk, q_dict2, q_anil, q_acons, q_ival, q_items, q_vals, q_rng, q_zip, q_cntT, q_tab, q_tnin, q_zipT,     o_add, o_sub, o_mul, o_fdiv, o_mod, o_pow18, o_addT, ag_add, ag_sub, c_lt, c_gt, c_le, c_ge, c_eq, c_ne, c_is, c_isn, c_in, c_nin, u_tup, u_scr, n_scr, n_tup, n_str, n_abs, n_min2, n_max2, tg_nm, tg_2, tg_3, at_0, at_1, at_2, at_3, at_4, i_int, sat_some, getV_0, getV_s,     List.set_cons_zero, List.set_cons_succ, List.map_cons, List.map_nil, List.replicate_succ, List.replicate_zero, List.cons_append, List.nil_append, List.length_cons, List.length_nil]
  refine ⟨len_ok (by decide), ?_⟩
  refine sat_mono (drawn_ok S hl (k + 1) (i + 4) 3 (by omega) (by omega) _) fun v E ⟨pE, r, hv, d0, d1⟩ => ?_
  subst hv
  obtain ⟨y5, hy5, e5⟩ := at_mem (xs := [Wv.int 5, .int 60, .int 999999]) d0 d1
  refine sat_of (sub_lst (pre_get pE (at_new ..)) e5) ?_
  refine ⟨len_ok (by decide), ?_⟩
  try simp only [q_nil, q_cons, k_nx, k_ret, k_brk, k_ct, q_asg, q_asgA, q_asgS, q_aug, q_ex, q_ret, q_retN, q_pass, q_brk, q_cont, q_ifs, q_for, q_whl, b_t, b_f, be_t, be_f, ba_t, ba_f, bo_t, bo_f, t_bl, t_int, t_non,     q_var, q_con, q_glb, q_tup, q_lst, q_dict0, q_bin, q_neg, q_not, q_and, q_or, q_ife, q_cmp, q_cmp2, q_attr, q_sub, q_srev, q_call, q_callk, q_meth, q_bm, q_new, q_bi, q_isi, q_lc, q_dc, q_sortk, q_sortv, q_sortvM, q_maxk, q_dict2, q_anil, q_acons, q_ival, q_items, q_vals, q_rng, q_zip, q_cntT, q_tab, q_tnin, q_zipT,     o_add, o_sub, o_mul, o_fdiv, o_mod, o_pow18, o_addT, ag_add, ag_sub, c_lt, c_gt, c_le, c_ge, c_eq, c_ne, c_is, c_isn, c_in, c_nin, u_tup, u_scr, n_scr, n_tup, n_str, n_abs, n_min2, n_max2, tg_nm, tg_2, tg_3, at_0, at_1, at_2, at_3, at_4, i_int, sat_some, getV_0, getV_s,     List.set_cons_zero, List.set_cons_succ, List.map_cons, List.map_nil, List.replicate_succ, List.replicate_zero, List.cons_append, List.nil_append, List.length_cons, List.length_nil]
  refine ⟨len_ok (by decide), len_ok (by decide), len_ok (by decide), len_ok (by decide), ?_⟩
  refine sat_mono (drawn_ok S hl (k + 1) (i + 5) 3 (by omega) (by omega) _) fun v F ⟨pF, r, hv, d0, d1⟩ => ?_
  subst hv
  obtain ⟨y6, hy6, e6⟩ := at_mem (xs := [Wv.tup [.int 0, .int 364], .tup [.int 5, .int 20], .tup [.int 300, .int 12]]) d0 d1
  refine sat_of (sub_lst (pre_get pF (at_new ..)) e6) ?_
  obtain ⟨f, l, rfl, hf, hll⟩ : ∃ f l : Int, y6 = .tup [.int f, .int l] ∧ (okI f = true ∧ 0 ≤ f ∧ f ≤ 364) ∧ (okI l = true ∧ 0 ≤ l ∧ l ≤ 364) := by
    simp only [List.mem_cons, List.not_mem_nil, or_false] at hy6
    rcases hy6 with rfl | rfl | rfl <;> exact ⟨_, _, rfl, by decide, by decide⟩
  try simp only [q_nil, q_cons, k_nx, k_ret, k_brk, k_ct, q_asg, q_asgA, q_asgS, q_aug, q_ex, q_ret, q_retN, q_pass, q_brk, q_cont, q_ifs, q_for, q_whl, b_t, b_f, be_t, be_f, ba_t, ba_f, bo_t, bo_f, t_bl, t_int, t_non,     q_var, q_con, q_glb, q_tup, q_lst, q_dict0, q_bin, q_neg, q_not, q_and, q_or, q_ife, q_cmp, q_cmp2, q_attr, q_sub, q_srev, q_call, q_callk, q_meth, q_bm, q_new, q_bi, q_isi, q_lc, q_dc, q_sortk, q_sortv, q_sortvM, q_maxk, q_dict2, q_anil, q_acons, q_ival, q_items, q_vals, q_rng, q_zip, q_cntT, q_tab, q_tnin, q_zipT,     o_add, o_sub, o_mul, o_fdiv, o_mod, o_pow18, o_addT, ag_add, ag_sub, c_lt, c_gt, c_le, c_ge, c_eq, c_ne, c_is, c_isn, c_in, c_nin, u_tup, u_scr, n_scr, n_tup, n_str, n_abs, n_min2, n_max2, tg_nm, tg_2, tg_3, at_0, at_1, at_2, at_3, at_4, i_int, sat_some, getV_0, getV_s,     List.set_cons_zero, List.set_cons_succ, List.map_cons, List.map_nil, List.replicate_succ, List.replicate_zero, List.cons_append, List.nil_append, List.length_cons, List.length_nil]
  refine ⟨len_ok (by decide), len_ok (by decide), len_ok (by decide), len_ok (by decide), ?_⟩
  refine sat_mono (drawn_ok S hl (k + 1) (i + 6) 3 (by omega) (by omega) _) fun v G ⟨pG, r, hv, d0, d1⟩ => ?_
  subst hv
  obtain ⟨y7, hy7, e7⟩ := at_mem (xs := [Wv.tup [.int 0, .str "-", .int 0], .tup [.int 500, .str "c", .int 2], .tup [.int 300, .str "b", .int 0]]) d0 d1
  refine sat_of (sub_lst (pre_get pG (at_new ..)) e7) ?_
  obtain ⟨x1, x2, x3, rfl, hx1, hx2, hx3⟩ : ∃ (x1 : Int) (x2 : Str) (x3 : Int), y7 = .tup [.int x1, .str x2, .int x3] ∧ (okI x1 = true ∧ 0 ≤ x1 ∧ x1 ≤ 1000) ∧ (okS x2 = true ∧ (nameOk x2 = true ∨ x2 = ("-" : Str)) ∧ decide (x2 ∈ LT.map ch) = true) ∧ (okI x3 = true ∧ 0 ≤ x3 ∧ x3 ≤ 30) := by
    simp only [List.mem_cons, List.not_mem_nil, or_false] at hy7
    rcases hy7 with rfl | rfl | rfl
    · exact ⟨0, "-", 0, rfl, by decide, ⟨by decide +kernel, .inr rfl, by decide +kernel⟩, by decide⟩
    · exact ⟨500, "c", 2, rfl, by decide, ⟨by decide +kernel, .inl (by decide +kernel), by decide +kernel⟩, by decide⟩
    · exact ⟨300, "b", 0, rfl, by decide, ⟨by decide +kernel, .inl (by decide +kernel), by decide +kernel⟩, by decide⟩
  try simp only [q_nil, q_cons, k_nx, k_ret, k_brk, k_ct, q_asg, q_asgA, q_asgS, q_aug, q_ex, q_ret, q_retN, q_pass, q_brk, q_cont, q_ifs, q_for, q_whl, b_t, b_f, be_t, be_f, ba_t, ba_f, bo_t, bo_f, t_bl, t_int, t_non,     q_var, q_con, q_glb, q_tup, q_lst, q_dict0, q_bin, q_neg, q_not, q_and, q_or, q_ife, q_cmp, q_cmp2, q_attr, q_sub, q_srev, q_call, q_callk, q_meth, q_bm, q_new, q_bi, q_isi, q_lc, q_dc, q_sortk, q_sortv, q_sortvM, q_maxk, q_dict2, q_anil, q_acons, q_ival, q_items, q_vals, q_rng, q_zip, q_cntT, q_tab, q_tnin, q_zipT,     o_add, o_sub, o_mul, o_fdiv, o_mod, o_pow18, o_addT, ag_add, ag_sub, c_lt, c_gt, c_le, c_ge, c_eq, c_ne, c_is, c_isn, c_in, c_nin, u_tup, u_scr, n_scr, n_tup, n_str, n_abs, n_min2, n_max2, tg_nm, tg_2, tg_3, at_0, at_1, at_2, at_3, at_4, i_int, sat_some, getV_0, getV_s,     List.set_cons_zero, List.set_cons_succ, List.map_cons, List.map_nil, List.replicate_succ, List.replicate_zero, List.cons_append, List.nil_append, List.length_cons, List.length_nil]
  refine sat_mono (drawn_ok S hl (k + 1) (i + 7) 5 (by omega) (by omega) _) fun v J ⟨pJ, r, hv, d0, d1⟩ => ?_
  subst hv
  obtain ⟨q4, rfl, hq4⟩ : ∃ q : Int, y4 = .int q ∧ okI q = true ∧ 0 ≤ q ∧ q ≤ 9999 := by
    simp only [List.mem_cons, List.not_mem_nil, or_false] at hy4
    rcases hy4 with rfl | rfl | rfl | rfl <;> exact ⟨_, rfl, by decide⟩
  obtain ⟨q5, rfl, hq5⟩ : ∃ q : Int, y5 = .int q ∧ okI q = true ∧ 0 ≤ q ∧ q ≤ 999999 := by
    simp only [List.mem_cons, List.not_mem_nil, or_false] at hy5
    rcases hy5 with rfl | rfl | rfl <;> exact ⟨_, rfl, by decide⟩
  try simp only [q_nil, q_cons, k_nx, k_ret, k_brk, k_ct, q_asg, q_asgA, q_asgS, q_aug, q_ex, q_ret, q_retN, q_pass, q_brk, q_cont, q_ifs, q_for, q_whl, b_t, b_f, be_t, be_f, ba_t, ba_f, bo_t, bo_f, t_bl, t_int, t_non,     q_var, q_con, q_glb, q_tup, q_lst, q_dict0, q_bin, q_neg, q_not, q_and, q_or, q_ife, q_cmp, q_cmp2, q_attr, q_sub, q_srev, q_call, q_callk, q_meth, q_bm, q_new, q_bi, q_isi, q_lc, q_dc, q_sortk, q_sortv, q_sortvM, q_maxk, q_dict2, q_anil, q_acons, q_ival, q_items, q_vals, q_rng, q_zip, q_cntT, q_tab, q_tnin, q_zipT,     o_add, o_sub, o_mul, o_fdiv, o_mod, o_pow18, o_addT, ag_add, ag_sub, c_lt, c_gt, c_le, c_ge, c_eq, c_ne, c_is, c_isn, c_in, c_nin, u_tup, u_scr, n_scr, n_tup, n_str, n_abs, n_min2, n_max2, tg_nm, tg_2, tg_3, at_0, at_1, at_2, at_3, at_4, i_int, sat_some, getV_0, getV_s,     List.set_cons_zero, List.set_cons_succ, List.map_cons, List.map_nil, List.replicate_succ, List.replicate_zero, List.cons_append, List.nil_append, List.length_cons, List.length_nil]
  refine ⟨len_ok (by decide), len_ok (by decide), ?_, ⟨"right", day, [.str (ch c1), .str (ch c2), .str (ch c3), .int (1 + r), .int q4, .int q5, .int f, .int l, .int x1, .str x2, .int x3]⟩, rfl, gb_of (ks := ["name", "name", "name", "rank", "water", "much", "season", "season", "part", "below", "delay"]) hd hd9 sig_right ?_ (by kernel_rfl) rfl ?_ ?_⟩
  · refine pA.trans (pB.trans (pC.trans ?_))
    refine (List.prefix_append _ _).trans (pD.trans ?_)
    refine (List.prefix_append _ _).trans (pE.trans ?_)
    refine (List.prefix_append _ _).trans (pF.trans ?_)
    exact (List.prefix_append _ _).trans (pG.trans pJ)
  · simp only [sigM, (lt_rstv hc1).o, hc2.o, (lt_ow hc3).o, okI_of (show 0 ≤ 1 + r by omega) (by omega), hq4.1, hq5.1, hf.1, hll.1, hx1.1, hx2.1, hx3.1, Bool.and_self]
  · simp only [List.zip_cons_cons, List.zip_nil_right, List.all_cons, List.all_nil, part_name (lt_rstv hc1).n, part_name hc2.n, part_name (lt_ow hc3).n, part_rank (show 1 ≤ 1 + r ∧ 1 + r ≤ 99 by omega), part_water hq4.2, part_much hq5.2, part_season hf.2, part_season hll.2, part_part hx1.2, part_below hx2.2.1, part_delay hx3.2, Bool.and_self]
  · simp only [txtB, List.all_cons, List.all_nil, (lt_rstv hc1).t, hc2.t, (lt_ow hc3).t, hx2.2.2, Bool.and_self]
end Bh
end
section
set_option Elab.async false
set_option linter.all false
set_option maxRecDepth 100000
set_option maxHeartbeats 0
namespace Bh
open PySem MP
theorem rng_eq (a b : Int) (n : Nat) (h : b = a + n) : rngW a b = (List.range n).map fun (k : Nat) => Wv.int (a + (k : Int)) := by
  unfold rngW
  have : (b - a).toNat = n := by omega
  rw [this]
theorem rng10 {a b : Int} (h1 : -1000000 ≤ a) (h2 : a ≤ 1000000) (h3 : -1000000 ≤ b) (h4 : b ≤ 1000000) : (rngOk a && rngOk b) = true := by
  unfold rngOk
  rw [decide_eq_true (by omega), decide_eq_true (by omega), decide_eq_true (by omega), decide_eq_true (by omega)]
  rfl
theorem sig_read : (("read" : Str), [true, false]) ∈ sigT := by decide +kernel
theorem sig_ask : (("ask" : Str), [true, false]) ∈ sigT := by decide +kernel
theorem sig_store : (("store" : Str), [true]) ∈ sigT := by decide +kernel
theorem sig_release : (("release" : Str), [true, true, true, false]) ∈ sigT := by decide +kernel
theorem sig_sold : (("sold" : Str), [true, true]) ∈ sigT := by decide +kernel
theorem sig_leased : (("leased" : Str), [true, true, false]) ∈ sigT := by decide +kernel
theorem sig_moved : (("moved" : Str), [true, true]) ∈ sigT := by decide +kernel
theorem sig_share : (("share" : Str), [true, true, false]) ∈ sigT := by decide +kernel
theorem sig_dam : (("dam" : Str), [true, false, false]) ∈ sigT := by decide +kernel
theorem sig_place : (("place" : Str), [true, true, false, false]) ∈ sigT := by decide +kernel
theorem b_ok : okS "b" = true := by decide +kernel
theorem bn_ok : nameOk ("b" : Str) = true := by decide +kernel
theorem bt_ok : decide (("b" : Str) ∈ LT.map ch) = true := by decide +kernel
theorem law_truth_ok (S : List Int) (hl : S.length ≤ 63) (k : Nat) (i : Int) (hi : 0 ≤ i) (M : Mem) :
    (callN (Gp S) fuel (k + 3) ix__law_truth [.scr, .int i] M).sat fun v M' => M <+: M' ∧ ∃ t, v = t.v ∧ GB t := by
  rw [at__law_truth]
  refine run_sat rfl ?_
  show (evSl (Gp S) _ _ fuel sl__law_truth [some .scr, some (.int i), none, none, none, none, none, none, none] M).sat _
  unfold sl__law_truth
  simp only [q_nil, q_cons, k_nx, k_ret, k_brk, k_ct, q_asg, q_asgA, q_asgS, q_aug, q_ex, q_ret, q_retN, q_pass, q_brk, q_cont, q_ifs, q_for, q_whl, b_t, b_f, be_t, be_f, ba_t, ba_f, bo_t, bo_f, t_bl, t_int, t_non,     q_var, q_con, q_glb, q_tup, q_lst, q_dict0, q_bin, q_neg, q_not, q_and, q_or, q_ife, q_cmp, q_cmp2, q_attr, q_sub, q_srev, q_call, q_callk, q_meth, q_bm, q_new, q_bi, q_isi, q_lc, q_dc, q_sortk, q_sortv, q_sortvM, q_maxk, q_dict2, q_anil, q_acons, q_ival, q_items, q_vals, q_rng, q_zip, q_cntT, q_tab, q_tnin, q_zipT,     o_add, o_sub, o_mul, o_fdiv, o_mod, o_pow18, o_addT, ag_add, ag_sub, c_lt, c_gt, c_le, c_ge, c_eq, c_ne, c_is, c_isn, c_in, c_nin, u_tup, u_scr, n_scr, n_tup, n_str, n_abs, n_min2, n_max2, tg_nm, tg_2, tg_3, at_0, at_1, at_2, at_3, at_4, i_int, sat_some, getV_0, getV_s,     List.set_cons_zero, List.set_cons_succ, List.map_cons, List.map_nil, List.replicate_succ, List.replicate_zero, List.cons_append, List.nil_append, List.length_cons, List.length_nil]
  refine sat_mono (law_day_ok S hl k i hi M) fun v A ⟨pA, day, hv, a0, a1⟩ => ?_
  subst hv
  have hd : okI day = true := okI_of a0 (by omega)
  have hd9 : 0 ≤ day ∧ day ≤ 9999 := by omega
  try simp only [q_nil, q_cons, k_nx, k_ret, k_brk, k_ct, q_asg, q_asgA, q_asgS, q_aug, q_ex, q_ret, q_retN, q_pass, q_brk, q_cont, q_ifs, q_for, q_whl, b_t, b_f, be_t, be_f, ba_t, ba_f, bo_t, bo_f, t_bl, t_int, t_non,     q_var, q_con, q_glb, q_tup, q_lst, q_dict0, q_bin, q_neg, q_not, q_and, q_or, q_ife, q_cmp, q_cmp2, q_attr, q_sub, q_srev, q_call, q_callk, q_meth, q_bm, q_new, q_bi, q_isi, q_lc, q_dc, q_sortk, q_sortv, q_sortvM, q_maxk, q_dict2, q_anil, q_acons, q_ival, q_items, q_vals, q_rng, q_zip, q_cntT, q_tab, q_tnin, q_zipT,     o_add, o_sub, o_mul, o_fdiv, o_mod, o_pow18, o_addT, ag_add, ag_sub, c_lt, c_gt, c_le, c_ge, c_eq, c_ne, c_is, c_isn, c_in, c_nin, u_tup, u_scr, n_scr, n_tup, n_str, n_abs, n_min2, n_max2, tg_nm, tg_2, tg_3, at_0, at_1, at_2, at_3, at_4, i_int, sat_some, getV_0, getV_s,     List.set_cons_zero, List.set_cons_succ, List.map_cons, List.map_nil, List.replicate_succ, List.replicate_zero, List.cons_append, List.nil_append, List.length_cons, List.length_nil]
  refine sat_mono (drawn_ok S hl (k + 1) (i + 1) 16 (by omega) (by omega) A) fun v B ⟨pB, way, hv, w0, w1⟩ => ?_
  subst hv
  refine ⟨len_ok (by decide), ?_⟩
  try simp only [q_nil, q_cons, k_nx, k_ret, k_brk, k_ct, q_asg, q_asgA, q_asgS, q_aug, q_ex, q_ret, q_retN, q_pass, q_brk, q_cont, q_ifs, q_for, q_whl, b_t, b_f, be_t, be_f, ba_t, ba_f, bo_t, bo_f, t_bl, t_int, t_non,     q_var, q_con, q_glb, q_tup, q_lst, q_dict0, q_bin, q_neg, q_not, q_and, q_or, q_ife, q_cmp, q_cmp2, q_attr, q_sub, q_srev, q_call, q_callk, q_meth, q_bm, q_new, q_bi, q_isi, q_lc, q_dc, q_sortk, q_sortv, q_sortvM, q_maxk, q_dict2, q_anil, q_acons, q_ival, q_items, q_vals, q_rng, q_zip, q_cntT, q_tab, q_tnin, q_zipT,     o_add, o_sub, o_mul, o_fdiv, o_mod, o_pow18, o_addT, ag_add, ag_sub, c_lt, c_gt, c_le, c_ge, c_eq, c_ne, c_is, c_isn, c_in, c_nin, u_tup, u_scr, n_scr, n_tup, n_str, n_abs, n_min2, n_max2, tg_nm, tg_2, tg_3, at_0, at_1, at_2, at_3, at_4, i_int, sat_some, getV_0, getV_s,     List.set_cons_zero, List.set_cons_succ, List.map_cons, List.map_nil, List.replicate_succ, List.replicate_zero, List.cons_append, List.nil_append, List.length_cons, List.length_nil]
  refine ⟨len_ok (by decide), ?_⟩
  refine sat_mono (drawn_ok S hl (k + 1) (i + 2) 4 (by omega) (by omega) _) fun v C ⟨pC, r, hv, d0, d1⟩ => ?_
  subst hv
  obtain ⟨y4, hy4, e4⟩ := at_mem (xs := [Wv.int 0, .int 4, .int 12, .int 50]) d0 d1
  refine sat_of (sub_lst (pre_get pC (at_new ..)) e4) ?_
  obtain ⟨am, rfl, ham⟩ : ∃ q : Int, y4 = .int q ∧ okI q = true ∧ 0 ≤ q ∧ q ≤ 9999 := by
    simp only [List.mem_cons, List.not_mem_nil, or_false] at hy4
    rcases hy4 with rfl | rfl | rfl | rfl <;> exact ⟨_, rfl, by decide⟩
  try simp only [q_nil, q_cons, k_nx, k_ret, k_brk, k_ct, q_asg, q_asgA, q_asgS, q_aug, q_ex, q_ret, q_retN, q_pass, q_brk, q_cont, q_ifs, q_for, q_whl, b_t, b_f, be_t, be_f, ba_t, ba_f, bo_t, bo_f, t_bl, t_int, t_non,     q_var, q_con, q_glb, q_tup, q_lst, q_dict0, q_bin, q_neg, q_not, q_and, q_or, q_ife, q_cmp, q_cmp2, q_attr, q_sub, q_srev, q_call, q_callk, q_meth, q_bm, q_new, q_bi, q_isi, q_lc, q_dc, q_sortk, q_sortv, q_sortvM, q_maxk, q_dict2, q_anil, q_acons, q_ival, q_items, q_vals, q_rng, q_zip, q_cntT, q_tab, q_tnin, q_zipT,     o_add, o_sub, o_mul, o_fdiv, o_mod, o_pow18, o_addT, ag_add, ag_sub, c_lt, c_gt, c_le, c_ge, c_eq, c_ne, c_is, c_isn, c_in, c_nin, u_tup, u_scr, n_scr, n_tup, n_str, n_abs, n_min2, n_max2, tg_nm, tg_2, tg_3, at_0, at_1, at_2, at_3, at_4, i_int, sat_some, getV_0, getV_s,     List.set_cons_zero, List.set_cons_succ, List.map_cons, List.map_nil, List.replicate_succ, List.replicate_zero, List.cons_append, List.nil_append, List.length_cons, List.length_nil]
  refine sat_mono (drawn_ok S hl (k + 1) (i + 3) 4 (by omega) (by omega) C) fun v D ⟨pD, r, hv, d0, d1⟩ => ?_
  subst hv
  obtain ⟨c1, hc1, e1⟩ := str_pick (S := S) (M := D) (z := "rstv") (by decide +kernel) d0 (by rw [show (("rstv" : Str).length : Int) = 4 by decide +kernel]; exact d1)
  refine sat_of e1 ?_
  refine ⟨len_ok (by decide), ?_⟩
  try simp only [q_nil, q_cons, k_nx, k_ret, k_brk, k_ct, q_asg, q_asgA, q_asgS, q_aug, q_ex, q_ret, q_retN, q_pass, q_brk, q_cont, q_ifs, q_for, q_whl, b_t, b_f, be_t, be_f, ba_t, ba_f, bo_t, bo_f, t_bl, t_int, t_non,     q_var, q_con, q_glb, q_tup, q_lst, q_dict0, q_bin, q_neg, q_not, q_and, q_or, q_ife, q_cmp, q_cmp2, q_attr, q_sub, q_srev, q_call, q_callk, q_meth, q_bm, q_new, q_bi, q_isi, q_lc, q_dc, q_sortk, q_sortv, q_sortvM, q_maxk, q_dict2, q_anil, q_acons, q_ival, q_items, q_vals, q_rng, q_zip, q_cntT, q_tab, q_tnin, q_zipT,     o_add, o_sub, o_mul, o_fdiv, o_mod, o_pow18, o_addT, ag_add, ag_sub, c_lt, c_gt, c_le, c_ge, c_eq, c_ne, c_is, c_isn, c_in, c_nin, u_tup, u_scr, n_scr, n_tup, n_str, n_abs, n_min2, n_max2, tg_nm, tg_2, tg_3, at_0, at_1, at_2, at_3, at_4, i_int, sat_some, getV_0, getV_s,     List.set_cons_zero, List.set_cons_succ, List.map_cons, List.map_nil, List.replicate_succ, List.replicate_zero, List.cons_append, List.nil_append, List.length_cons, List.length_nil]
  refine sat_mono (drawn_ok S hl (k + 1) (i + 4) 2 (by omega) (by omega) D) fun v E ⟨pE, r, hv, d0, d1⟩ => ?_
  subst hv
  obtain ⟨c2, hc2, e2⟩ := str_pick (S := S) (M := E) (z := "ow") (by decide +kernel) d0 (by rw [show (("ow" : Str).length : Int) = 2 by decide +kernel]; exact d1)
  refine sat_of e2 ?_
  have k1 := lt_rstv hc1
  have k2 := lt_ow hc2
  have pME : M <+: E := pA.trans (pB.trans ((List.prefix_append _ _).trans (pC.trans (pD.trans pE))))
  clear pA pB pC pD pE e1 e2 e4
  try simp only [q_nil, q_cons, k_nx, k_ret, k_brk, k_ct, q_asg, q_asgA, q_asgS, q_aug, q_ex, q_ret, q_retN, q_pass, q_brk, q_cont, q_ifs, q_for, q_whl, b_t, b_f, be_t, be_f, ba_t, ba_f, bo_t, bo_f, t_bl, t_int, t_non,     q_var, q_con, q_glb, q_tup, q_lst, q_dict0, q_bin, q_neg, q_not, q_and, q_or, q_ife, q_cmp, q_cmp2, q_attr, q_sub, q_srev, q_call, q_callk, q_meth, q_bm, q_new, q_bi, q_isi, q_lc, q_dc, q_sortk, q_sortv, q_sortvM, q_maxk, q_dict2, q_anil, q_acons, q_ival, q_items, q_vals, q_rng, q_zip, q_cntT, q_tab, q_tnin, q_zipT,     o_add, o_sub, o_mul, o_fdiv, o_mod, o_pow18, o_addT, ag_add, ag_sub, c_lt, c_gt, c_le, c_ge, c_eq, c_ne, c_is, c_isn, c_in, c_nin, u_tup, u_scr, n_scr, n_tup, n_str, n_abs, n_min2, n_max2, tg_nm, tg_2, tg_3, at_0, at_1, at_2, at_3, at_4, i_int, sat_some, getV_0, getV_s,     List.set_cons_zero, List.set_cons_succ, List.map_cons, List.map_nil, List.replicate_succ, List.replicate_zero, List.cons_append, List.nil_append, List.length_cons, List.length_nil]
  by_cases b1 : way < 6
  · rw [decide_eq_true b1]
    simp only [q_nil, q_cons, k_nx, k_ret, k_brk, k_ct, q_asg, q_asgA, q_asgS, q_aug, q_ex, q_ret, q_retN, q_pass, q_brk, q_cont, q_ifs, q_for, q_whl, b_t, b_f, be_t, be_f, ba_t, ba_f, bo_t, bo_f, t_bl, t_int, t_non,     q_var, q_con, q_glb, q_tup, q_lst, q_dict0, q_bin, q_neg, q_not, q_and, q_or, q_ife, q_cmp, q_cmp2, q_attr, q_sub, q_srev, q_call, q_callk, q_meth, q_bm, q_new, q_bi, q_isi, q_lc, q_dc, q_sortk, q_sortv, q_sortvM, q_maxk, q_dict2, q_anil, q_acons, q_ival, q_items, q_vals, q_rng, q_zip, q_cntT, q_tab, q_tnin, q_zipT,     o_add, o_sub, o_mul, o_fdiv, o_mod, o_pow18, o_addT, ag_add, ag_sub, c_lt, c_gt, c_le, c_ge, c_eq, c_ne, c_is, c_isn, c_in, c_nin, u_tup, u_scr, n_scr, n_tup, n_str, n_abs, n_min2, n_max2, tg_nm, tg_2, tg_3, at_0, at_1, at_2, at_3, at_4, i_int, sat_some, getV_0, getV_s,     List.set_cons_zero, List.set_cons_succ, List.map_cons, List.map_nil, List.replicate_succ, List.replicate_zero, List.cons_append, List.nil_append, List.length_cons, List.length_nil]
    refine sat_mono (law_place_ok S hl k (i + 5) (by omega) E) fun v F ⟨pF, c3, hv, hc3⟩ => ?_
    subst hv
    refine ⟨len_ok (by decide), pME.trans pF, ⟨"read", day, [.str (ch c3), .int am]⟩, rfl, gb_of (ks := ["name", "water"]) hd hd9 sig_read ?_ (by kernel_rfl) rfl ?_ ?_⟩
    · simp only [sigM, hc3.o, ham.1, Bool.and_self]
    · simp only [List.zip_cons_cons, List.zip_nil_right, List.all_cons, List.all_nil, part_name hc3.n, part_water ham.2, Bool.and_self]
    · simp only [txtB, List.all_cons, List.all_nil, hc3.t, Bool.and_self]
  · rw [decide_eq_false b1]
    simp only [q_nil, q_cons, k_nx, k_ret, k_brk, k_ct, q_asg, q_asgA, q_asgS, q_aug, q_ex, q_ret, q_retN, q_pass, q_brk, q_cont, q_ifs, q_for, q_whl, b_t, b_f, be_t, be_f, ba_t, ba_f, bo_t, bo_f, t_bl, t_int, t_non,     q_var, q_con, q_glb, q_tup, q_lst, q_dict0, q_bin, q_neg, q_not, q_and, q_or, q_ife, q_cmp, q_cmp2, q_attr, q_sub, q_srev, q_call, q_callk, q_meth, q_bm, q_new, q_bi, q_isi, q_lc, q_dc, q_sortk, q_sortv, q_sortvM, q_maxk, q_dict2, q_anil, q_acons, q_ival, q_items, q_vals, q_rng, q_zip, q_cntT, q_tab, q_tnin, q_zipT,     o_add, o_sub, o_mul, o_fdiv, o_mod, o_pow18, o_addT, ag_add, ag_sub, c_lt, c_gt, c_le, c_ge, c_eq, c_ne, c_is, c_isn, c_in, c_nin, u_tup, u_scr, n_scr, n_tup, n_str, n_abs, n_min2, n_max2, tg_nm, tg_2, tg_3, at_0, at_1, at_2, at_3, at_4, i_int, sat_some, getV_0, getV_s,     List.set_cons_zero, List.set_cons_succ, List.map_cons, List.map_nil, List.replicate_succ, List.replicate_zero, List.cons_append, List.nil_append, List.length_cons, List.length_nil]
    by_cases b2 : way < 10
    · rw [decide_eq_true b2]
      simp only [q_nil, q_cons, k_nx, k_ret, k_brk, k_ct, q_asg, q_asgA, q_asgS, q_aug, q_ex, q_ret, q_retN, q_pass, q_brk, q_cont, q_ifs, q_for, q_whl, b_t, b_f, be_t, be_f, ba_t, ba_f, bo_t, bo_f, t_bl, t_int, t_non,     q_var, q_con, q_glb, q_tup, q_lst, q_dict0, q_bin, q_neg, q_not, q_and, q_or, q_ife, q_cmp, q_cmp2, q_attr, q_sub, q_srev, q_call, q_callk, q_meth, q_bm, q_new, q_bi, q_isi, q_lc, q_dc, q_sortk, q_sortv, q_sortvM, q_maxk, q_dict2, q_anil, q_acons, q_ival, q_items, q_vals, q_rng, q_zip, q_cntT, q_tab, q_tnin, q_zipT,     o_add, o_sub, o_mul, o_fdiv, o_mod, o_pow18, o_addT, ag_add, ag_sub, c_lt, c_gt, c_le, c_ge, c_eq, c_ne, c_is, c_isn, c_in, c_nin, u_tup, u_scr, n_scr, n_tup, n_str, n_abs, n_min2, n_max2, tg_nm, tg_2, tg_3, at_0, at_1, at_2, at_3, at_4, i_int, sat_some, getV_0, getV_s,     List.set_cons_zero, List.set_cons_succ, List.map_cons, List.map_nil, List.replicate_succ, List.replicate_zero, List.cons_append, List.nil_append, List.length_cons, List.length_nil]
      refine ⟨len_ok (by decide), pME, ⟨"ask", day, [.str (ch c1), .int am]⟩, rfl, gb_of (ks := ["name", "water"]) hd hd9 sig_ask ?_ (by kernel_rfl) rfl ?_ ?_⟩
      · simp only [sigM, k1.o, ham.1, Bool.and_self]
      · simp only [List.zip_cons_cons, List.zip_nil_right, List.all_cons, List.all_nil, part_name k1.n, part_water ham.2, Bool.and_self]
      · simp only [txtB, List.all_cons, List.all_nil, k1.t, Bool.and_self]
    · rw [decide_eq_false b2]
      simp only [q_nil, q_cons, k_nx, k_ret, k_brk, k_ct, q_asg, q_asgA, q_asgS, q_aug, q_ex, q_ret, q_retN, q_pass, q_brk, q_cont, q_ifs, q_for, q_whl, b_t, b_f, be_t, be_f, ba_t, ba_f, bo_t, bo_f, t_bl, t_int, t_non,     q_var, q_con, q_glb, q_tup, q_lst, q_dict0, q_bin, q_neg, q_not, q_and, q_or, q_ife, q_cmp, q_cmp2, q_attr, q_sub, q_srev, q_call, q_callk, q_meth, q_bm, q_new, q_bi, q_isi, q_lc, q_dc, q_sortk, q_sortv, q_sortvM, q_maxk, q_dict2, q_anil, q_acons, q_ival, q_items, q_vals, q_rng, q_zip, q_cntT, q_tab, q_tnin, q_zipT,     o_add, o_sub, o_mul, o_fdiv, o_mod, o_pow18, o_addT, ag_add, ag_sub, c_lt, c_gt, c_le, c_ge, c_eq, c_ne, c_is, c_isn, c_in, c_nin, u_tup, u_scr, n_scr, n_tup, n_str, n_abs, n_min2, n_max2, tg_nm, tg_2, tg_3, at_0, at_1, at_2, at_3, at_4, i_int, sat_some, getV_0, getV_s,     List.set_cons_zero, List.set_cons_succ, List.map_cons, List.map_nil, List.replicate_succ, List.replicate_zero, List.cons_append, List.nil_append, List.length_cons, List.length_nil]
      refine ⟨_, eqW_int _ _, ?_⟩
      by_cases b3 : way = 10
      · rw [decide_eq_true b3]
        simp only [q_nil, q_cons, k_nx, k_ret, k_brk, k_ct, q_asg, q_asgA, q_asgS, q_aug, q_ex, q_ret, q_retN, q_pass, q_brk, q_cont, q_ifs, q_for, q_whl, b_t, b_f, be_t, be_f, ba_t, ba_f, bo_t, bo_f, t_bl, t_int, t_non,     q_var, q_con, q_glb, q_tup, q_lst, q_dict0, q_bin, q_neg, q_not, q_and, q_or, q_ife, q_cmp, q_cmp2, q_attr, q_sub, q_srev, q_call, q_callk, q_meth, q_bm, q_new, q_bi, q_isi, q_lc, q_dc, q_sortk, q_sortv, q_sortvM, q_maxk, q_dict2, q_anil, q_acons, q_ival, q_items, q_vals, q_rng, q_zip, q_cntT, q_tab, q_tnin, q_zipT,     o_add, o_sub, o_mul, o_fdiv, o_mod, o_pow18, o_addT, ag_add, ag_sub, c_lt, c_gt, c_le, c_ge, c_eq, c_ne, c_is, c_isn, c_in, c_nin, u_tup, u_scr, n_scr, n_tup, n_str, n_abs, n_min2, n_max2, tg_nm, tg_2, tg_3, at_0, at_1, at_2, at_3, at_4, i_int, sat_some, getV_0, getV_s,     List.set_cons_zero, List.set_cons_succ, List.map_cons, List.map_nil, List.replicate_succ, List.replicate_zero, List.cons_append, List.nil_append, List.length_cons, List.length_nil]
        refine ⟨len_ok (by decide), pME, ⟨"store", day, [.str (ch c1)]⟩, rfl, gb_of (ks := ["name"]) hd hd9 sig_store ?_ (by kernel_rfl) rfl ?_ ?_⟩
        · simp only [sigM, k1.o, Bool.and_self]
        · simp only [List.zip_cons_cons, List.zip_nil_right, List.all_cons, List.all_nil, part_name k1.n, Bool.and_self]
        · simp only [txtB, List.all_cons, List.all_nil, k1.t, Bool.and_self]
      · rw [decide_eq_false b3]
        simp only [q_nil, q_cons, k_nx, k_ret, k_brk, k_ct, q_asg, q_asgA, q_asgS, q_aug, q_ex, q_ret, q_retN, q_pass, q_brk, q_cont, q_ifs, q_for, q_whl, b_t, b_f, be_t, be_f, ba_t, ba_f, bo_t, bo_f, t_bl, t_int, t_non,     q_var, q_con, q_glb, q_tup, q_lst, q_dict0, q_bin, q_neg, q_not, q_and, q_or, q_ife, q_cmp, q_cmp2, q_attr, q_sub, q_srev, q_call, q_callk, q_meth, q_bm, q_new, q_bi, q_isi, q_lc, q_dc, q_sortk, q_sortv, q_sortvM, q_maxk, q_dict2, q_anil, q_acons, q_ival, q_items, q_vals, q_rng, q_zip, q_cntT, q_tab, q_tnin, q_zipT,     o_add, o_sub, o_mul, o_fdiv, o_mod, o_pow18, o_addT, ag_add, ag_sub, c_lt, c_gt, c_le, c_ge, c_eq, c_ne, c_is, c_isn, c_in, c_nin, u_tup, u_scr, n_scr, n_tup, n_str, n_abs, n_min2, n_max2, tg_nm, tg_2, tg_3, at_0, at_1, at_2, at_3, at_4, i_int, sat_some, getV_0, getV_s,     List.set_cons_zero, List.set_cons_succ, List.map_cons, List.map_nil, List.replicate_succ, List.replicate_zero, List.cons_append, List.nil_append, List.length_cons, List.length_nil]
        refine ⟨_, eqW_int _ _, ?_⟩
        by_cases b4 : way = 11
        · rw [decide_eq_true b4]
          simp only [q_nil, q_cons, k_nx, k_ret, k_brk, k_ct, q_asg, q_asgA, q_asgS, q_aug, q_ex, q_ret, q_retN, q_pass, q_brk, q_cont, q_ifs, q_for, q_whl, b_t, b_f, be_t, be_f, ba_t, ba_f, bo_t, bo_f, t_bl, t_int, t_non,     q_var, q_con, q_glb, q_tup, q_lst, q_dict0, q_bin, q_neg, q_not, q_and, q_or, q_ife, q_cmp, q_cmp2, q_attr, q_sub, q_srev, q_call, q_callk, q_meth, q_bm, q_new, q_bi, q_isi, q_lc, q_dc, q_sortk, q_sortv, q_sortvM, q_maxk, q_dict2, q_anil, q_acons, q_ival, q_items, q_vals, q_rng, q_zip, q_cntT, q_tab, q_tnin, q_zipT,     o_add, o_sub, o_mul, o_fdiv, o_mod, o_pow18, o_addT, ag_add, ag_sub, c_lt, c_gt, c_le, c_ge, c_eq, c_ne, c_is, c_isn, c_in, c_nin, u_tup, u_scr, n_scr, n_tup, n_str, n_abs, n_min2, n_max2, tg_nm, tg_2, tg_3, at_0, at_1, at_2, at_3, at_4, i_int, sat_some, getV_0, getV_s,     List.set_cons_zero, List.set_cons_succ, List.map_cons, List.map_nil, List.replicate_succ, List.replicate_zero, List.cons_append, List.nil_append, List.length_cons, List.length_nil]
          refine ⟨len_ok (by decide), pME, ⟨"release", day, [.str "b", .str (ch c2), .str (ch c1), .int am]⟩, rfl, gb_of (ks := ["name", "name", "name", "water"]) hd hd9 sig_release ?_ (by kernel_rfl) rfl ?_ ?_⟩
          · simp only [sigM, b_ok, k2.o, k1.o, ham.1, Bool.and_self]
          · simp only [List.zip_cons_cons, List.zip_nil_right, List.all_cons, List.all_nil, part_name bn_ok, part_name k2.n, part_name k1.n, part_water ham.2, Bool.and_self]
          · simp only [txtB, List.all_cons, List.all_nil, bt_ok, k2.t, k1.t, Bool.and_self]
        · rw [decide_eq_false b4]
          simp only [q_nil, q_cons, k_nx, k_ret, k_brk, k_ct, q_asg, q_asgA, q_asgS, q_aug, q_ex, q_ret, q_retN, q_pass, q_brk, q_cont, q_ifs, q_for, q_whl, b_t, b_f, be_t, be_f, ba_t, ba_f, bo_t, bo_f, t_bl, t_int, t_non,     q_var, q_con, q_glb, q_tup, q_lst, q_dict0, q_bin, q_neg, q_not, q_and, q_or, q_ife, q_cmp, q_cmp2, q_attr, q_sub, q_srev, q_call, q_callk, q_meth, q_bm, q_new, q_bi, q_isi, q_lc, q_dc, q_sortk, q_sortv, q_sortvM, q_maxk, q_dict2, q_anil, q_acons, q_ival, q_items, q_vals, q_rng, q_zip, q_cntT, q_tab, q_tnin, q_zipT,     o_add, o_sub, o_mul, o_fdiv, o_mod, o_pow18, o_addT, ag_add, ag_sub, c_lt, c_gt, c_le, c_ge, c_eq, c_ne, c_is, c_isn, c_in, c_nin, u_tup, u_scr, n_scr, n_tup, n_str, n_abs, n_min2, n_max2, tg_nm, tg_2, tg_3, at_0, at_1, at_2, at_3, at_4, i_int, sat_some, getV_0, getV_s,     List.set_cons_zero, List.set_cons_succ, List.map_cons, List.map_nil, List.replicate_succ, List.replicate_zero, List.cons_append, List.nil_append, List.length_cons, List.length_nil]
          refine ⟨_, eqW_int _ _, ?_⟩
          by_cases b5 : way = 12
          · rw [decide_eq_true b5]
            simp only [q_nil, q_cons, k_nx, k_ret, k_brk, k_ct, q_asg, q_asgA, q_asgS, q_aug, q_ex, q_ret, q_retN, q_pass, q_brk, q_cont, q_ifs, q_for, q_whl, b_t, b_f, be_t, be_f, ba_t, ba_f, bo_t, bo_f, t_bl, t_int, t_non,     q_var, q_con, q_glb, q_tup, q_lst, q_dict0, q_bin, q_neg, q_not, q_and, q_or, q_ife, q_cmp, q_cmp2, q_attr, q_sub, q_srev, q_call, q_callk, q_meth, q_bm, q_new, q_bi, q_isi, q_lc, q_dc, q_sortk, q_sortv, q_sortvM, q_maxk, q_dict2, q_anil, q_acons, q_ival, q_items, q_vals, q_rng, q_zip, q_cntT, q_tab, q_tnin, q_zipT,     o_add, o_sub, o_mul, o_fdiv, o_mod, o_pow18, o_addT, ag_add, ag_sub, c_lt, c_gt, c_le, c_ge, c_eq, c_ne, c_is, c_isn, c_in, c_nin, u_tup, u_scr, n_scr, n_tup, n_str, n_abs, n_min2, n_max2, tg_nm, tg_2, tg_3, at_0, at_1, at_2, at_3, at_4, i_int, sat_some, getV_0, getV_s,     List.set_cons_zero, List.set_cons_succ, List.map_cons, List.map_nil, List.replicate_succ, List.replicate_zero, List.cons_append, List.nil_append, List.length_cons, List.length_nil]
            refine ⟨len_ok (by decide), pME, ⟨"sold", day, [.str (ch c1), .str (ch c2)]⟩, rfl, gb_of (ks := ["name", "name"]) hd hd9 sig_sold ?_ (by kernel_rfl) rfl ?_ ?_⟩
            · simp only [sigM, k1.o, k2.o, Bool.and_self]
            · simp only [List.zip_cons_cons, List.zip_nil_right, List.all_cons, List.all_nil, part_name k1.n, part_name k2.n, Bool.and_self]
            · simp only [txtB, List.all_cons, List.all_nil, k1.t, k2.t, Bool.and_self]
          · rw [decide_eq_false b5]
            simp only [q_nil, q_cons, k_nx, k_ret, k_brk, k_ct, q_asg, q_asgA, q_asgS, q_aug, q_ex, q_ret, q_retN, q_pass, q_brk, q_cont, q_ifs, q_for, q_whl, b_t, b_f, be_t, be_f, ba_t, ba_f, bo_t, bo_f, t_bl, t_int, t_non,     q_var, q_con, q_glb, q_tup, q_lst, q_dict0, q_bin, q_neg, q_not, q_and, q_or, q_ife, q_cmp, q_cmp2, q_attr, q_sub, q_srev, q_call, q_callk, q_meth, q_bm, q_new, q_bi, q_isi, q_lc, q_dc, q_sortk, q_sortv, q_sortvM, q_maxk, q_dict2, q_anil, q_acons, q_ival, q_items, q_vals, q_rng, q_zip, q_cntT, q_tab, q_tnin, q_zipT,     o_add, o_sub, o_mul, o_fdiv, o_mod, o_pow18, o_addT, ag_add, ag_sub, c_lt, c_gt, c_le, c_ge, c_eq, c_ne, c_is, c_isn, c_in, c_nin, u_tup, u_scr, n_scr, n_tup, n_str, n_abs, n_min2, n_max2, tg_nm, tg_2, tg_3, at_0, at_1, at_2, at_3, at_4, i_int, sat_some, getV_0, getV_s,     List.set_cons_zero, List.set_cons_succ, List.map_cons, List.map_nil, List.replicate_succ, List.replicate_zero, List.cons_append, List.nil_append, List.length_cons, List.length_nil]
            refine ⟨_, eqW_int _ _, ?_⟩
            by_cases b6 : way = 13
            · rw [decide_eq_true b6]
              simp only [q_nil, q_cons, k_nx, k_ret, k_brk, k_ct, q_asg, q_asgA, q_asgS, q_aug, q_ex, q_ret, q_retN, q_pass, q_brk, q_cont, q_ifs, q_for, q_whl, b_t, b_f, be_t, be_f, ba_t, ba_f, bo_t, bo_f, t_bl, t_int, t_non,     q_var, q_con, q_glb, q_tup, q_lst, q_dict0, q_bin, q_neg, q_not, q_and, q_or, q_ife, q_cmp, q_cmp2, q_attr, q_sub, q_srev, q_call, q_callk, q_meth, q_bm, q_new, q_bi, q_isi, q_lc, q_dc, q_sortk, q_sortv, q_sortvM, q_maxk, q_dict2, q_anil, q_acons, q_ival, q_items, q_vals, q_rng, q_zip, q_cntT, q_tab, q_tnin, q_zipT,     o_add, o_sub, o_mul, o_fdiv, o_mod, o_pow18, o_addT, ag_add, ag_sub, c_lt, c_gt, c_le, c_ge, c_eq, c_ne, c_is, c_isn, c_in, c_nin, u_tup, u_scr, n_scr, n_tup, n_str, n_abs, n_min2, n_max2, tg_nm, tg_2, tg_3, at_0, at_1, at_2, at_3, at_4, i_int, sat_some, getV_0, getV_s,     List.set_cons_zero, List.set_cons_succ, List.map_cons, List.map_nil, List.replicate_succ, List.replicate_zero, List.cons_append, List.nil_append, List.length_cons, List.length_nil]
              refine sat_mono (drawn_ok S hl (k + 1) (i + 5) 2 (by omega) (by omega) E) fun v F ⟨pF, r, hv, d0, d1⟩ => ?_
              subst hv
              obtain ⟨c3, hc3, e3⟩ := str_pick (S := S) (M := F) (z := "xy") (by decide +kernel) d0 (by rw [show (("xy" : Str).length : Int) = 2 by decide +kernel]; exact d1)
              refine sat_of e3 ?_
              try simp only [q_nil, q_cons, k_nx, k_ret, k_brk, k_ct, q_asg, q_asgA, q_asgS, q_aug, q_ex, q_ret, q_retN, q_pass, q_brk, q_cont, q_ifs, q_for, q_whl, b_t, b_f, be_t, be_f, ba_t, ba_f, bo_t, bo_f, t_bl, t_int, t_non,     q_var, q_con, q_glb, q_tup, q_lst, q_dict0, q_bin, q_neg, q_not, q_and, q_or, q_ife, q_cmp, q_cmp2, q_attr, q_sub, q_srev, q_call, q_callk, q_meth, q_bm, q_new, q_bi, q_isi, q_lc, q_dc, q_sortk, q_sortv, q_sortvM, q_maxk, q_dict2, q_anil, q_acons, q_ival, q_items, q_vals, q_rng, q_zip, q_cntT, q_tab, q_tnin, q_zipT,     o_add, o_sub, o_mul, o_fdiv, o_mod, o_pow18, o_addT, ag_add, ag_sub, c_lt, c_gt, c_le, c_ge, c_eq, c_ne, c_is, c_isn, c_in, c_nin, u_tup, u_scr, n_scr, n_tup, n_str, n_abs, n_min2, n_max2, tg_nm, tg_2, tg_3, at_0, at_1, at_2, at_3, at_4, i_int, sat_some, getV_0, getV_s,     List.set_cons_zero, List.set_cons_succ, List.map_cons, List.map_nil, List.replicate_succ, List.replicate_zero, List.cons_append, List.nil_append, List.length_cons, List.length_nil]
              refine sat_mono (drawn_ok S hl (k + 1) (i + 6) 12 (by omega) (by omega) F) fun v G ⟨pG, r2, hv, f0, f1⟩ => ?_
              subst hv
              try simp only [q_nil, q_cons, k_nx, k_ret, k_brk, k_ct, q_asg, q_asgA, q_asgS, q_aug, q_ex, q_ret, q_retN, q_pass, q_brk, q_cont, q_ifs, q_for, q_whl, b_t, b_f, be_t, be_f, ba_t, ba_f, bo_t, bo_f, t_bl, t_int, t_non,     q_var, q_con, q_glb, q_tup, q_lst, q_dict0, q_bin, q_neg, q_not, q_and, q_or, q_ife, q_cmp, q_cmp2, q_attr, q_sub, q_srev, q_call, q_callk, q_meth, q_bm, q_new, q_bi, q_isi, q_lc, q_dc, q_sortk, q_sortv, q_sortvM, q_maxk, q_dict2, q_anil, q_acons, q_ival, q_items, q_vals, q_rng, q_zip, q_cntT, q_tab, q_tnin, q_zipT,     o_add, o_sub, o_mul, o_fdiv, o_mod, o_pow18, o_addT, ag_add, ag_sub, c_lt, c_gt, c_le, c_ge, c_eq, c_ne, c_is, c_isn, c_in, c_nin, u_tup, u_scr, n_scr, n_tup, n_str, n_abs, n_min2, n_max2, tg_nm, tg_2, tg_3, at_0, at_1, at_2, at_3, at_4, i_int, sat_some, getV_0, getV_s,     List.set_cons_zero, List.set_cons_succ, List.map_cons, List.map_nil, List.replicate_succ, List.replicate_zero, List.cons_append, List.nil_append, List.length_cons, List.length_nil]
              refine ⟨len_ok (by decide), len_ok (by decide), pME.trans (pF.trans pG), ⟨"leased", day, [.str (ch c1), .str (ch c3), .int (day + r2)]⟩, rfl, gb_of (ks := ["name", "name", "day"]) hd hd9 sig_leased ?_ (by kernel_rfl) rfl ?_ ?_⟩
              · simp only [sigM, k1.o, (lt_xy hc3).o, okI_of (show 0 ≤ day + r2 by omega) (by omega), Bool.and_self]
              · simp only [List.zip_cons_cons, List.zip_nil_right, List.all_cons, List.all_nil, part_name k1.n, part_name (lt_xy hc3).n, part_day (show 0 ≤ day + r2 ∧ day + r2 ≤ 9999 by omega), Bool.and_self]
              · simp only [txtB, List.all_cons, List.all_nil, k1.t, (lt_xy hc3).t, Bool.and_self]
            · rw [decide_eq_false b6]
              simp only [q_nil, q_cons, k_nx, k_ret, k_brk, k_ct, q_asg, q_asgA, q_asgS, q_aug, q_ex, q_ret, q_retN, q_pass, q_brk, q_cont, q_ifs, q_for, q_whl, b_t, b_f, be_t, be_f, ba_t, ba_f, bo_t, bo_f, t_bl, t_int, t_non,     q_var, q_con, q_glb, q_tup, q_lst, q_dict0, q_bin, q_neg, q_not, q_and, q_or, q_ife, q_cmp, q_cmp2, q_attr, q_sub, q_srev, q_call, q_callk, q_meth, q_bm, q_new, q_bi, q_isi, q_lc, q_dc, q_sortk, q_sortv, q_sortvM, q_maxk, q_dict2, q_anil, q_acons, q_ival, q_items, q_vals, q_rng, q_zip, q_cntT, q_tab, q_tnin, q_zipT,     o_add, o_sub, o_mul, o_fdiv, o_mod, o_pow18, o_addT, ag_add, ag_sub, c_lt, c_gt, c_le, c_ge, c_eq, c_ne, c_is, c_isn, c_in, c_nin, u_tup, u_scr, n_scr, n_tup, n_str, n_abs, n_min2, n_max2, tg_nm, tg_2, tg_3, at_0, at_1, at_2, at_3, at_4, i_int, sat_some, getV_0, getV_s,     List.set_cons_zero, List.set_cons_succ, List.map_cons, List.map_nil, List.replicate_succ, List.replicate_zero, List.cons_append, List.nil_append, List.length_cons, List.length_nil]
              refine ⟨_, eqW_int _ _, ?_⟩
              by_cases b7 : way = 14
              · rw [decide_eq_true b7]
                simp only [q_nil, q_cons, k_nx, k_ret, k_brk, k_ct, q_asg, q_asgA, q_asgS, q_aug, q_ex, q_ret, q_retN, q_pass, q_brk, q_cont, q_ifs, q_for, q_whl, b_t, b_f, be_t, be_f, ba_t, ba_f, bo_t, bo_f, t_bl, t_int, t_non,     q_var, q_con, q_glb, q_tup, q_lst, q_dict0, q_bin, q_neg, q_not, q_and, q_or, q_ife, q_cmp, q_cmp2, q_attr, q_sub, q_srev, q_call, q_callk, q_meth, q_bm, q_new, q_bi, q_isi, q_lc, q_dc, q_sortk, q_sortv, q_sortvM, q_maxk, q_dict2, q_anil, q_acons, q_ival, q_items, q_vals, q_rng, q_zip, q_cntT, q_tab, q_tnin, q_zipT,     o_add, o_sub, o_mul, o_fdiv, o_mod, o_pow18, o_addT, ag_add, ag_sub, c_lt, c_gt, c_le, c_ge, c_eq, c_ne, c_is, c_isn, c_in, c_nin, u_tup, u_scr, n_scr, n_tup, n_str, n_abs, n_min2, n_max2, tg_nm, tg_2, tg_3, at_0, at_1, at_2, at_3, at_4, i_int, sat_some, getV_0, getV_s,     List.set_cons_zero, List.set_cons_succ, List.map_cons, List.map_nil, List.replicate_succ, List.replicate_zero, List.cons_append, List.nil_append, List.length_cons, List.length_nil]
                refine sat_mono (law_place_ok S hl k (i + 5) (by omega) E) fun v F ⟨pF, c3, hv, hc3⟩ => ?_
                subst hv
                refine ⟨len_ok (by decide), pME.trans pF, ⟨"moved", day, [.str (ch c1), .str (ch c3)]⟩, rfl, gb_of (ks := ["name", "name"]) hd hd9 sig_moved ?_ (by kernel_rfl) rfl ?_ ?_⟩
                · simp only [sigM, k1.o, hc3.o, Bool.and_self]
                · simp only [List.zip_cons_cons, List.zip_nil_right, List.all_cons, List.all_nil, part_name k1.n, part_name hc3.n, Bool.and_self]
                · simp only [txtB, List.all_cons, List.all_nil, k1.t, hc3.t, Bool.and_self]
              · rw [decide_eq_false b7]
                simp only [q_nil, q_cons, k_nx, k_ret, k_brk, k_ct, q_asg, q_asgA, q_asgS, q_aug, q_ex, q_ret, q_retN, q_pass, q_brk, q_cont, q_ifs, q_for, q_whl, b_t, b_f, be_t, be_f, ba_t, ba_f, bo_t, bo_f, t_bl, t_int, t_non,     q_var, q_con, q_glb, q_tup, q_lst, q_dict0, q_bin, q_neg, q_not, q_and, q_or, q_ife, q_cmp, q_cmp2, q_attr, q_sub, q_srev, q_call, q_callk, q_meth, q_bm, q_new, q_bi, q_isi, q_lc, q_dc, q_sortk, q_sortv, q_sortvM, q_maxk, q_dict2, q_anil, q_acons, q_ival, q_items, q_vals, q_rng, q_zip, q_cntT, q_tab, q_tnin, q_zipT,     o_add, o_sub, o_mul, o_fdiv, o_mod, o_pow18, o_addT, ag_add, ag_sub, c_lt, c_gt, c_le, c_ge, c_eq, c_ne, c_is, c_isn, c_in, c_nin, u_tup, u_scr, n_scr, n_tup, n_str, n_abs, n_min2, n_max2, tg_nm, tg_2, tg_3, at_0, at_1, at_2, at_3, at_4, i_int, sat_some, getV_0, getV_s,     List.set_cons_zero, List.set_cons_succ, List.map_cons, List.map_nil, List.replicate_succ, List.replicate_zero, List.cons_append, List.nil_append, List.length_cons, List.length_nil]
                refine ⟨len_ok (by decide), ?_⟩
                refine sat_mono (drawn_ok S hl (k + 1) (i + 5) 3 (by omega) (by omega) _) fun v F ⟨pF, r, hv, d0, d1⟩ => ?_
                subst hv
                obtain ⟨y9, hy9, e9⟩ := at_mem (xs := [Wv.int 0, .int 20, .int 80]) d0 d1
                refine sat_of (sub_lst (pre_get pF (at_new ..)) e9) ?_
                obtain ⟨q9, rfl, hq9⟩ : ∃ q : Int, y9 = .int q ∧ okI q = true ∧ 0 ≤ q ∧ q ≤ 999999 := by
                  simp only [List.mem_cons, List.not_mem_nil, or_false] at hy9
                  rcases hy9 with rfl | rfl | rfl <;> exact ⟨_, rfl, by decide⟩
                refine ⟨len_ok (by decide), pME.trans ((List.prefix_append _ _).trans pF), ⟨"share", day, [.str "b", .str (ch c2), .int q9]⟩, rfl, gb_of (ks := ["name", "name", "much"]) hd hd9 sig_share ?_ (by kernel_rfl) rfl ?_ ?_⟩
                · simp only [sigM, b_ok, k2.o, hq9.1, Bool.and_self]
                · simp only [List.zip_cons_cons, List.zip_nil_right, List.all_cons, List.all_nil, part_name bn_ok, part_name k2.n, part_much hq9.2, Bool.and_self]
                · simp only [txtB, List.all_cons, List.all_nil, bt_ok, k2.t, Bool.and_self]
/-! with voids -/
abbrev Vi := Nat × Bt
def Vi.w (i : Vi) : Wv := vdN i.1 i.2.v
def ViOk (its : List Vi) : Prop := ∀ i ∈ its, i.1 ≤ 3 ∧ GB i.2
theorem vi_pur {i : Vi} (h : i.1 ≤ 3 ∧ GB i.2) : pur 8 i.w = true := pur_le (vdN_pur h.2.1 i.1) (by omega)
theorem law_truths_ok (S : List Int) (hl : S.length ≤ 63) (k : Nat) (i : Int) (many : Nat) (hi : 0 ≤ i) (hi2 : i ≤ 100000) (hm : many ≤ 100) (M : Mem) :
    (callN (Gp S) fuel (k + 4) ix__law_truths [.scr, .int i, .int (many : Int)] M).sat fun v M' => M <+: M' ∧ ∃ y its, v = .ref y ∧ M.length ≤ y ∧ ViOk its ∧ its.length = many ∧ M'[y]? = some (.lst (its.map Vi.w)) := by
  have hz : 1001 ≤ sizeLine := by decide
  rw [at__law_truths]
  refine run_sat rfl ?_
  show (evSl (Gp S) _ _ fuel sl__law_truths [some .scr, some (.int i), some (.int (many : Int)), none, none, none, none] M).sat _
  unfold sl__law_truths
  simp only [q_nil, q_cons, k_nx, k_ret, k_brk, k_ct, q_asg, q_asgA, q_asgS, q_aug, q_ex, q_ret, q_retN, q_pass, q_brk, q_cont, q_ifs, q_for, q_whl, b_t, b_f, be_t, be_f, ba_t, ba_f, bo_t, bo_f, t_bl, t_int, t_non,     q_var, q_con, q_glb, q_tup, q_lst, q_dict0, q_bin, q_neg, q_not, q_and, q_or, q_ife, q_cmp, q_cmp2, q_attr, q_sub, q_srev, q_call, q_callk, q_meth, q_bm, q_new, q_bi, q_isi, q_lc, q_dc, q_sortk, q_sortv, q_sortvM, q_maxk, q_dict2, q_anil, q_acons, q_ival, q_items, q_vals, q_rng, q_zip, q_cntT, q_tab, q_tnin, q_zipT,     o_add, o_sub, o_mul, o_fdiv, o_mod, o_pow18, o_addT, ag_add, ag_sub, c_lt, c_gt, c_le, c_ge, c_eq, c_ne, c_is, c_isn, c_in, c_nin, u_tup, u_scr, n_scr, n_tup, n_str, n_abs, n_min2, n_max2, tg_nm, tg_2, tg_3, at_0, at_1, at_2, at_3, at_4, i_int, sat_some, getV_0, getV_s,     List.set_cons_zero, List.set_cons_succ, List.map_cons, List.map_nil, List.replicate_succ, List.replicate_zero, List.cons_append, List.nil_append, List.length_cons, List.length_nil]
  refine ⟨len_ok (by decide), rng10 (by omega) (by omega) (by omega) (by omega), ?_⟩
  rw [rng_eq 0 _ many (by omega)]
  have hlk : ∀ N : Mem, lockM [] N = N := fun _ => rfl
  have hul : ∀ N : Mem, unlkM [] N = N := fun _ => rfl
  simp only [hlk, hul]
  generalize hM1 : M ++ [Ob.lst []] = M1
  have p1 : M <+: M1 := by rw [← hM1]; exact List.prefix_append _ _
  have hf1 : M1[M.length]? = some (.lst []) := by rw [← hM1]; exact at_new ..
  generalize hfn : M.length = f at *
  refine sat_mono (for_rule (Q := fun q M' => ∃ (its : List Vi) (x4 x5 x6 : Option Wv), q = (.nx, [some .scr, some (.int i), some (.int (many : Int)), some (.ref f), x4, x5, x6]) ∧ M <+: M' ∧ ViOk its ∧ its.length = many ∧ M'[f]? = some (.lst (its.map Vi.w)))
    (fun pre post σ M' => ∃ (j : Nat) (its : List Vi) (x4 x5 x6 : Option Wv), j ≤ many ∧ post = ((List.range many).drop j).map (fun k : Nat => Wv.int (0 + (k : Int))) ∧ σ = [some .scr, some (.int i), some (.int (many : Int)), some (.ref f), x4, x5, x6] ∧ M <+: M' ∧ ViOk its ∧ its.length = j ∧ M'[f]? = some (.lst (its.map Vi.w))) ?_ ?_ _ [] _ _ ⟨0, [], none, none, none, by omega, rfl, rfl, p1, (fun i hi => by cases hi), rfl, hf1⟩) fun q M2 ⟨its, x4, x5, x6, eq, p2, hok, hlen, hf⟩ => ?_
  · rintro pre x post σ M' ⟨j, its, x4, x5, x6, hj, hpost, rfl, pm, hok, hlen, hf⟩
    have hj2 : j < many := by
      by_cases z : j < many
      · exact z
      · rw [List.drop_eq_nil_of_le (by simp; omega)] at hpost; cases hpost
    rw [List.drop_eq_getElem_cons (by simpa using hj2)] at hpost
    simp only [List.getElem_range, List.map_cons, List.cons.injEq] at hpost
    obtain ⟨rfl, rfl⟩ := hpost
    have e0 : (0 : Int) + (j : Int) = (j : Int) := by omega
    rw [e0]
    refine ⟨rfl, [some .scr, some (.int i), some (.int (many : Int)), some (.ref f), some (.int (j : Int)), x5, x6], rfl, ?_⟩
    simp only [q_nil, q_cons, k_nx, k_ret, k_brk, k_ct, q_asg, q_asgA, q_asgS, q_aug, q_ex, q_ret, q_retN, q_pass, q_brk, q_cont, q_ifs, q_for, q_whl, b_t, b_f, be_t, be_f, ba_t, ba_f, bo_t, bo_f, t_bl, t_int, t_non,     q_var, q_con, q_glb, q_tup, q_lst, q_dict0, q_bin, q_neg, q_not, q_and, q_or, q_ife, q_cmp, q_cmp2, q_attr, q_sub, q_srev, q_call, q_callk, q_meth, q_bm, q_new, q_bi, q_isi, q_lc, q_dc, q_sortk, q_sortv, q_sortvM, q_maxk, q_dict2, q_anil, q_acons, q_ival, q_items, q_vals, q_rng, q_zip, q_cntT, q_tab, q_tnin, q_zipT,     o_add, o_sub, o_mul, o_fdiv, o_mod, o_pow18, o_addT, ag_add, ag_sub, c_lt, c_gt, c_le, c_ge, c_eq, c_ne, c_is, c_isn, c_in, c_nin, u_tup, u_scr, n_scr, n_tup, n_str, n_abs, n_min2, n_max2, tg_nm, tg_2, tg_3, at_0, at_1, at_2, at_3, at_4, i_int, sat_some, getV_0, getV_s,     List.set_cons_zero, List.set_cons_succ, List.map_cons, List.map_nil, List.replicate_succ, List.replicate_zero, List.cons_append, List.nil_append, List.length_cons, List.length_nil]
    refine ⟨mul_l (by decide), ?_⟩
    generalize hh : i + 9 * (j : Int) = here
    have hh0 : 0 ≤ here := by omega
    refine sat_mono (drawn_ok S hl (k + 2) (here + 8) 8 (by omega) (by omega) M') fun v A ⟨pA, r, hv, a0, a1⟩ => ?_
    subst hv
    have hfA := pre_get pA hf
    have hflA : f < A.length := (List.getElem?_eq_some_iff.mp hfA).1
    refine ⟨_, eqW_int _ _, ?_⟩
    have put : ∀ (N : Mem) (q : Vi) (y5 y6 : Option Wv), M <+: N → N[f]? = some (.lst (its.map Vi.w)) → q.1 ≤ 3 ∧ GB q.2 → (bmW .append (.ref f) [q.w] N).sat fun _ N2 => ∃ (j_1 : Nat) (its : List Vi) (x4 x5 x6 : Option Wv), j_1 ≤ many ∧ ((List.range many).drop (j + 1)).map (fun k : Nat => Wv.int (0 + (k : Int))) = ((List.range many).drop j_1).map (fun k : Nat => Wv.int (0 + (k : Int))) ∧ [some Wv.scr, some (.int i), some (.int (many : Int)), some (.ref f), some (.int (j : Int)), y5, y6] = [some Wv.scr, some (.int i), some (.int (many : Int)), some (.ref f), x4, x5, x6] ∧ M <+: N2 ∧ ViOk its ∧ its.length = j_1 ∧ N2[f]? = some (.lst (its.map Vi.w)) := fun N q y5 y6 h1 h2 h3 => by
      have hl2 : f < N.length := (List.getElem?_eq_some_iff.mp h2).1
      refine sat_of (bm_append h2 (by simp; omega)) ⟨j + 1, its ++ [q], _, _, _, hj2, rfl, rfl, pre_set h1 (by omega), fun x hx => ?_, by simp [hlen], ?_⟩
      · rcases List.mem_append.mp hx with hx | hx
        · exact hok x hx
        · rw [List.mem_singleton.mp hx]; exact h3
      · rw [List.getElem?_set_self hl2, List.map_append]
        rfl
    have plain : ∀ (N : Mem) (y6 : Option Wv), M <+: N → N[f]? = some (.lst (its.map Vi.w)) → (callN (Gp S) fuel (k + 3) ix__law_truth [.scr, .int here] N).sat fun w N1 => (bmW .append (.ref f) [w] N1).sat fun _ N2 => ∃ (j_1 : Nat) (its : List Vi) (x4 x5 x6 : Option Wv), j_1 ≤ many ∧ ((List.range many).drop (j + 1)).map (fun k : Nat => Wv.int (0 + (k : Int))) = ((List.range many).drop j_1).map (fun k : Nat => Wv.int (0 + (k : Int))) ∧ [some Wv.scr, some (.int i), some (.int (many : Int)), some (.ref f), some (.int (j : Int)), some (.int here), y6] = [some Wv.scr, some (.int i), some (.int (many : Int)), some (.ref f), x4, x5, x6] ∧ M <+: N2 ∧ ViOk its ∧ its.length = j_1 ∧ N2[f]? = some (.lst (its.map Vi.w)) := fun N y6 h1 h2 => by
      refine sat_mono (law_truth_ok S hl k here hh0 N) fun w N1 ⟨q1, t, hw, hgb⟩ => ?_
      subst hw
      exact put N1 (0, t) _ _ (h1.trans q1) (pre_get q1 h2) ⟨by show 0 ≤ 3; omega, hgb⟩
    by_cases c1 : r = 0
    · rw [decide_eq_true c1]
      simp only [q_nil, q_cons, k_nx, k_ret, k_brk, k_ct, q_asg, q_asgA, q_asgS, q_aug, q_ex, q_ret, q_retN, q_pass, q_brk, q_cont, q_ifs, q_for, q_whl, b_t, b_f, be_t, be_f, ba_t, ba_f, bo_t, bo_f, t_bl, t_int, t_non,     q_var, q_con, q_glb, q_tup, q_lst, q_dict0, q_bin, q_neg, q_not, q_and, q_or, q_ife, q_cmp, q_cmp2, q_attr, q_sub, q_srev, q_call, q_callk, q_meth, q_bm, q_new, q_bi, q_isi, q_lc, q_dc, q_sortk, q_sortv, q_sortvM, q_maxk, q_dict2, q_anil, q_acons, q_ival, q_items, q_vals, q_rng, q_zip, q_cntT, q_tab, q_tnin, q_zipT,     o_add, o_sub, o_mul, o_fdiv, o_mod, o_pow18, o_addT, ag_add, ag_sub, c_lt, c_gt, c_le, c_ge, c_eq, c_ne, c_is, c_isn, c_in, c_nin, u_tup, u_scr, n_scr, n_tup, n_str, n_abs, n_min2, n_max2, tg_nm, tg_2, tg_3, at_0, at_1, at_2, at_3, at_4, i_int, sat_some, getV_0, getV_s,     List.set_cons_zero, List.set_cons_succ, List.map_cons, List.map_nil, List.replicate_succ, List.replicate_zero, List.cons_append, List.nil_append, List.length_cons, List.length_nil]
      have hA2 : (A ++ [Ob.lst []])[f]? = some (.lst (its.map Vi.w)) := pre_get (List.prefix_append _ _) hfA
      have eD : toDs (Gp S).S (A ++ [Ob.lst []]) 11 (its.map Vi.w) = some (its.map fun x => dat x.w) := toDs_map fun x hx => toD_pur (vi_pur (hok x hx)) (by omega)
      refine ⟨len_ok (by decide), _, eqW_nil (toD_lst (n := 11) hA2 eD) (at_new ..) (shaped_lst (d := 8) (by omega) fun x hx => ⟨dat_lay (vi_pur (hok x hx)), dat_depth (vi_pur (hok x hx))⟩), ?_⟩
      have pA2 : M <+: A ++ [Ob.lst []] := pre_snoc (pm.trans pA) _
      cases hit : its with
      | nil =>
        rw [← hit]
        have : (its.map fun x => dat x.w).isEmpty = true := by rw [hit]; rfl
        rw [this]
        simp only [q_nil, q_cons, k_nx, k_ret, k_brk, k_ct, q_asg, q_asgA, q_asgS, q_aug, q_ex, q_ret, q_retN, q_pass, q_brk, q_cont, q_ifs, q_for, q_whl, b_t, b_f, be_t, be_f, ba_t, ba_f, bo_t, bo_f, t_bl, t_int, t_non,     q_var, q_con, q_glb, q_tup, q_lst, q_dict0, q_bin, q_neg, q_not, q_and, q_or, q_ife, q_cmp, q_cmp2, q_attr, q_sub, q_srev, q_call, q_callk, q_meth, q_bm, q_new, q_bi, q_isi, q_lc, q_dc, q_sortk, q_sortv, q_sortvM, q_maxk, q_dict2, q_anil, q_acons, q_ival, q_items, q_vals, q_rng, q_zip, q_cntT, q_tab, q_tnin, q_zipT,     o_add, o_sub, o_mul, o_fdiv, o_mod, o_pow18, o_addT, ag_add, ag_sub, c_lt, c_gt, c_le, c_ge, c_eq, c_ne, c_is, c_isn, c_in, c_nin, u_tup, u_scr, n_scr, n_tup, n_str, n_abs, n_min2, n_max2, tg_nm, tg_2, tg_3, at_0, at_1, at_2, at_3, at_4, i_int, sat_some, getV_0, getV_s,     List.set_cons_zero, List.set_cons_succ, List.map_cons, List.map_nil, List.replicate_succ, List.replicate_zero, List.cons_append, List.nil_append, List.length_cons, List.length_nil, Bool.not_true]
        exact ⟨bmT_append hA2, plain _ _ pA2 hA2⟩
      | cons i0 is0 =>
        rw [← hit]
        have : (its.map fun x => dat x.w).isEmpty = false := by rw [hit]; rfl
        rw [this]
        simp only [q_nil, q_cons, k_nx, k_ret, k_brk, k_ct, q_asg, q_asgA, q_asgS, q_aug, q_ex, q_ret, q_retN, q_pass, q_brk, q_cont, q_ifs, q_for, q_whl, b_t, b_f, be_t, be_f, ba_t, ba_f, bo_t, bo_f, t_bl, t_int, t_non,     q_var, q_con, q_glb, q_tup, q_lst, q_dict0, q_bin, q_neg, q_not, q_and, q_or, q_ife, q_cmp, q_cmp2, q_attr, q_sub, q_srev, q_call, q_callk, q_meth, q_bm, q_new, q_bi, q_isi, q_lc, q_dc, q_sortk, q_sortv, q_sortvM, q_maxk, q_dict2, q_anil, q_acons, q_ival, q_items, q_vals, q_rng, q_zip, q_cntT, q_tab, q_tnin, q_zipT,     o_add, o_sub, o_mul, o_fdiv, o_mod, o_pow18, o_addT, ag_add, ag_sub, c_lt, c_gt, c_le, c_ge, c_eq, c_ne, c_is, c_isn, c_in, c_nin, u_tup, u_scr, n_scr, n_tup, n_str, n_abs, n_min2, n_max2, tg_nm, tg_2, tg_3, at_0, at_1, at_2, at_3, at_4, i_int, sat_some, getV_0, getV_s,     List.set_cons_zero, List.set_cons_succ, List.map_cons, List.map_nil, List.replicate_succ, List.replicate_zero, List.cons_append, List.nil_append, List.length_cons, List.length_nil, Bool.not_false]
        have hjp : 0 < j := by rw [← hlen, hit]; simp
        refine sat_of (n_lenL (Gp S) f _ hA2) ?_
        rw [List.length_map, hlen]
        refine sat_mono (drawn_ok S hl (k + 2) here (j : Int) hh0 (by omega) _) fun v B ⟨pB, r2, hv, b0, b1⟩ => ?_
        subst hv
        have hfB := pre_get pB hA2
        obtain ⟨y, hy, ey⟩ := at_mem (xs := its.map Vi.w) b0 (by rw [List.length_map, hlen]; exact b1)
        obtain ⟨q, hq, rfl⟩ := List.mem_map.mp hy
        refine sat_of (sub_lst hfB ey) ?_
        have hqok := hok q hq
        try simp only [q_nil, q_cons, k_nx, k_ret, k_brk, k_ct, q_asg, q_asgA, q_asgS, q_aug, q_ex, q_ret, q_retN, q_pass, q_brk, q_cont, q_ifs, q_for, q_whl, b_t, b_f, be_t, be_f, ba_t, ba_f, bo_t, bo_f, t_bl, t_int, t_non,     q_var, q_con, q_glb, q_tup, q_lst, q_dict0, q_bin, q_neg, q_not, q_and, q_or, q_ife, q_cmp, q_cmp2, q_attr, q_sub, q_srev, q_call, q_callk, q_meth, q_bm, q_new, q_bi, q_isi, q_lc, q_dc, q_sortk, q_sortv, q_sortvM, q_maxk, q_dict2, q_anil, q_acons, q_ival, q_items, q_vals, q_rng, q_zip, q_cntT, q_tab, q_tnin, q_zipT,     o_add, o_sub, o_mul, o_fdiv, o_mod, o_pow18, o_addT, ag_add, ag_sub, c_lt, c_gt, c_le, c_ge, c_eq, c_ne, c_is, c_isn, c_in, c_nin, u_tup, u_scr, n_scr, n_tup, n_str, n_abs, n_min2, n_max2, tg_nm, tg_2, tg_3, at_0, at_1, at_2, at_3, at_4, i_int, sat_some, getV_0, getV_s,     List.set_cons_zero, List.set_cons_succ, List.map_cons, List.map_nil, List.replicate_succ, List.replicate_zero, List.cons_append, List.nil_append, List.length_cons, List.length_nil]
        refine ⟨bmT_append hfB, ?_⟩
        refine sat_of (str_ok S hqok.2.1 q.1 hqok.1 B) ?_
        try simp only [q_nil, q_cons, k_nx, k_ret, k_brk, k_ct, q_asg, q_asgA, q_asgS, q_aug, q_ex, q_ret, q_retN, q_pass, q_brk, q_cont, q_ifs, q_for, q_whl, b_t, b_f, be_t, be_f, ba_t, ba_f, bo_t, bo_f, t_bl, t_int, t_non,     q_var, q_con, q_glb, q_tup, q_lst, q_dict0, q_bin, q_neg, q_not, q_and, q_or, q_ife, q_cmp, q_cmp2, q_attr, q_sub, q_srev, q_call, q_callk, q_meth, q_bm, q_new, q_bi, q_isi, q_lc, q_dc, q_sortk, q_sortv, q_sortvM, q_maxk, q_dict2, q_anil, q_acons, q_ival, q_items, q_vals, q_rng, q_zip, q_cntT, q_tab, q_tnin, q_zipT,     o_add, o_sub, o_mul, o_fdiv, o_mod, o_pow18, o_addT, ag_add, ag_sub, c_lt, c_gt, c_le, c_ge, c_eq, c_ne, c_is, c_isn, c_in, c_nin, u_tup, u_scr, n_scr, n_tup, n_str, n_abs, n_min2, n_max2, tg_nm, tg_2, tg_3, at_0, at_1, at_2, at_3, at_4, i_int, sat_some, getV_0, getV_s,     List.set_cons_zero, List.set_cons_succ, List.map_cons, List.map_nil, List.replicate_succ, List.replicate_zero, List.cons_append, List.nil_append, List.length_cons, List.length_nil]
        refine ⟨rfl, ?_⟩
        have ec : bmW .scount (.str (dat (vdN q.1 q.2.v)).shown) [.str "void"] B = .ok (.int (Txt.count (dat (vdN q.1 q.2.v)).shown "void")) B := rfl
        refine sat_of ec ?_
        try simp only [q_nil, q_cons, k_nx, k_ret, k_brk, k_ct, q_asg, q_asgA, q_asgS, q_aug, q_ex, q_ret, q_retN, q_pass, q_brk, q_cont, q_ifs, q_for, q_whl, b_t, b_f, be_t, be_f, ba_t, ba_f, bo_t, bo_f, t_bl, t_int, t_non,     q_var, q_con, q_glb, q_tup, q_lst, q_dict0, q_bin, q_neg, q_not, q_and, q_or, q_ife, q_cmp, q_cmp2, q_attr, q_sub, q_srev, q_call, q_callk, q_meth, q_bm, q_new, q_bi, q_isi, q_lc, q_dc, q_sortk, q_sortv, q_sortvM, q_maxk, q_dict2, q_anil, q_acons, q_ival, q_items, q_vals, q_rng, q_zip, q_cntT, q_tab, q_tnin, q_zipT,     o_add, o_sub, o_mul, o_fdiv, o_mod, o_pow18, o_addT, ag_add, ag_sub, c_lt, c_gt, c_le, c_ge, c_eq, c_ne, c_is, c_isn, c_in, c_nin, u_tup, u_scr, n_scr, n_tup, n_str, n_abs, n_min2, n_max2, tg_nm, tg_2, tg_3, at_0, at_1, at_2, at_3, at_4, i_int, sat_some, getV_0, getV_s,     List.set_cons_zero, List.set_cons_succ, List.map_cons, List.map_nil, List.replicate_succ, List.replicate_zero, List.cons_append, List.nil_append, List.length_cons, List.length_nil]
        by_cases c3 : Txt.count (dat (vdN q.1 q.2.v)).shown "void" < 3
        · rw [decide_eq_true c3]
          simp only [q_nil, q_cons, k_nx, k_ret, k_brk, k_ct, q_asg, q_asgA, q_asgS, q_aug, q_ex, q_ret, q_retN, q_pass, q_brk, q_cont, q_ifs, q_for, q_whl, b_t, b_f, be_t, be_f, ba_t, ba_f, bo_t, bo_f, t_bl, t_int, t_non,     q_var, q_con, q_glb, q_tup, q_lst, q_dict0, q_bin, q_neg, q_not, q_and, q_or, q_ife, q_cmp, q_cmp2, q_attr, q_sub, q_srev, q_call, q_callk, q_meth, q_bm, q_new, q_bi, q_isi, q_lc, q_dc, q_sortk, q_sortv, q_sortvM, q_maxk, q_dict2, q_anil, q_acons, q_ival, q_items, q_vals, q_rng, q_zip, q_cntT, q_tab, q_tnin, q_zipT,     o_add, o_sub, o_mul, o_fdiv, o_mod, o_pow18, o_addT, ag_add, ag_sub, c_lt, c_gt, c_le, c_ge, c_eq, c_ne, c_is, c_isn, c_in, c_nin, u_tup, u_scr, n_scr, n_tup, n_str, n_abs, n_min2, n_max2, tg_nm, tg_2, tg_3, at_0, at_1, at_2, at_3, at_4, i_int, sat_some, getV_0, getV_s,     List.set_cons_zero, List.set_cons_succ, List.map_cons, List.map_nil, List.replicate_succ, List.replicate_zero, List.cons_append, List.nil_append, List.length_cons, List.length_nil]
          have h3 := cnt_vd (t := q.2) hqok.1 c3
          refine ⟨len_ok (by decide), ?_⟩
          exact put B (q.1 + 1, q.2) _ _ (pA2.trans pB) hfB ⟨by show q.1 + 1 ≤ 3; omega, hqok.2⟩
        · rw [decide_eq_false c3]
          simp only [q_nil, q_cons, k_nx, k_ret, k_brk, k_ct, q_asg, q_asgA, q_asgS, q_aug, q_ex, q_ret, q_retN, q_pass, q_brk, q_cont, q_ifs, q_for, q_whl, b_t, b_f, be_t, be_f, ba_t, ba_f, bo_t, bo_f, t_bl, t_int, t_non,     q_var, q_con, q_glb, q_tup, q_lst, q_dict0, q_bin, q_neg, q_not, q_and, q_or, q_ife, q_cmp, q_cmp2, q_attr, q_sub, q_srev, q_call, q_callk, q_meth, q_bm, q_new, q_bi, q_isi, q_lc, q_dc, q_sortk, q_sortv, q_sortvM, q_maxk, q_dict2, q_anil, q_acons, q_ival, q_items, q_vals, q_rng, q_zip, q_cntT, q_tab, q_tnin, q_zipT,     o_add, o_sub, o_mul, o_fdiv, o_mod, o_pow18, o_addT, ag_add, ag_sub, c_lt, c_gt, c_le, c_ge, c_eq, c_ne, c_is, c_isn, c_in, c_nin, u_tup, u_scr, n_scr, n_tup, n_str, n_abs, n_min2, n_max2, tg_nm, tg_2, tg_3, at_0, at_1, at_2, at_3, at_4, i_int, sat_some, getV_0, getV_s,     List.set_cons_zero, List.set_cons_succ, List.map_cons, List.map_nil, List.replicate_succ, List.replicate_zero, List.cons_append, List.nil_append, List.length_cons, List.length_nil]
          exact put B q _ _ (pA2.trans pB) hfB hqok
    · rw [decide_eq_false c1]
      simp only [q_nil, q_cons, k_nx, k_ret, k_brk, k_ct, q_asg, q_asgA, q_asgS, q_aug, q_ex, q_ret, q_retN, q_pass, q_brk, q_cont, q_ifs, q_for, q_whl, b_t, b_f, be_t, be_f, ba_t, ba_f, bo_t, bo_f, t_bl, t_int, t_non,     q_var, q_con, q_glb, q_tup, q_lst, q_dict0, q_bin, q_neg, q_not, q_and, q_or, q_ife, q_cmp, q_cmp2, q_attr, q_sub, q_srev, q_call, q_callk, q_meth, q_bm, q_new, q_bi, q_isi, q_lc, q_dc, q_sortk, q_sortv, q_sortvM, q_maxk, q_dict2, q_anil, q_acons, q_ival, q_items, q_vals, q_rng, q_zip, q_cntT, q_tab, q_tnin, q_zipT,     o_add, o_sub, o_mul, o_fdiv, o_mod, o_pow18, o_addT, ag_add, ag_sub, c_lt, c_gt, c_le, c_ge, c_eq, c_ne, c_is, c_isn, c_in, c_nin, u_tup, u_scr, n_scr, n_tup, n_str, n_abs, n_min2, n_max2, tg_nm, tg_2, tg_3, at_0, at_1, at_2, at_3, at_4, i_int, sat_some, getV_0, getV_s,     List.set_cons_zero, List.set_cons_succ, List.map_cons, List.map_nil, List.replicate_succ, List.replicate_zero, List.cons_append, List.nil_append, List.length_cons, List.length_nil]
      exact ⟨bmT_append hfA, plain A _ (pm.trans pA) hfA⟩
  · rintro pre σ M' ⟨j, its, x4, x5, x6, hj, hpost, rfl, pm, hok, hlen, hf⟩
    have hn2 : j = many := by
      by_cases z : j < many
      · rw [List.drop_eq_getElem_cons (by simpa using z)] at hpost; cases hpost
      · omega
    subst hn2
    exact ⟨rfl, its, x4, x5, x6, rfl, pm, hok, hlen, hf⟩
  · subst eq
    simp only [q_nil, q_cons, k_nx, k_ret, k_brk, k_ct, q_asg, q_asgA, q_asgS, q_aug, q_ex, q_ret, q_retN, q_pass, q_brk, q_cont, q_ifs, q_for, q_whl, b_t, b_f, be_t, be_f, ba_t, ba_f, bo_t, bo_f, t_bl, t_int, t_non,     q_var, q_con, q_glb, q_tup, q_lst, q_dict0, q_bin, q_neg, q_not, q_and, q_or, q_ife, q_cmp, q_cmp2, q_attr, q_sub, q_srev, q_call, q_callk, q_meth, q_bm, q_new, q_bi, q_isi, q_lc, q_dc, q_sortk, q_sortv, q_sortvM, q_maxk, q_dict2, q_anil, q_acons, q_ival, q_items, q_vals, q_rng, q_zip, q_cntT, q_tab, q_tnin, q_zipT,     o_add, o_sub, o_mul, o_fdiv, o_mod, o_pow18, o_addT, ag_add, ag_sub, c_lt, c_gt, c_le, c_ge, c_eq, c_ne, c_is, c_isn, c_in, c_nin, u_tup, u_scr, n_scr, n_tup, n_str, n_abs, n_min2, n_max2, tg_nm, tg_2, tg_3, at_0, at_1, at_2, at_3, at_4, i_int, sat_some, getV_0, getV_s,     List.set_cons_zero, List.set_cons_succ, List.map_cons, List.map_nil, List.replicate_succ, List.replicate_zero, List.cons_append, List.nil_append, List.length_cons, List.length_nil]
    exact ⟨p2, f, its, rfl, Nat.le_refl _, hok, hlen, hf⟩
end Bh
end
section
set_option Elab.async false
set_option linter.all false
set_option maxRecDepth 100000
set_option maxHeartbeats 0
namespace Bh
open PySem MP
def nmA (a : Str) : Bool := okS a && (nameOk a && decide (a ∈ LT.map ch))
def nmB (b : Str) : Bool := okS b && ((nameOk b || decide (b = ("-" : Str))) && decide (b ∈ LT.map ch))
theorem nmA_ok {a : Str} (h : nmA a = true) : okS a = true ∧ nameOk a = true ∧ decide (a ∈ LT.map ch) = true := by
  unfold nmA at h
  simpa only [Bool.and_eq_true] using h
theorem nmB_ok {b : Str} (h : nmB b = true) : okS b = true ∧ (nameOk b = true ∨ b = ("-" : Str)) ∧ decide (b ∈ LT.map ch) = true := by
  unfold nmB at h
  simp only [Bool.and_eq_true, Bool.or_eq_true] at h
  exact ⟨h.1, h.2.1.imp id of_decide_eq_true, h.2.2⟩
theorem gb_place {a b : Str} {x y : Int} (ha : nmA a = true) (hb : nmB b = true) (hx : okI x = true ∧ 1 ≤ x ∧ x ≤ 9) (hy : okI y = true ∧ 0 ≤ y ∧ y ≤ 9999) : GB ⟨"place", 0, [.str a, .str b, .int x, .int y]⟩ := by
  obtain ⟨a1, a2, a3⟩ := nmA_ok ha
  obtain ⟨b1, b2, b3⟩ := nmB_ok hb
  refine gb_of (ks := ["name", "below", "travel", "water"]) (by decide) (by decide) sig_place ?_ (by kernel_rfl) rfl ?_ ?_
  · simp only [sigM, a1, b1, hx.1, hy.1, Bool.and_self]
  · simp only [List.zip_cons_cons, List.zip_nil_right, List.all_cons, List.all_nil, part_name a2, part_below b2, part_travel hx.2, part_water hy.2, Bool.and_self]
  · simp only [txtB, List.all_cons, List.all_nil, a3, b3, Bool.and_self]
theorem gb_share {o : Str} {x : Int} (ho : nmA o = true) (hx : okI x = true ∧ 0 ≤ x ∧ x ≤ 999999) : GB ⟨"share", 0, [.str "b", .str o, .int x]⟩ := by
  obtain ⟨a1, a2, a3⟩ := nmA_ok ho
  refine gb_of (ks := ["name", "name", "much"]) (by decide) (by decide) sig_share ?_ (by kernel_rfl) rfl ?_ ?_
  · simp only [sigM, b_ok, a1, hx.1, Bool.and_self]
  · simp only [List.zip_cons_cons, List.zip_nil_right, List.all_cons, List.all_nil, part_name bn_ok, part_name a2, part_much hx.2, Bool.and_self]
  · simp only [txtB, List.all_cons, List.all_nil, bt_ok, a3, Bool.and_self]
theorem gb_dam {x y : Int} (hx : okI x = true ∧ 0 ≤ x ∧ x ≤ 999999) (hy : okI y = true ∧ 0 ≤ y ∧ y ≤ 1000) : GB ⟨"dam", 0, [.str "b", .int x, .int y]⟩ := by
  refine gb_of (ks := ["name", "much", "part"]) (by decide) (by decide) sig_dam ?_ (by kernel_rfl) rfl ?_ ?_
  · simp only [sigM, b_ok, hx.1, hy.1, Bool.and_self]
  · simp only [List.zip_cons_cons, List.zip_nil_right, List.all_cons, List.all_nil, part_name bn_ok, part_much hx.2, part_part hy.2, Bool.and_self]
  · simp only [txtB, List.all_cons, List.all_nil, bt_ok, Bool.and_self]
/-- the first four numbers of a list of drawn ones -/
theorem four {ws : List Wv} {P : Wv → Prop} (hl : ws.length = 4) (h : ∀ w ∈ ws, P w) : ∃ a b c d, ws = [a, b, c, d] ∧ P a ∧ P b ∧ P c ∧ P d := by
  match ws, hl with
  | [a, b, c, d], _ => exact ⟨a, b, c, d, rfl, h a (by simp), h b (by simp), h c (by simp), h d (by simp)⟩
def TrvW (w : Wv) : Prop := ∃ q : Int, w = .int q ∧ okI q = true ∧ 1 ≤ q ∧ q ≤ 9
def LosW (w : Wv) : Prop := ∃ q : Int, w = .int q ∧ okI q = true ∧ 0 ≤ q ∧ q ≤ 9999
/-- a comprehension over so many numbers, each value drawn -/
theorem lc_draw {G : Pg} {c e : Sw → Mem → Out Wv} {σ : Sw} {n : Nat} {M : Mem} {t : Nat} (P : Wv → Prop) (hn : n ≤ 1000) (hc : ∀ τ N, c τ N = .ok (.bl true) N) (he : ∀ (j : Nat) N, j < n → M <+: N → (e (σ.set t (some (.int (j : Int)))) N).sat fun w N2 => N <+: N2 ∧ P w) :
    (lcGo G (.nm t) c e [] ((List.range n).map fun k : Nat => Wv.int (0 + (k : Int))) σ [] M).sat fun ws M' => M <+: M' ∧ ws.length = n ∧ ∀ w ∈ ws, P w := by
  have hz : 1001 ≤ sizeLine := by decide
  refine lc_rule (fun pre post acc M' => ∃ j : Nat, j ≤ n ∧ post = ((List.range n).drop j).map (fun k : Nat => Wv.int (0 + (k : Int))) ∧ M <+: M' ∧ acc.length = j ∧ ∀ w ∈ acc, P w) ?_ ?_ _ [] [] M ⟨0, by omega, rfl, List.prefix_refl _, rfl, fun w hw => by cases hw⟩
  · rintro pre x post acc M' ⟨j, hj, hpost, pm, hlen, hP⟩
    have hj2 : j < n := by
      by_cases z : j < n
      · exact z
      · rw [List.drop_eq_nil_of_le (by simp; omega)] at hpost; cases hpost
    rw [List.drop_eq_getElem_cons (by simpa using hj2)] at hpost
    simp only [List.getElem_range, List.map_cons, List.cons.injEq] at hpost
    obtain ⟨rfl, rfl⟩ := hpost
    have e0 : (0 : Int) + (j : Int) = (j : Int) := by omega
    rw [e0]
    refine ⟨rfl, _, rfl, ?_⟩
    rw [hc]
    refine ⟨true, rfl, fun _ => ?_, fun z => by cases z⟩
    refine sat_mono (he j M' hj2 pm) fun w N2 ⟨q, hw⟩ => ⟨len_ok (by omega), j + 1, hj2, rfl, pm.trans q, by simp [hlen], fun x hx => ?_⟩
    rcases List.mem_append.mp hx with hx | hx
    · exact hP x hx
    · rw [List.mem_singleton.mp hx]; exact hw
  · rintro pre acc M' ⟨j, hj, hpost, pm, hlen, hP⟩
    have hn2 : j = n := by
      by_cases z : j < n
      · rw [List.drop_eq_getElem_cons (by simpa using z)] at hpost; cases hpost
      · omega
    exact ⟨rfl, pm, by omega, hP⟩
def GoodV (w : Wv) : Prop := ∃ t, w = t.v ∧ GB t
def GoodL (m : Nat) (N : Mem) (x : Wv) (n : Nat) : Prop := ∃ y ws, x = .ref y ∧ m ≤ y ∧ N[y]? = some (.lst ws) ∧ ws.length = n ∧ ∀ w ∈ ws, GoodV w
theorem GoodL.mono {m : Nat} {N N2 : Mem} {x : Wv} {n : Nat} (h : GoodL m N x n) (p : N <+: N2) : GoodL m N2 x n := by
  obtain ⟨y, ws, h1, h2, h3, h4⟩ := h
  exact ⟨y, ws, h1, h2, pre_get p h3, h4⟩
theorem add_good {m : Nat} {N : Mem} {x w : Wv} {n : Nat} {Q : Wv → Mem → Prop} (h : GoodL m N x n) (hm : m ≤ N.length) (hn : n ≤ 100) (hw : GoodV w) (q : ∀ x' N', N <+: N' → GoodL m N' x' (n + 1) → Q x' N') : (binW .add x (.ref N.length) (N ++ [.lst [w]])).sat Q := by
  have hz : 1001 ≤ sizeLine := by decide
  obtain ⟨y, ws, rfl, h2, h3, h4, h5⟩ := h
  refine o_addL y N.length ws [w] (pre_get (List.prefix_append _ _) h3) (at_new ..) (len_ok (by simp; omega)) ?_
  refine q _ _ (pre_snoc (List.prefix_append _ _) _) ⟨_, _, rfl, by simp; omega, at_new .., by simp [h4], fun v hv => ?_⟩
  rcases List.mem_append.mp hv with hv | hv
  · exact h5 v hv
  · rw [List.mem_singleton.mp hv]; exact hw
theorem law_base_ok (S : List Int) (hl : S.length ≤ 63) (k : Nat) (i : Int) (hi : 0 ≤ i) (M : Mem) :
    (callN (Gp S) fuel (k + 4) ix__law_base [.scr, .int i] M).sat fun v M' => M <+: M' ∧ ∃ y ws, v = .ref y ∧ M.length ≤ y ∧ ws.length = 10 ∧ (∀ w ∈ ws, GoodV w) ∧ M'[y]? = some (.lst ws) := by
  have hz : 1001 ≤ sizeLine := by decide
  have o1 : okS "a" = true := by decide +kernel
  have o3 : okS "c" = true := by decide +kernel
  have o4 : okS "d" = true := by decide +kernel
  have o5 : okS "-" = true := by decide +kernel
  have o6 : okS "o" = true := by decide +kernel
  have o7 : okS "w" = true := by decide +kernel
  rw [at__law_base]
  refine run_sat rfl ?_
  show (evSl (Gp S) _ _ fuel sl__law_base [some .scr, some (.int i), none, none, none, none] M).sat _
  unfold sl__law_base
  have hlk : ∀ N : Mem, lockM [] N = N := fun _ => rfl
  have hul : ∀ N : Mem, unlkM [] N = N := fun _ => rfl
  simp only [q_nil, q_cons, k_nx, k_ret, k_brk, k_ct, q_asg, q_asgA, q_asgS, q_aug, q_ex, q_ret, q_retN, q_pass, q_brk, q_cont, q_ifs, q_for, q_whl, b_t, b_f, be_t, be_f, ba_t, ba_f, bo_t, bo_f, t_bl, t_int, t_non,     q_var, q_con, q_glb, q_tup, q_lst, q_dict0, q_bin, q_neg, q_not, q_and, q_or, q_ife, q_cmp, q_cmp2, q_attr, q_sub, q_srev, q_call, q_callk, q_meth, q_bm, q_new, q_bi, q_isi, q_lc, q_dc, q_sortk, q_sortv, q_sortvM, q_maxk, q_dict2, q_anil, q_acons, q_ival, q_items, q_vals, q_rng, q_zip, q_cntT, q_tab, q_tnin, q_zipT,     o_add, o_sub, o_mul, o_fdiv, o_mod, o_pow18, o_addT, ag_add, ag_sub, c_lt, c_gt, c_le, c_ge, c_eq, c_ne, c_is, c_isn, c_in, c_nin, u_tup, u_scr, n_scr, n_tup, n_str, n_abs, n_min2, n_max2, tg_nm, tg_2, tg_3, at_0, at_1, at_2, at_3, at_4, i_int, sat_some, getV_0, getV_s,     List.set_cons_zero, List.set_cons_succ, List.map_cons, List.map_nil, List.replicate_succ, List.replicate_zero, List.cons_append, List.nil_append, List.length_cons, List.length_nil]
  refine ⟨by decide, ?_⟩
  rw [rng_eq 0 4 4 (by omega)]
  simp only [hlk, hul]
  refine sat_mono (lc_draw TrvW (by omega) (fun τ N => by simp only [evE]) (fun j N hj pN => ?_)) fun ws M1 ⟨p1, hl1, hw1⟩ => ?_
  · show (evE (Gp S) _ _ _ [some .scr, some (.int i), none, none, none, some (.int (j : Int))] N).sat _
    simp only [q_nil, q_cons, k_nx, k_ret, k_brk, k_ct, q_asg, q_asgA, q_asgS, q_aug, q_ex, q_ret, q_retN, q_pass, q_brk, q_cont, q_ifs, q_for, q_whl, b_t, b_f, be_t, be_f, ba_t, ba_f, bo_t, bo_f, t_bl, t_int, t_non,     q_var, q_con, q_glb, q_tup, q_lst, q_dict0, q_bin, q_neg, q_not, q_and, q_or, q_ife, q_cmp, q_cmp2, q_attr, q_sub, q_srev, q_call, q_callk, q_meth, q_bm, q_new, q_bi, q_isi, q_lc, q_dc, q_sortk, q_sortv, q_sortvM, q_maxk, q_dict2, q_anil, q_acons, q_ival, q_items, q_vals, q_rng, q_zip, q_cntT, q_tab, q_tnin, q_zipT,     o_add, o_sub, o_mul, o_fdiv, o_mod, o_pow18, o_addT, ag_add, ag_sub, c_lt, c_gt, c_le, c_ge, c_eq, c_ne, c_is, c_isn, c_in, c_nin, u_tup, u_scr, n_scr, n_tup, n_str, n_abs, n_min2, n_max2, tg_nm, tg_2, tg_3, at_0, at_1, at_2, at_3, at_4, i_int, sat_some, getV_0, getV_s,     List.set_cons_zero, List.set_cons_succ, List.map_cons, List.map_nil, List.replicate_succ, List.replicate_zero, List.cons_append, List.nil_append, List.length_cons, List.length_nil]
    refine sat_mono (drawn_ok S hl (k + 2) (i + (j : Int)) 3 (by omega) (by omega) N) fun v N2 ⟨p, r, hv, h0, h1⟩ => ?_
    subst hv
    try simp only [q_nil, q_cons, k_nx, k_ret, k_brk, k_ct, q_asg, q_asgA, q_asgS, q_aug, q_ex, q_ret, q_retN, q_pass, q_brk, q_cont, q_ifs, q_for, q_whl, b_t, b_f, be_t, be_f, ba_t, ba_f, bo_t, bo_f, t_bl, t_int, t_non,     q_var, q_con, q_glb, q_tup, q_lst, q_dict0, q_bin, q_neg, q_not, q_and, q_or, q_ife, q_cmp, q_cmp2, q_attr, q_sub, q_srev, q_call, q_callk, q_meth, q_bm, q_new, q_bi, q_isi, q_lc, q_dc, q_sortk, q_sortv, q_sortvM, q_maxk, q_dict2, q_anil, q_acons, q_ival, q_items, q_vals, q_rng, q_zip, q_cntT, q_tab, q_tnin, q_zipT,     o_add, o_sub, o_mul, o_fdiv, o_mod, o_pow18, o_addT, ag_add, ag_sub, c_lt, c_gt, c_le, c_ge, c_eq, c_ne, c_is, c_isn, c_in, c_nin, u_tup, u_scr, n_scr, n_tup, n_str, n_abs, n_min2, n_max2, tg_nm, tg_2, tg_3, at_0, at_1, at_2, at_3, at_4, i_int, sat_some, getV_0, getV_s,     List.set_cons_zero, List.set_cons_succ, List.map_cons, List.map_nil, List.replicate_succ, List.replicate_zero, List.cons_append, List.nil_append, List.length_cons, List.length_nil]
    exact ⟨p, _, rfl, okI_of (by omega) (by omega), by omega, by omega⟩
  obtain ⟨t0, t1, t2, t3, rfl, ⟨q0, rfl, g0⟩, ⟨q1, rfl, g1⟩, ⟨q2, rfl, g2⟩, ⟨q3, rfl, g3⟩⟩ := four hl1 hw1
  try simp only [q_nil, q_cons, k_nx, k_ret, k_brk, k_ct, q_asg, q_asgA, q_asgS, q_aug, q_ex, q_ret, q_retN, q_pass, q_brk, q_cont, q_ifs, q_for, q_whl, b_t, b_f, be_t, be_f, ba_t, ba_f, bo_t, bo_f, t_bl, t_int, t_non,     q_var, q_con, q_glb, q_tup, q_lst, q_dict0, q_bin, q_neg, q_not, q_and, q_or, q_ife, q_cmp, q_cmp2, q_attr, q_sub, q_srev, q_call, q_callk, q_meth, q_bm, q_new, q_bi, q_isi, q_lc, q_dc, q_sortk, q_sortv, q_sortvM, q_maxk, q_dict2, q_anil, q_acons, q_ival, q_items, q_vals, q_rng, q_zip, q_cntT, q_tab, q_tnin, q_zipT,     o_add, o_sub, o_mul, o_fdiv, o_mod, o_pow18, o_addT, ag_add, ag_sub, c_lt, c_gt, c_le, c_ge, c_eq, c_ne, c_is, c_isn, c_in, c_nin, u_tup, u_scr, n_scr, n_tup, n_str, n_abs, n_min2, n_max2, tg_nm, tg_2, tg_3, at_0, at_1, at_2, at_3, at_4, i_int, sat_some, getV_0, getV_s,     List.set_cons_zero, List.set_cons_succ, List.map_cons, List.map_nil, List.replicate_succ, List.replicate_zero, List.cons_append, List.nil_append, List.length_cons, List.length_nil]
  refine ⟨by decide, ?_⟩
  generalize hM2 : M1 ++ [Ob.lst [Wv.int q0, .int q1, .int q2, .int q3]] = M2
  have p2 : M1 <+: M2 := by rw [← hM2]; exact List.prefix_append _ _
  have ht2 : M2[M1.length]? = some (.lst [Wv.int q0, .int q1, .int q2, .int q3]) := by rw [← hM2]; exact at_new ..
  generalize M1.length = tr at *
  refine sat_mono (lc_draw LosW (by omega) (fun τ N => by simp only [evE]) (fun j N hj pN => ?_)) fun ws M3 ⟨p3, hl3, hw3⟩ => ?_
  · show (evE (Gp S) _ _ _ [some .scr, some (.int i), some (.ref tr), none, none, some (.int (j : Int))] N).sat _
    simp only [q_nil, q_cons, k_nx, k_ret, k_brk, k_ct, q_asg, q_asgA, q_asgS, q_aug, q_ex, q_ret, q_retN, q_pass, q_brk, q_cont, q_ifs, q_for, q_whl, b_t, b_f, be_t, be_f, ba_t, ba_f, bo_t, bo_f, t_bl, t_int, t_non,     q_var, q_con, q_glb, q_tup, q_lst, q_dict0, q_bin, q_neg, q_not, q_and, q_or, q_ife, q_cmp, q_cmp2, q_attr, q_sub, q_srev, q_call, q_callk, q_meth, q_bm, q_new, q_bi, q_isi, q_lc, q_dc, q_sortk, q_sortv, q_sortvM, q_maxk, q_dict2, q_anil, q_acons, q_ival, q_items, q_vals, q_rng, q_zip, q_cntT, q_tab, q_tnin, q_zipT,     o_add, o_sub, o_mul, o_fdiv, o_mod, o_pow18, o_addT, ag_add, ag_sub, c_lt, c_gt, c_le, c_ge, c_eq, c_ne, c_is, c_isn, c_in, c_nin, u_tup, u_scr, n_scr, n_tup, n_str, n_abs, n_min2, n_max2, tg_nm, tg_2, tg_3, at_0, at_1, at_2, at_3, at_4, i_int, sat_some, getV_0, getV_s,     List.set_cons_zero, List.set_cons_succ, List.map_cons, List.map_nil, List.replicate_succ, List.replicate_zero, List.cons_append, List.nil_append, List.length_cons, List.length_nil]
    refine ⟨len_ok (by decide), ?_⟩
    refine sat_mono (drawn_ok S hl (k + 2) (i + 4 + (j : Int)) 4 (by omega) (by omega) _) fun v N2 ⟨p, r, hv, h0, h1⟩ => ?_
    subst hv
    obtain ⟨y4, hy4, e4⟩ := at_mem (xs := [Wv.int 0, .int 0, .int 2, .int 5]) h0 h1
    refine sat_of (sub_lst (pre_get p (at_new ..)) e4) ⟨(List.prefix_append _ _).trans p, ?_⟩
    simp only [List.mem_cons, List.not_mem_nil, or_false] at hy4
    rcases hy4 with rfl | rfl | rfl | rfl <;> exact ⟨_, rfl, by decide⟩
  obtain ⟨t0, t1, t2, t3, rfl, ⟨u0, rfl, k0⟩, ⟨u1, rfl, k1⟩, ⟨u2, rfl, k2⟩, ⟨u3, rfl, k3⟩⟩ := four hl3 hw3
  generalize hM4 : M3 ++ [Ob.lst [Wv.int u0, .int u1, .int u2, .int u3]] = M4
  have p4 : M3 <+: M4 := by rw [← hM4]; exact List.prefix_append _ _
  have hs4 : M4[M3.length]? = some (.lst [Wv.int u0, .int u1, .int u2, .int u3]) := by rw [← hM4]; exact at_new ..
  generalize M3.length = ls at *
  have ht4 := pre_get (p3.trans p4) ht2
  have pM4 : M <+: M4 := p1.trans (p2.trans (p3.trans p4))
  clear hM4 hM2 p4 p3 p2 p1
  try simp only [q_nil, q_cons, k_nx, k_ret, k_brk, k_ct, q_asg, q_asgA, q_asgS, q_aug, q_ex, q_ret, q_retN, q_pass, q_brk, q_cont, q_ifs, q_for, q_whl, b_t, b_f, be_t, be_f, ba_t, ba_f, bo_t, bo_f, t_bl, t_int, t_non,     q_var, q_con, q_glb, q_tup, q_lst, q_dict0, q_bin, q_neg, q_not, q_and, q_or, q_ife, q_cmp, q_cmp2, q_attr, q_sub, q_srev, q_call, q_callk, q_meth, q_bm, q_new, q_bi, q_isi, q_lc, q_dc, q_sortk, q_sortv, q_sortvM, q_maxk, q_dict2, q_anil, q_acons, q_ival, q_items, q_vals, q_rng, q_zip, q_cntT, q_tab, q_tnin, q_zipT,     o_add, o_sub, o_mul, o_fdiv, o_mod, o_pow18, o_addT, ag_add, ag_sub, c_lt, c_gt, c_le, c_ge, c_eq, c_ne, c_is, c_isn, c_in, c_nin, u_tup, u_scr, n_scr, n_tup, n_str, n_abs, n_min2, n_max2, tg_nm, tg_2, tg_3, at_0, at_1, at_2, at_3, at_4, i_int, sat_some, getV_0, getV_s,     List.set_cons_zero, List.set_cons_succ, List.map_cons, List.map_nil, List.replicate_succ, List.replicate_zero, List.cons_append, List.nil_append, List.length_cons, List.length_nil]
  refine sat_of (sub_lst ht4 rfl) (sat_of (sub_lst hs4 rfl) ⟨len_ok (by decide), len_ok (by decide), ?_⟩)
  have pA : M4 <+: M4 ++ [Ob.lst [Wv.tup [.str "place", .int 0, .str "a", .str "b", .int q0, .int u0]]] := List.prefix_append _ _
  refine sat_of (sub_lst (pre_get pA ht4) rfl) (sat_of (sub_lst (pre_get pA hs4) rfl) ⟨len_ok (by decide), len_ok (by decide), ?_⟩)
  have hml : M.length ≤ M4.length := pre_len pM4
  have G1 : GoodL M.length (M4 ++ [Ob.lst [Wv.tup [.str "place", .int 0, .str "a", .str "b", .int q0, .int u0]]]) (.ref M4.length) 1 :=
    ⟨_, _, rfl, hml, at_new .., rfl, fun w hw => by rw [List.mem_singleton.mp hw]; exact ⟨_, rfl, gb_place (by decide +kernel) (by decide +kernel) g0 k0⟩⟩
  generalize (M4 ++ [Ob.lst [Wv.tup [.str "place", .int 0, .str "a", .str "b", .int q0, .int u0]]]) = N1 at *
  generalize (Wv.ref M4.length) = f1 at *
  have l1 : M.length ≤ N1.length := Nat.le_trans hml (pre_len pA)
  have t1 := pre_get pA ht4
  have s1 := pre_get pA hs4
  refine add_good G1 l1 (by omega) ⟨_, rfl, gb_place (by decide +kernel) (by decide +kernel) g1 k1⟩ fun f2 N2 pB G2 => ?_
  have l2 : M.length ≤ N2.length := Nat.le_trans l1 (pre_len pB)
  have t2 := pre_get pB t1
  have s2 := pre_get pB s1
  refine sat_of (sub_lst t2 rfl) (sat_of (sub_lst s2 rfl) ⟨len_ok (by decide), len_ok (by decide), ?_⟩)
  refine add_good G2 l2 (by omega) ⟨_, rfl, gb_place (by decide +kernel) (by decide +kernel) g2 k2⟩ fun f3 N3 pC G3 => ?_
  have l3 : M.length ≤ N3.length := Nat.le_trans l2 (pre_len pC)
  have t3 := pre_get pC t2
  have s3 := pre_get pC s2
  refine sat_of (sub_lst t3 rfl) (sat_of (sub_lst s3 rfl) ⟨len_ok (by decide), len_ok (by decide), ?_⟩)
  refine add_good G3 l3 (by omega) ⟨_, rfl, gb_place (by decide +kernel) (by decide +kernel) g3 k3⟩ fun f4 N4 pD G4 => ?_
  have l4 : M.length ≤ N4.length := Nat.le_trans l3 (pre_len pD)
  refine ⟨len_ok (by decide), ?_⟩
  refine sat_mono (drawn_ok S hl (k + 2) (i + 8) 3 (by omega) (by omega) _) fun v N5 ⟨pE, r, hv, h0, h1⟩ => ?_
  subst hv
  obtain ⟨y5, hy5, e5⟩ := at_mem (xs := [Wv.int 0, .int 20, .int 100]) h0 h1
  refine sat_of (sub_lst (pre_get pE (at_new ..)) e5) ⟨len_ok (by decide), len_ok (by decide), ?_⟩
  have pE2 : N4 <+: N5 := (List.prefix_append _ _).trans pE
  have l5 : M.length ≤ N5.length := Nat.le_trans l4 (pre_len pE2)
  obtain ⟨z5, rfl, hz5, hz6⟩ : ∃ q : Int, y5 = .int q ∧ okI q = true ∧ 0 ≤ q ∧ q ≤ 1000 := by
    simp only [List.mem_cons, List.not_mem_nil, or_false] at hy5
    rcases hy5 with rfl | rfl | rfl <;> exact ⟨_, rfl, by decide, by decide⟩
  refine add_good (G4.mono pE2) l5 (by omega) ⟨_, rfl, gb_dam (x := 100) (by decide) ⟨hz5, hz6⟩⟩ fun f5 N6 pF G5 => ?_
  have l6 : M.length ≤ N6.length := Nat.le_trans l5 (pre_len pF)
  refine ⟨len_ok (by decide), len_ok (by decide), ?_⟩
  refine add_good G5 l6 (by omega) ⟨_, rfl, gb_share (x := 60) (by decide +kernel) (by decide)⟩ fun f6 N7 pG G6 => ?_
  have l7 : M.length ≤ N7.length := Nat.le_trans l6 (pre_len pG)
  refine ⟨len_ok (by decide), ?_⟩
  refine sat_mono (drawn_ok S hl (k + 2) (i + 9) 2 (by omega) (by omega) _) fun v N8 ⟨pH, r, hv, h0, h1⟩ => ?_
  subst hv
  obtain ⟨y6, hy6, e6⟩ := at_mem (xs := [Wv.int 10, .int 50]) h0 h1
  refine sat_of (sub_lst (pre_get pH (at_new ..)) e6) ⟨len_ok (by decide), len_ok (by decide), ?_⟩
  have pH2 : N7 <+: N8 := (List.prefix_append _ _).trans pH
  have l8 : M.length ≤ N8.length := Nat.le_trans l7 (pre_len pH2)
  obtain ⟨z6, rfl, hz6⟩ : ∃ q : Int, y6 = .int q ∧ okI q = true ∧ 0 ≤ q ∧ q ≤ 999999 := by
    simp only [List.mem_cons, List.not_mem_nil, or_false] at hy6
    rcases hy6 with rfl | rfl <;> exact ⟨_, rfl, by decide⟩
  refine add_good (G6.mono pH2) l8 (by omega) ⟨_, rfl, gb_share (by decide +kernel) hz6⟩ fun f7 N9 pI G7 => ?_
  have l9 : M.length ≤ N9.length := Nat.le_trans l8 (pre_len pI)
  have pM9 : M <+: N9 := pM4.trans (pA.trans (pB.trans (pC.trans (pD.trans (pE2.trans (pF.trans (pG.trans (pH2.trans pI))))))))
  clear pA pB pC pD pE pE2 pF pG pH pH2 pI pM4
  refine ⟨by decide, ?_⟩
  rw [rng_eq 0 3 3 (by omega)]
  refine sat_mono (lc_draw GoodV (by omega) (fun τ N => by simp only [evE]) (fun j N hj pN => ?_)) fun ws N10 ⟨pJ, hl10, hw10⟩ => ?_
  · show (evE (Gp S) _ _ _ [some .scr, some (.int i), some (.ref tr), some (.ref ls), some f7, some (.int (j : Int))] N).sat _
    simp only [q_nil, q_cons, k_nx, k_ret, k_brk, k_ct, q_asg, q_asgA, q_asgS, q_aug, q_ex, q_ret, q_retN, q_pass, q_brk, q_cont, q_ifs, q_for, q_whl, b_t, b_f, be_t, be_f, ba_t, ba_f, bo_t, bo_f, t_bl, t_int, t_non,     q_var, q_con, q_glb, q_tup, q_lst, q_dict0, q_bin, q_neg, q_not, q_and, q_or, q_ife, q_cmp, q_cmp2, q_attr, q_sub, q_srev, q_call, q_callk, q_meth, q_bm, q_new, q_bi, q_isi, q_lc, q_dc, q_sortk, q_sortv, q_sortvM, q_maxk, q_dict2, q_anil, q_acons, q_ival, q_items, q_vals, q_rng, q_zip, q_cntT, q_tab, q_tnin, q_zipT,     o_add, o_sub, o_mul, o_fdiv, o_mod, o_pow18, o_addT, ag_add, ag_sub, c_lt, c_gt, c_le, c_ge, c_eq, c_ne, c_is, c_isn, c_in, c_nin, u_tup, u_scr, n_scr, n_tup, n_str, n_abs, n_min2, n_max2, tg_nm, tg_2, tg_3, at_0, at_1, at_2, at_3, at_4, i_int, sat_some, getV_0, getV_s,     List.set_cons_zero, List.set_cons_succ, List.map_cons, List.map_nil, List.replicate_succ, List.replicate_zero, List.cons_append, List.nil_append, List.length_cons, List.length_nil]
    refine ⟨mul_l (by decide), ?_⟩
    exact law_right_ok S hl k (i + 10 + 10 * (j : Int)) 0 (by omega) (by decide) (by decide) N
  obtain ⟨y, us, rfl, hy0, hy, hyl, hyg⟩ := G7.mono pJ
  have l10 := pre_len pJ
  refine o_addL y N10.length us ws (pre_get (List.prefix_append _ _) hy) (at_new ..) (len_ok (by omega)) ?_
  refine ⟨pre_snoc (pre_snoc (pM9.trans pJ) _) _, _, _, rfl, by simp; omega, by simp; omega, fun w hw => ?_, at_new ..⟩
  rcases List.mem_append.mp hw with hw | hw
  · exact hyg w hw
  · exact hw10 w hw
theorem law_all_ok (S : List Int) (hl : S.length ≤ 63) (k : Nat) (i : Int) (many : Nat) (hi : 0 ≤ i) (hi2 : i ≤ 1000) (hm : many ≤ 100) (M : Mem) :
    (callN (Gp S) fuel (k + 5) ix__law_all_truths [.scr, .int i, .int (many : Int)] M).sat fun v M' => M <+: M' ∧ ∃ y its, v = .ref y ∧ M.length ≤ y ∧ ViOk its ∧ its.length = many + 10 ∧ (∃ i ∈ its, i.1 = 0) ∧ M'[y]? = some (.lst (its.map Vi.w)) := by
  have hz : 1001 ≤ sizeLine := by decide
  rw [at__law_all_truths]
  refine run_sat rfl ?_
  show (evSl (Gp S) _ _ fuel sl__law_all_truths [some .scr, some (.int i), some (.int (many : Int))] M).sat _
  unfold sl__law_all_truths
  simp only [q_nil, q_cons, k_nx, k_ret, k_brk, k_ct, q_asg, q_asgA, q_asgS, q_aug, q_ex, q_ret, q_retN, q_pass, q_brk, q_cont, q_ifs, q_for, q_whl, b_t, b_f, be_t, be_f, ba_t, ba_f, bo_t, bo_f, t_bl, t_int, t_non,     q_var, q_con, q_glb, q_tup, q_lst, q_dict0, q_bin, q_neg, q_not, q_and, q_or, q_ife, q_cmp, q_cmp2, q_attr, q_sub, q_srev, q_call, q_callk, q_meth, q_bm, q_new, q_bi, q_isi, q_lc, q_dc, q_sortk, q_sortv, q_sortvM, q_maxk, q_dict2, q_anil, q_acons, q_ival, q_items, q_vals, q_rng, q_zip, q_cntT, q_tab, q_tnin, q_zipT,     o_add, o_sub, o_mul, o_fdiv, o_mod, o_pow18, o_addT, ag_add, ag_sub, c_lt, c_gt, c_le, c_ge, c_eq, c_ne, c_is, c_isn, c_in, c_nin, u_tup, u_scr, n_scr, n_tup, n_str, n_abs, n_min2, n_max2, tg_nm, tg_2, tg_3, at_0, at_1, at_2, at_3, at_4, i_int, sat_some, getV_0, getV_s,     List.set_cons_zero, List.set_cons_succ, List.map_cons, List.map_nil, List.replicate_succ, List.replicate_zero, List.cons_append, List.nil_append, List.length_cons, List.length_nil]
  refine sat_mono (law_base_ok S hl k i hi M) fun v A ⟨pA, y, ws, hv, hy0, hwl, hwg, hy⟩ => ?_
  subst hv
  refine sat_mono (law_truths_ok S hl k (i + 60) many (by omega) (by omega) hm A) fun v B ⟨pB, y2, its, hv, hy2, hok, hlen, hb⟩ => ?_
  subst hv
  have hv : ∃ us : List Bt, ws = us.map Bt.v ∧ ∀ u ∈ us, GB u := by
    clear hy hwl
    induction ws with
    | nil => exact ⟨[], rfl, fun u hu => by cases hu⟩
    | cons w ws ih =>
      obtain ⟨us, rfl, h⟩ := ih fun w hw => hwg w (List.mem_cons_of_mem _ hw)
      obtain ⟨t, rfl, ht⟩ := hwg w (List.mem_cons_self ..)
      refine ⟨t :: us, rfl, fun u hu => ?_⟩
      rcases List.mem_cons.mp hu with hu | hu
      · rw [hu]; exact ht
      · exact h u hu
  obtain ⟨us, rfl, hus⟩ := hv
  rw [List.length_map] at hwl
  refine o_addL y y2 _ _ (pre_get pB hy) hb (len_ok (by simp; omega)) ?_
  have pl := pre_len (pA.trans pB)
  refine ⟨pre_snoc (pA.trans pB) _, _, us.map (fun u => ((0, u) : Vi)) ++ its, rfl, pl, fun x hx => ?_, by simp; omega, ?_, ?_⟩
  · rcases List.mem_append.mp hx with hx | hx
    · obtain ⟨u, hu, rfl⟩ := List.mem_map.mp hx
      exact ⟨Nat.zero_le _, hus u hu⟩
    · exact hok x hx
  · cases us with
    | nil => simp at hwl
    | cons u us => exact ⟨(0, u), by simp, rfl⟩
  · rw [at_new, List.map_append, List.map_map]
    rfl
end Bh
end
section
set_option Elab.async false
set_option linter.all false
set_option maxRecDepth 100000
set_option maxHeartbeats 0
namespace Bh
open PySem MP
/-! ### the text of a drawn truth -/
theorem cl_w : ∀ p ∈ sigT, cleanB (PyData.str p.1).shown.cps.toList = true := by decide +kernel
theorem cl_c : ∀ s ∈ LT.map ch, cleanB (PyData.str s).shown.cps.toList = true := by decide +kernel
theorem cl_word {w : Str} {s : List Bool} (h : (w, s) ∈ sigT) : Clean (PyData.str w).shown.cps.toList := clean_of (cl_w (w, s) h)
theorem cl_name {s : Str} (h : s ∈ LT.map ch) : Clean (PyData.str s).shown.cps.toList := clean_of (cl_c s h)
theorem cl_parts : ∀ (l : List Wv), txtB l = true → ∀ x ∈ dats l, Clean x.shown.cps.toList := by
  intro l
  induction l with
  | nil => intro _ x hx; simp [dats] at hx
  | cons w l ih =>
    intro hl x hx
    unfold txtB at hl
    rw [List.all_cons, Bool.and_eq_true] at hl
    simp only [dats, List.mem_cons] at hx
    rcases hx with hx | hx
    · subst hx
      cases w with
      | str z =>
        have h1 : decide (z ∈ LT.map ch) = true := hl.1
        rw [decide_eq_true_eq] at h1
        simp only [dat]
        exact cl_name h1
      | int i => simp only [dat]; exact clean_int i
      | _ => exact absurd hl.1 (by simp)
    · exact ih hl.2 x hx
theorem clean_bt {t : Bt} (h : GB t) : Clean (dat t.v).shown.cps.toList := by
  have e : dat t.v = .tuple (.str t.w :: .int t.d :: dats t.xs) := by simp only [Bt.v, dat, dats]
  rw [e]
  obtain ⟨⟨_, s, hs, _⟩, _, ht⟩ := h
  refine clean_tuple fun x hx => ?_
  rcases List.mem_cons.mp hx with hx | hx
  · subst hx; exact cl_word hs
  · rcases List.mem_cons.mp hx with hx | hx
    · subst hx; exact clean_int _
    · exact cl_parts t.xs ht x hx
theorem dat_vd (v : Wv) : ∀ n, dat (vdN n v) = vdD n (dat v)
  | 0 => rfl
  | n + 1 => by
    show dat (.tup [.str "void", vdN n v]) = .tuple [.str "void", vdD n (dat v)]
    simp only [dat, dats, dat_vd v n]
theorem cnt_exact {t : Bt} (h : GB t) (n : Nat) : Txt.count (dat (vdN n t.v)).shown "void" = (n : Int) := by
  rw [dat_vd]
  exact count_vd (clean_bt h) n
/-! plain values are fit -/
theorem okT_pur {S : List Int} {M : Mem} {n : Nat} {v : Wv} (hn : n ≤ 12) (hp : pur n v = true) (hl : ∀ ws, v = .tup ws → ws.length ≤ 50 ∧ ∀ w ∈ ws, OddW M w) (hs : ∀ s, v = .str s → s.length ≤ 100) : OkT S M v := by
  refine ⟨?_, fun ws e => ⟨(hl ws e).1, ?_, (hl ws e).2⟩⟩
  · cases v with
    | str s => exact ⟨hs s rfl, by simpa [pur] using hp⟩
    | ref l => simp [pur] at hp
    | scr => simp [pur] at hp
    | _ => trivial
  · subst e
    unfold EqE
    rw [eqW_pur hp (show pur 1 (.tup []) = true by rfl) hn (by omega)]
    congr 1
    rw [Bool.eq_iff_iff]
    simp
end Bh
end
section
set_option Elab.async false
set_option linter.all false
set_option maxRecDepth 100000
set_option maxHeartbeats 0
namespace Bh
open PySem MP
/-! ### what is fit to be asked -/
structure Fit (S : List Int) (M : Mem) (w : Wv) : Prop where
  o : OddW M w
  d : ∃ d, toD (Gp S).S M 11 w = some d ∧ d.canLay0 = true ∧ d.depth ≤ 50
def fitW (w : Wv) : Bool := pur 11 w && match w with
  | .str s => decide (s.length ≤ 100)
  | _ => true
theorem fit_of (S : List Int) (M : Mem) {w : Wv} (h : fitW w = true) : Fit S M w := by
  unfold fitW at h
  rw [Bool.and_eq_true] at h
  obtain ⟨hp, h2⟩ := h
  refine ⟨?_, dat w, toD_pur hp (by omega), dat_lay hp, Nat.le_trans (dat_depth hp) (by omega)⟩
  cases w with
  | str s => exact ⟨of_decide_eq_true h2, by simpa [pur] using hp⟩
  | ref l => simp [pur] at hp
  | scr => simp [pur] at hp
  | _ => trivial
theorem fit_true (S : List Int) (M : Mem) : Fit S M (.bl true) := ⟨trivial, .bool true, by simp only [toD], rfl, by decide⟩
theorem fit_ref (S : List Int) {M : Mem} {l : Nat} (h : M[l]? = some (.lst [.str "a"])) : Fit S M (.ref l) := by
  refine ⟨⟨_, h⟩, .list [.str "a"], toD_lst (n := 10) h (by simp only [toDs, toD]), by decide +kernel, by decide +kernel⟩
theorem toDs_fit {S : List Int} {M : Mem} : ∀ {ws : List Wv}, (∀ w ∈ ws, Fit S M w) → ∃ ds, toDs (Gp S).S M 11 ws = some ds ∧ PyData.canLayAll0 ds = true ∧ PyData.depthAll ds ≤ 50 ∧ ds.isEmpty = decide (ws = [])
  | [], _ => ⟨[], by simp only [toDs], by simp only [PyData.canLayAll0], by simp only [PyData.depthAll]; omega, rfl⟩
  | w :: ws, h => by
    obtain ⟨d, h1, h2, h3⟩ := (h w (List.mem_cons_self ..)).d
    obtain ⟨ds, g1, g2, g3, _⟩ := toDs_fit fun x hx => h x (List.mem_cons_of_mem _ hx)
    refine ⟨d :: ds, by simp only [toDs, h1, g1], by simp only [PyData.canLayAll0, h2, g2, Bool.and_self], ?_, by simp⟩
    simp only [PyData.depthAll]
    exact Nat.max_le.mpr ⟨h3, g3⟩
theorem eqE_fit {S : List Int} {M : Mem} {ws : List Wv} (h : ∀ w ∈ ws, Fit S M w) : EqE S M ws := by
  obtain ⟨ds, h1, h2, h3, h4⟩ := toDs_fit h
  unfold EqE
  rw [eqW_of (d := .tuple ds) (e := .tuple []) (by simp only [deepD, toD, h1, Option.map_some]) (by simp only [deepD, toD, toDs, Option.map_some]) ?_ (by decide)]
  · rw [← h4]
    cases ds <;> rfl
  · unfold SeqAt.shaped
    rw [Bool.and_eq_true]
    refine ⟨by simpa only [PyData.canLay0] using h2, decide_eq_true ?_⟩
    simp only [PyData.depth]
    omega
theorem okT_tup {S : List Int} {M : Mem} {ws : List Wv} (hl : ws.length ≤ 50) (h : ∀ w ∈ ws, Fit S M w) : OkT S M (.tup ws) := by
  refine ⟨trivial, fun us e => ?_⟩
  injection e with e
  subst e
  exact ⟨hl, eqE_fit h, fun w hw => (h w hw).o⟩
theorem okT_w {S : List Int} {M : Mem} {w : Wv} (h : OddW M w) (hn : ∀ ws, w ≠ .tup ws) : OkT S M w := ⟨h, fun ws e => absurd e (hn ws)⟩
theorem okN_w {S : List Int} {M : Mem} {w : Wv} (h : OddW M w) (hn : ∀ ws, w ≠ .tup ws) (n : Nat) : OkN S M n w := by
  cases n with
  | zero => exact okT_w h hn
  | succ n => exact ⟨okT_w h hn, fun z x e => absurd e (hn _)⟩
theorem okN_ne {S : List Int} {M : Mem} {ws : List Wv} (h : OkT S M (.tup ws)) (hn : ws.length ≠ 2) (n : Nat) : OkN S M n (.tup ws) := by
  cases n with
  | zero => exact h
  | succ n =>
    refine ⟨h, fun z x e => ?_⟩
    injection e with e
    rw [e] at hn
    exact absurd rfl hn
theorem okN_d {S : List Int} {M : Mem} {a : Wv} {d : Int} {r : List Wv} (h : OkT S M (.tup (a :: .int d :: r))) (n : Nat) : OkN S M n (.tup (a :: .int d :: r)) := by
  cases n with
  | zero => exact h
  | succ n =>
    refine ⟨h, fun z x e => ?_⟩
    injection e with e
    injection e with _ e
    injection e with e _
    subst e
    exact okN_w (show OddW M (.int d) from trivial) (fun ws e => by cases e) n
/-! a drawn truth's parts are fit -/
theorem fit_str {s : Str} (h : okS s = true) : fitW (.str s) = true := by
  have h1 := okS_ok h
  unfold okS at h
  rw [Bool.and_eq_true] at h
  unfold fitW
  rw [Bool.and_eq_true]
  exact ⟨by simpa [pur] using h1, decide_eq_true (Nat.le_trans (of_decide_eq_true h.2) (by omega))⟩
theorem fit_int (i : Int) : fitW (.int i) = true := by simp [fitW, pur]
theorem fit_words : ∀ p ∈ sigT, fitW (.str p.1) = true := by decide +kernel
theorem fit_xs {s : List Bool} {xs : List Wv} (h : sigM s xs = true) : ∀ w ∈ xs, fitW w = true :=
  sigM_ind (P := fun s xs => ∀ w ∈ xs, fitW w = true) (fun w hw => by cases hw)
    (fun s x r hx _ ih w hw => by
      rcases List.mem_cons.mp hw with rfl | hw
      · exact fit_str hx
      · exact ih w hw)
    (fun s i r hi _ ih w hw => by
      rcases List.mem_cons.mp hw with rfl | hw
      · exact fit_int i
      · exact ih w hw) s xs h
theorem gb_len {t : Bt} (h : GB t) : 1 ≤ t.xs.length ∧ t.xs.length ≤ 11 := by
  obtain ⟨⟨_, s, hs, hm⟩, _, _⟩ := h
  have h1 : ∀ p ∈ sigT, 1 ≤ p.2.length := by decide +kernel
  rw [sig_len hm]
  exact ⟨h1 _ hs, sig_short _ hs⟩
theorem gb_fit {t : Bt} (h : GB t) : ∀ w ∈ Wv.str t.w :: .int t.d :: t.xs, fitW w = true := by
  obtain ⟨⟨_, s, hs, hm⟩, _, _⟩ := h
  intro w hw
  rcases List.mem_cons.mp hw with rfl | hw
  · exact fit_words _ hs
  · rcases List.mem_cons.mp hw with rfl | hw
    · exact fit_int _
    · exact fit_xs hm w hw
theorem fit_vd {t : Bt} (h : GB t) {m : Nat} (hm : m ≤ 6) : fitW (vdN m t.v) = true := by
  unfold fitW
  rw [Bool.and_eq_true]
  refine ⟨pur_le (vdN_pur h.1 m) (by omega), ?_⟩
  cases m <;> rfl
theorem fit_void : fitW (.str "void") = true := by decide +kernel
theorem okN_vd (S : List Int) (M : Mem) {t : Bt} (h : GB t) : ∀ (m n : Nat), m ≤ 7 → OkN S M n (vdN m t.v)
  | 0, n, _ => okN_d (okT_tup (by have := (gb_len h).2; simp; omega) fun w hw => fit_of S M (gb_fit h w hw)) n
  | m + 1, n, hm => by
    have ht : OkT S M (.tup [.str "void", vdN m t.v]) := okT_tup (by simp) fun w hw => by
      rcases List.mem_cons.mp hw with rfl | hw
      · exact fit_of S M fit_void
      · rw [List.mem_singleton.mp hw]; exact fit_of S M (fit_vd h (by omega))
    cases n with
    | zero => exact ht
    | succ n =>
      refine ⟨ht, fun z x e => ?_⟩
      injection e with e
      injection e with _ e
      injection e with e _
      subst e
      exact okN_vd S M h m n (by omega)
/-! ### spoilt truths -/
/-- the ten odd things, but the list -/
def odds : List Wv := [.non, .bl true, .str "", .str "A", .str "abcdefghi", .int (-1), .int 1000000, .tup [], .str "a.b"]
def Odd10 (M : Mem) (w : Wv) : Prop := w ∈ odds ∨ ∃ l, w = .ref l ∧ M[l]? = some (.lst [.str "a"])
theorem part_odd : ∀ w ∈ odds, ∀ kind ∈ kindL, partB w kind = false := by decide +kernel
theorem part_ref (l : Nat) (kind : Str) : partB (.ref l) kind = false := by
  unfold partB
  split
  · rfl
  · split
    · rfl
    · split
      · rfl
      · split <;> rfl
theorem Odd10.part {M : Mem} {w : Wv} (h : Odd10 M w) {kind : Str} (hk : kind ∈ kindL) : partB w kind = false := by
  rcases h with h | ⟨l, rfl, _⟩
  · exact part_odd w h kind hk
  · exact part_ref l kind
theorem fit_odd : ∀ w ∈ odds, w = .bl true ∨ fitW w = true := by decide +kernel
theorem Odd10.fit (S : List Int) {M : Mem} {w : Wv} (h : Odd10 M w) : Fit S M w := by
  rcases h with h | ⟨l, rfl, hl⟩
  · rcases fit_odd w h with rfl | h
    · exact fit_true S M
    · exact fit_of S M h
  · exact fit_ref S hl
theorem Odd10.mono {M M' : Mem} {w : Wv} (h : Odd10 M w) (p : M <+: M') : Odd10 M' w := by
  rcases h with h | ⟨l, rfl, hl⟩
  · exact .inl h
  · exact .inr ⟨l, rfl, pre_get p hl⟩
def headNo (w : Wv) : Bool := match w with
  | .str z => (tabP.lookup z).isNone && decide (z ≠ ("void" : Str))
  | _ => true
theorem head_odd : ∀ w ∈ odds, headNo w = true := by decide +kernel
theorem plain_head {w : Wv} {r : List Wv} (h : headNo w = true) : plainB (.tup (w :: r)) = false := by
  cases w with
  | str z =>
    simp only [headNo, Bool.and_eq_true] at h
    have : tabP.lookup z = none := by simpa using h.1
    simp only [plainB, this]
  | _ => rfl
theorem truth_head {w : Wv} {r : List Wv} (h : headNo w = true) : truthB 3 (.tup (w :: r)) = false := by
  rw [truth_plain, plain_head h]
  intro x e
  injection e with e
  injection e with e _
  subst e
  simp [headNo] at h
theorem Odd10.head {M : Mem} {w : Wv} (h : Odd10 M w) : headNo w = true := by
  rcases h with h | ⟨l, rfl, hl⟩
  · exact head_odd w h
  · rfl
theorem gb_parts {t : Bt} (h : GB t) : ∃ ks, tabP.lookup t.w = some ks ∧ ks.length = t.xs.length + 1 := by
  have := h.2.1
  unfold Bt.v plainB at this
  simp only at this
  split at this
  · rename_i ks e
    rw [Bool.and_eq_true] at this
    exact ⟨ks, e, by have := of_decide_eq_true this.1; simpa using this.symm⟩
  · cases this
theorem gb_nv {t : Bt} (h : GB t) : t.w ≠ ("void" : Str) := h.1.ok.nv
theorem all_set {α β : Type} (p : α → β → Bool) (x : α) : ∀ (ps : List α) (ks : List β) (j : Nat), j < ps.length → ps.length = ks.length → (∀ k ∈ ks, p x k = false) → (((ps.set j x).zip ks).all fun q => p q.1 q.2) = false
  | [], _, j, h, _, _ => absurd h (Nat.not_lt_zero _)
  | a :: ps, [], j, _, h, _ => by cases h
  | a :: ps, k :: ks, 0, _, _, hk => by
    simp only [List.set_cons_zero, List.zip_cons_cons, List.all_cons, hk k (List.mem_cons_self ..), Bool.false_and]
  | a :: ps, k :: ks, j + 1, h, hl, hk => by
    simp only [List.set_cons_succ, List.zip_cons_cons, List.all_cons]
    rw [all_set p x ps ks j (by simpa using h) (by simpa using hl) fun k hk2 => hk k (List.mem_cons_of_mem _ hk2), Bool.and_false]
/-- a part turned into what is none -/
theorem truth_set {t : Bt} (h : GB t) {x : Wv} (hx : ∀ kind ∈ kindL, partB x kind = false) {j : Nat} (hj : j < t.xs.length + 1) : truthB 3 (.tup (.str t.w :: (Wv.int t.d :: t.xs).set j x)) = false := by
  obtain ⟨ks, e, hk⟩ := gb_parts h
  rw [truth_plain]
  · unfold plainB
    simp only [e]
    rw [all_set partB x _ ks j (by simpa using hj) (by simp; omega) fun k hk => hx k ((parts_kinds e).2 k hk), Bool.and_false]
  · intro x e
    injection e with e
    injection e with e _
    injection e with e
    exact gb_nv h e
theorem truth_len {t : Bt} (h : GB t) {r : List Wv} (hr : r.length ≠ t.xs.length + 1) : truthB 3 (.tup (.str t.w :: r)) = false := by
  obtain ⟨ks, e, hk⟩ := gb_parts h
  rw [truth_plain]
  · unfold plainB
    simp only [e]
    rw [decide_eq_false (by omega), Bool.false_and]
  · intro x e
    injection e with e
    injection e with e _
    injection e with e
    exact gb_nv h e
/-- any part of a drawn truth turned into an odd thing: none, and fit to be asked -/
theorem spoilt (S : List Int) {M : Mem} {t : Bt} (h : GB t) {x : Wv} (hx : Odd10 M x) {j : Nat} (hj : j < t.xs.length + 2) : OkN S M 3 (.tup ((Wv.str t.w :: .int t.d :: t.xs).set j x)) ∧ truthB 3 (.tup ((Wv.str t.w :: .int t.d :: t.xs).set j x)) = false := by
  obtain ⟨l1, l2⟩ := gb_len h
  have ht : OkT S M (.tup ((Wv.str t.w :: .int t.d :: t.xs).set j x)) := okT_tup (by simp; omega) fun w hw => by
    rcases List.mem_or_eq_of_mem_set hw with hw | hw
    · exact fit_of S M (gb_fit h w hw)
    · rw [hw]; exact hx.fit S
  refine ⟨okN_ne ht (by rw [List.length_set]; simp only [List.length_cons]; omega) 3, ?_⟩
  cases j with
  | zero => exact truth_head hx.head
  | succ j => exact truth_set h (fun k hk => hx.part hk) (by omega)
/-! slices -/
theorem cut_to {α : Type} (xs : List α) {j : Nat} (h : j ≤ xs.length) : cut xs none (some (j : Int)) = xs.take j := by
  unfold cut sIx
  simp only [List.drop_zero, Nat.sub_zero]
  rw [if_neg (by omega)]
  congr 1
  simp; omega
theorem cut_from {α : Type} (xs : List α) {j : Nat} (h : j ≤ xs.length) : cut xs (some (j : Int)) none = xs.drop j := by
  unfold cut sIx
  simp only
  rw [if_neg (by omega)]
  have : min (j : Int).toNat xs.length = j := by simp; omega
  rw [this, List.take_of_length_le (by simp)]
theorem cut_last {α : Type} (xs : List α) (h : 1 ≤ xs.length) : cut xs none (some (-1)) = xs.dropLast := by
  unfold cut sIx
  simp only [List.drop_zero, Nat.sub_zero]
  rw [if_pos (by omega), List.dropLast_eq_take]
  congr 1
  omega
theorem set_cut {α : Type} (xs : List α) {j : Nat} (h : j < xs.length) (x : α) : xs.take j ++ [x] ++ xs.drop (j + 1) = xs.set j x := by
  rw [List.set_eq_take_append_cons_drop, if_pos h]
  simp
/-! ### things that are none, by hand -/
def fit0 (v : Wv) : Bool := match v with
  | .tup ws => decide (ws.length ≤ 50) && ws.all fitW
  | w => fitW w
def fitN : Nat → Wv → Bool
  | 0, v => fit0 v
  | n + 1, v => fit0 v && match v with
    | .tup [.str _, x] => fitN n x
    | _ => true
theorem okT_of (S : List Int) (M : Mem) {v : Wv} (h : fit0 v = true) : OkT S M v := by
  cases v with
  | tup ws =>
    simp only [fit0, Bool.and_eq_true, decide_eq_true_eq] at h
    exact okT_tup h.1 fun w hw => fit_of S M (List.all_eq_true.mp h.2 w hw)
  | _ => exact okT_w (fit_of S M h).o (fun ws e => by cases e)
theorem okN_of (S : List Int) (M : Mem) : ∀ (n : Nat) {v : Wv}, fitN n v = true → OkN S M n v
  | 0, v, h => okT_of S M h
  | n + 1, v, h => by
    simp only [fitN, Bool.and_eq_true] at h
    refine ⟨okT_of S M h.1, fun z x e => ?_⟩
    subst e
    exact okN_of S M n h.2
def rgtL : List Wv := [.str "right", .int 0, .str "r", .str "a", .str "o", .int 1, .int 0, .int 0, .int 0, .int 364, .int 0, .str "-", .int 0]
def badA : List Wv := [.tup [.str "place", .int 0, .str "a", .str "b", .int 0, .int 0], .tup [.str "place", .int 0, .str "a", .str "b", .int 10, .int 0]]
def badB : List Wv := [.tup [.str "place", .int 0, .str "-", .str "b", .int 1, .int 0], .tup [.str "read", .int 0, .str "a", .int 10000], .tup [.str "dam", .int 0, .str "a", .int 1, .int 1001]]
def badC : List Wv := [.tup [.str "leased", .int 0, .str "r", .str "o", .int 10000]]
def badD : List Wv := [.tup (rgtL.set 5 (.int 0)), .tup (rgtL.set 5 (.int 100))]
def badE : List Wv := [.tup (rgtL.set 9 (.int 365)), .tup (rgtL.set 10 (.int 1001))]
def badF : List Wv := [.tup (rgtL.set 12 (.int 31))]
def badG : List Wv := [.non, .tup [], .int 7, .str "read", .tup [.str "read"], .tup [.str "Read", .int 0, .str "a", .int 1], .tup [.str "void"], .tup [.str "void", .non]]
def badH : List Wv := [.tup [.str "void", .tup [.str "read", .int 0, .str "a"]], .tup [.str "place", .int 0, .str "a", .str "", .int 1, .int 0]]
def badL : List Wv := badA ++ badB ++ badC ++ badD ++ badE ++ badF ++ badG ++ badH
theorem bad_ok : ∀ v ∈ badL, fitN 3 v = true ∧ truthB 3 v = false := by decide +kernel
theorem rgt_ok : fitN 3 (.tup rgtL) = true ∧ truthB 3 (.tup rgtL) = true := by decide +kernel
def plcL : List Wv := [.str "place", .int 9999, .str "a", .str "-", .int 9, .int 9999]
theorem plc_ok : fitN 3 (.tup plcL) = true ∧ truthB 3 (.tup plcL) = true := by decide +kernel
end Bh
end
section
set_option Elab.async false
set_option linter.all false
set_option maxRecDepth 100000
set_option maxHeartbeats 0
namespace Bh
open PySem MP
/-! ### the law -/
@[irreducible] def lbA2 : Sl := (.cons (.ifs (.cmp .ne (.call ix_is_truth (.cons (.var 2) .nil) []) (.cmp .le (.var 3) (.con (.int 3)))) (.cons (.ret (.con (.bl false))) .nil) .nil) (.cons (.asg (.tup [2, 3]) (.tup (.cons (.tup (.cons (.con (.str "void")) (.cons (.var 2) .nil))) (.cons (.bin .add (.var 3) (.con (.int 1))) .nil)))) .nil))
@[irreducible] def lbA : Sl := (.cons (.asg (.nm 3) (.bm .scount (.bi .str (.cons (.var 2) .nil)) (.cons (.con (.str "void")) .nil))) (.cons (.for_ (.nm 4) (.rng (.con (.int 0)) (.con (.int 5))) lbA2) .nil))
@[irreducible] def spX : Ex := (.bin .add (.bin .add (.slc (.var 6) .no (.var 7)) (.tup (.cons (.var 8) .nil))) (.slc (.var 6) (.bin .add (.var 7) (.con (.int 1))) .no))
@[irreducible] def tenX : Ex := (.tup (.cons (.con .non) (.cons (.con (.bl true)) (.cons (.con (.str "")) (.cons (.con (.str "A")) (.cons (.con (.str "abcdefghi")) (.cons (.neg (.con (.int 1))) (.cons (.con (.int 1000000)) (.cons (.tup .nil) (.cons (.lst (.cons (.con (.str "a")) .nil)) (.cons (.con (.str "a.b")) .nil)))))))))))
@[irreducible] def lb5 : Sl := (.cons (.ifs (.cmp .isn (.call ix_is_truth (.cons spX .nil) []) (.con (.bl false))) (.cons (.ret (.con (.bl false))) .nil) .nil) .nil)
@[irreducible] def lb4 : Sl := (.cons (.for_ (.nm 8) (.val tenX) lb5) .nil)
@[irreducible] def lx0 : St := (.asg (.nm 1) (.call ix__law_all_truths (.cons (.var 0) (.cons (.con (.int 10)) (.cons (.con (.int 5)) .nil))) []))
@[irreducible] def lx1 : St := (.for_ (.nm 2) (.val (.var 1)) lbA)
@[irreducible] def lx2 : St := (.asg (.nm 5) (.lc (.var 2) (.nm 2) (.val (.var 1)) (.cmp .ne (.sub (.var 2) (.con (.int 0))) (.con (.str "void")))))
@[irreducible] def lx3 : St := (.asg (.nm 6) (.sub (.var 5) (.call ix__law_drawn (.cons (.var 0) (.cons (.con (.int 1)) (.cons (.bi .len (.cons (.var 5) .nil)) .nil))) [])))
@[irreducible] def lx4 : St := (.for_ (.nm 7) (.rng (.con (.int 0)) (.bi .len (.cons (.var 6) .nil))) lb4)
@[irreducible] def lx5 : St := (.ifs (.or (.cmp .isn (.call ix_is_truth (.cons (.slc (.var 6) .no (.neg (.con (.int 1)))) .nil) []) (.con (.bl false))) (.cmp .isn (.call ix_is_truth (.cons (.bin .add (.var 6) (.tup (.cons (.con (.int 0)) .nil))) .nil) []) (.con (.bl false)))) (.cons (.ret (.con (.bl false))) .nil) .nil)
@[irreducible] def lx6 : St := (.ifs (.cmp .isn (.call ix_is_truth (.cons (.bi .list (.cons (.var 6) .nil)) .nil) []) (.con (.bl false))) (.cons (.ret (.con (.bl false))) .nil) .nil)
@[irreducible] def lx7 : St := (.ifs (.cmp .isn (.call ix_is_truth (.cons (.bin .add (.bin .add (.slc (.var 6) .no (.con (.int 1))) (.tup (.cons (.con (.int 10000)) .nil))) (.slc (.var 6) (.con (.int 2)) .no)) .nil) []) (.con (.bl false))) (.cons (.ret (.con (.bl false))) .nil) .nil)
@[irreducible] def lx8 : St := (.asg (.nm 9) (.tup (.cons (.con (.str "right")) (.cons (.con (.int 0)) (.cons (.con (.str "r")) (.cons (.con (.str "a")) (.cons (.con (.str "o")) (.cons (.con (.int 1)) (.cons (.con (.int 0)) (.cons (.con (.int 0)) (.cons (.con (.int 0)) (.cons (.con (.int 364)) (.cons (.con (.int 0)) (.cons (.con (.str "-")) (.cons (.con (.int 0)) .nil)))))))))))))))
@[irreducible] def lx9 : St := (.asg (.nm 10) (.lst (.cons (.tup (.cons (.con (.str "place")) (.cons (.con (.int 0)) (.cons (.con (.str "a")) (.cons (.con (.str "b")) (.cons (.con (.int 0)) (.cons (.con (.int 0)) .nil))))))) (.cons (.tup (.cons (.con (.str "place")) (.cons (.con (.int 0)) (.cons (.con (.str "a")) (.cons (.con (.str "b")) (.cons (.con (.int 10)) (.cons (.con (.int 0)) .nil))))))) .nil))))
@[irreducible] def lx10 : St := (.asg (.nm 10) (.bin .add (.var 10) (.lst (.cons (.tup (.cons (.con (.str "place")) (.cons (.con (.int 0)) (.cons (.con (.str "-")) (.cons (.con (.str "b")) (.cons (.con (.int 1)) (.cons (.con (.int 0)) .nil))))))) (.cons (.tup (.cons (.con (.str "read")) (.cons (.con (.int 0)) (.cons (.con (.str "a")) (.cons (.con (.int 10000)) .nil))))) (.cons (.tup (.cons (.con (.str "dam")) (.cons (.con (.int 0)) (.cons (.con (.str "a")) (.cons (.con (.int 1)) (.cons (.con (.int 1001)) .nil)))))) .nil))))))
@[irreducible] def lx11 : St := (.asg (.nm 10) (.bin .add (.var 10) (.lst (.cons (.tup (.cons (.con (.str "leased")) (.cons (.con (.int 0)) (.cons (.con (.str "r")) (.cons (.con (.str "o")) (.cons (.con (.int 10000)) .nil)))))) .nil))))
@[irreducible] def lx12 : St := (.asg (.nm 10) (.bin .add (.var 10) (.lst (.cons (.bin .add (.bin .add (.slc (.var 9) .no (.con (.int 5))) (.tup (.cons (.con (.int 0)) .nil))) (.slc (.var 9) (.con (.int 6)) .no)) (.cons (.bin .add (.bin .add (.slc (.var 9) .no (.con (.int 5))) (.tup (.cons (.con (.int 100)) .nil))) (.slc (.var 9) (.con (.int 6)) .no)) .nil)))))
@[irreducible] def lx13 : St := (.asg (.nm 10) (.bin .add (.var 10) (.lst (.cons (.bin .add (.bin .add (.slc (.var 9) .no (.con (.int 9))) (.tup (.cons (.con (.int 365)) .nil))) (.slc (.var 9) (.con (.int 10)) .no)) (.cons (.bin .add (.bin .add (.slc (.var 9) .no (.con (.int 10))) (.tup (.cons (.con (.int 1001)) .nil))) (.slc (.var 9) (.con (.int 11)) .no)) .nil)))))
@[irreducible] def lx14 : St := (.asg (.nm 10) (.bin .add (.var 10) (.lst (.cons (.bin .add (.slc (.var 9) .no (.con (.int 12))) (.tup (.cons (.con (.int 31)) .nil))) .nil))))
@[irreducible] def lx15 : St := (.asg (.nm 10) (.bin .add (.var 10) (.lst (.cons (.con .non) (.cons (.tup .nil) (.cons (.con (.int 7)) (.cons (.con (.str "read")) (.cons (.tup (.cons (.con (.str "read")) .nil)) (.cons (.tup (.cons (.con (.str "Read")) (.cons (.con (.int 0)) (.cons (.con (.str "a")) (.cons (.con (.int 1)) .nil))))) (.cons (.tup (.cons (.con (.str "void")) .nil)) (.cons (.tup (.cons (.con (.str "void")) (.cons (.con .non) .nil))) .nil)))))))))))
@[irreducible] def lx16 : St := (.asg (.nm 10) (.bin .add (.var 10) (.lst (.cons (.tup (.cons (.con (.str "void")) (.cons (.tup (.cons (.con (.str "read")) (.cons (.con (.int 0)) (.cons (.con (.str "a")) .nil)))) .nil))) (.cons (.tup (.cons (.con (.str "place")) (.cons (.con (.int 0)) (.cons (.con (.str "a")) (.cons (.con (.str "")) (.cons (.con (.int 1)) (.cons (.con (.int 0)) .nil))))))) .nil)))))
@[irreducible] def lx17 : St := (.ifs (.cmp .ne (.lc (.var 8) (.nm 8) (.val (.var 10)) (.cmp .isn (.call ix_is_truth (.cons (.var 8) .nil) []) (.con (.bl false)))) (.lst .nil)) (.cons (.ret (.con (.bl false))) .nil) .nil)
@[irreducible] def lx18 : St := (.ret (.and (.cmp .is_ (.call ix_is_truth (.cons (.var 9) .nil) []) (.con (.bl true))) (.cmp .is_ (.call ix_is_truth (.cons (.tup (.cons (.con (.str "place")) (.cons (.con (.int 9999)) (.cons (.con (.str "a")) (.cons (.con (.str "-")) (.cons (.con (.int 9)) (.cons (.con (.int 9999)) .nil))))))) .nil) []) (.con (.bl true)))))
@[irreducible] def lt18 : Sl := (.cons lx18 .nil)
@[irreducible] def lt17 : Sl := (.cons lx17 lt18)
@[irreducible] def lt16 : Sl := (.cons lx16 lt17)
@[irreducible] def lt15 : Sl := (.cons lx15 lt16)
@[irreducible] def lt14 : Sl := (.cons lx14 lt15)
@[irreducible] def lt13 : Sl := (.cons lx13 lt14)
@[irreducible] def lt12 : Sl := (.cons lx12 lt13)
@[irreducible] def lt11 : Sl := (.cons lx11 lt12)
@[irreducible] def lt10 : Sl := (.cons lx10 lt11)
@[irreducible] def lt9 : Sl := (.cons lx9 lt10)
@[irreducible] def lt8 : Sl := (.cons lx8 lt9)
@[irreducible] def lt7 : Sl := (.cons lx7 lt8)
@[irreducible] def lt6 : Sl := (.cons lx6 lt7)
@[irreducible] def lt5 : Sl := (.cons lx5 lt6)
@[irreducible] def lt4 : Sl := (.cons lx4 lt5)
@[irreducible] def lt3 : Sl := (.cons lx3 lt4)
@[irreducible] def lt2 : Sl := (.cons lx2 lt3)
@[irreducible] def lt1 : Sl := (.cons lx1 lt2)
@[irreducible] def lt0 : Sl := (.cons lx0 lt1)
def QR (r : Fl × Sw) (_ : Mem) : Prop := match r.1 with
  | .ret w => w = .bl true
  | .nx => Wv.non = .bl true
  | _ => False
theorem law_eq : sl_law = lt0 := by with_unfolding_all rfl
theorem ask_is (S : List Int) {v : Wv} {M : Mem} {b : Bool} (h : OkN S M 3 v ∧ truthB 3 v = b) : (callN (Gp S) fuel 9 ix_is_truth [v] M).sat fun r M' => r = .bl b ∧ M <+: M' :=
  sat_mono (is_truth_ok S 4 h.1) fun r M' ⟨h1, h2⟩ => ⟨by rw [h1, h.2], h2⟩
abbrev Run (S : List Int) (l : Sl) (σ : Sw) (M : Mem) (Q : Fl × Sw → Mem → Prop) : Prop := (evSl (Gp S) (callN (Gp S) fuel 9) (callN (Gp S) fuel 8) fuel l σ M).sat Q
theorem l18_ok (S : List Int) {M : Mem} {x0 x1 x2 x3 x4 x5 x6 x7 x8 x10 : Option Wv} : Run S lt18 [x0, x1, x2, x3, x4, x5, x6, x7, x8, some (.tup rgtL), x10] M QR := by
  unfold Run lt18
  rw [q_cons]
  unfold lx18
  simp only [q_ret, q_and, q_cmp, q_call, q_acons, q_anil, q_var, q_con, q_tup, getV_0, getV_s, sat_some, List.append_nil]
  refine sat_mono (ask_is S ⟨okN_of S M 3 rgt_ok.1, rgt_ok.2⟩) fun v A ⟨hv, pA⟩ => ?_
  subst hv
  rw [c_is]
  refine ⟨true, rfl, true, rfl, ?_⟩
  simp only []
  rw [ba_t]
  simp only [q_cmp, q_call, q_acons, q_anil, q_var, q_con, q_tup, getV_0, getV_s, sat_some, List.append_nil]
  refine ⟨len_ok (by decide), ?_⟩
  refine sat_mono (ask_is S ⟨okN_of S A 3 plc_ok.1, plc_ok.2⟩) fun v B ⟨hv, pB⟩ => ?_
  subst hv
  rw [c_is]
  refine ⟨true, rfl, ?_⟩
  rw [k_ret]
  exact rfl
theorem l17_ok (S : List Int) {M : Mem} {b : Nat} (hb : M[b]? = some (.lst badL)) {x0 x1 x2 x3 x4 x5 x6 x7 x8 : Option Wv} : Run S lt17 [x0, x1, x2, x3, x4, x5, x6, x7, x8, some (.tup rgtL), some (.ref b)] M QR := by
  unfold Run lt17
  rw [q_cons]
  unfold lx17
  simp only [q_ifs, q_cmp, q_lc, q_ival, q_var, getV_0, getV_s, sat_some, walk_lst hb, lock_lst, unlk_lst]
  refine sat_mono (lc_rule (Q := fun ws M' => ws = [] ∧ M <+: M') (fun pre post acc M' => (∀ v ∈ post, v ∈ badL) ∧ acc = [] ∧ M <+: M') ?_ ?_ _ [] [] _ ⟨fun v hv => hv, rfl, List.prefix_refl _⟩) fun ws A ⟨hw, pA⟩ => ?_
  · rintro pre x post acc M' ⟨hm, rfl, pM⟩
    refine ⟨stays_lst (pre_get pM hb), _, rfl, ?_⟩
    have hx := bad_ok x (hm x (List.mem_cons_self ..))
    simp only [q_cmp, q_call, q_acons, q_anil, q_con]
    show (evE (Gp S) _ _ (.var 8) ([x0, x1, x2, x3, x4, x5, x6, x7, some x, some (.tup rgtL), some (.ref b)]) M').sat _
    simp only [q_var, getV_0, getV_s, sat_some, List.append_nil]
    refine sat_mono (ask_is S ⟨okN_of S M' 3 hx.1, hx.2⟩) fun v B ⟨hv, pB⟩ => ?_
    subst hv
    rw [c_isn]
    refine ⟨true, rfl, false, rfl, ?_⟩
    exact ⟨fun e => absurd e (by decide), fun _ => ⟨fun v hv => hm v (List.mem_cons_of_mem _ hv), by first | rfl | trivial, pM.trans pB⟩⟩
  · rintro pre acc M' ⟨hm, rfl, pM⟩
    exact ⟨stays_lst (pre_get pM hb), rfl, pM⟩
  · subst hw
    simp only [q_lst, q_anil]
    refine ⟨len_ok (by decide), ?_⟩
    rw [c_ne]
    refine ⟨true, eqW_nil (toD_lst (n := 11) (ds := []) (pre_get (List.prefix_append _ _) (at_new ..)) (by simp only [toDs])) (at_new ..) (by decide), false, rfl, ?_⟩
    simp only []
    rw [b_f, q_nil, k_nx]
    exact l18_ok S
end Bh
end
section
set_option Elab.async false
set_option linter.all false
set_option maxRecDepth 100000
set_option maxHeartbeats 0
namespace Bh
open PySem MP
/-! slices within code -/
section
variable {G : Pg} {C C1 : Nat → List Wv → Mem → Out Wv} {σ : Sw} {M : Mem}
theorem ev_spl {a lo e hi : Ex} {ws : List Wv} {j : Nat} {x : Wv} (ea : evE G C C1 a σ M = .ok (.tup ws) M) (el : evE G C C1 lo σ M = .ok (.int (j : Int)) M) (ee : evE G C C1 e σ M = .ok x M) (eh : evE G C C1 hi σ M = .ok (.int ((j + 1 : Nat) : Int)) M) (nl : lo.isNo = false) (nh : hi.isNo = false) (hj : j < ws.length) (hl : ws.length ≤ 100) :
    evE G C C1 (.bin .add (.bin .add (.slc a .no lo) (.tup (.cons e .nil))) (.slc a hi .no)) σ M = .ok (.tup (ws.set j x)) M := by
  have hz : 1001 ≤ sizeLine := by decide
  have c1 := cut_to ws (j := j) (by omega)
  have c2 := cut_from ws (j := j + 1) (by omega)
  have k1 : lenOk 1 = true := len_ok (by omega)
  have k2 : lenOk ((ws.take j).length + 1) = true := len_ok (by simp; omega)
  have k3 : lenOk ((ws.take j ++ [x]).length + (ws.drop (j + 1)).length) = true := len_ok (by simp; omega)
  simp only [evE, evL, ea, el, ee, eh, no_no, nl, nh, Out.bind_ok, if_true, Bool.false_eq_true, if_false, toI, Option.map_some, Out.ofO, slcW, c1, c2, binW, List.length_cons, List.length_nil, Nat.zero_add, k1, k2, k3, Out.chk, set_cut ws hj x]
theorem ev_spl1 {a lo e : Ex} {ws : List Wv} {j : Nat} {x : Wv} (ea : evE G C C1 a σ M = .ok (.tup ws) M) (el : evE G C C1 lo σ M = .ok (.int (j : Int)) M) (ee : evE G C C1 e σ M = .ok x M) (nl : lo.isNo = false) (hj : j < ws.length) (hl : ws.length ≤ 100) :
    evE G C C1 (.bin .add (.slc a .no lo) (.tup (.cons e .nil))) σ M = .ok (.tup (ws.take j ++ [x])) M := by
  have hz : 1001 ≤ sizeLine := by decide
  have c1 := cut_to ws (j := j) (by omega)
  have k1 : lenOk 1 = true := len_ok (by omega)
  have k2 : lenOk ((ws.take j).length + 1) = true := len_ok (by simp; omega)
  simp only [evE, evL, ea, el, ee, no_no, nl, Out.bind_ok, if_true, Bool.false_eq_true, if_false, toI, Option.map_some, Out.ofO, slcW, c1, binW, List.length_cons, List.length_nil, Nat.zero_add, k1, k2, Out.chk]
theorem add_lst {b : Nat} {xs ys : List Wv} {Q : Wv → Mem → Prop} (hb : M[b]? = some (.lst xs)) (hl : xs.length + ys.length ≤ 100) (q : ∀ b' M', M <+: M' → M'[b']? = some (.lst (xs ++ ys)) → Q (.ref b') M') : (binW .add (.ref b) (.ref M.length) (M ++ [.lst ys])).sat Q := by
  have hz : 1001 ≤ sizeLine := by decide
  refine o_addL b M.length xs ys (pre_get (List.prefix_append _ _) hb) (at_new ..) (len_ok (by omega)) ?_
  exact q _ _ (pre_snoc (List.prefix_append _ _) _) (at_new ..)
end
def bad8 : List Wv := badA ++ badB ++ badC ++ badD ++ badE ++ badF ++ badG ++ badH

theorem l16_ok (S : List Int) {M : Mem} {b : Nat} (hb : M[b]? = some (.lst (badA ++ badB ++ badC ++ badD ++ badE ++ badF ++ badG))) {x0 x1 x2 x3 x4 x5 x6 x7 x8 : Option Wv} : Run S lt16 [x0, x1, x2, x3, x4, x5, x6, x7, x8, some (.tup rgtL), some (.ref b)] M QR := by
  unfold Run lt16
  rw [q_cons]
  unfold lx16
  rw [q_asg, q_bin]
  simp only [q_var, q_con, q_tup, q_anil, getV_0, getV_s, sat_some, q_lst, q_acons]
  refine ⟨len_ok (by decide), len_ok (by decide), len_ok (by decide), len_ok (by decide), ?_⟩
  refine add_lst (ys := badH) hb (by decide) fun b2 M2 p2 hb2 => ?_
  simp only [tg_nm, sat_some, List.set_cons_zero, List.set_cons_succ, k_nx]
  exact l17_ok S (b := b2) hb2

theorem l15_ok (S : List Int) {M : Mem} {b : Nat} (hb : M[b]? = some (.lst (badA ++ badB ++ badC ++ badD ++ badE ++ badF))) {x0 x1 x2 x3 x4 x5 x6 x7 x8 : Option Wv} : Run S lt15 [x0, x1, x2, x3, x4, x5, x6, x7, x8, some (.tup rgtL), some (.ref b)] M QR := by
  unfold Run lt15
  rw [q_cons]
  unfold lx15
  rw [q_asg, q_bin]
  simp only [q_var, q_con, q_tup, q_anil, getV_0, getV_s, sat_some, q_lst, q_acons]
  refine ⟨len_ok (by decide), len_ok (by decide), len_ok (by decide), len_ok (by decide), len_ok (by decide), len_ok (by decide), ?_⟩
  refine add_lst (ys := badG) hb (by decide) fun b2 M2 p2 hb2 => ?_
  simp only [tg_nm, sat_some, List.set_cons_zero, List.set_cons_succ, k_nx]
  exact l16_ok S hb2

theorem l14_ok (S : List Int) {M : Mem} {b : Nat} (hb : M[b]? = some (.lst (badA ++ badB ++ badC ++ badD ++ badE))) {x0 x1 x2 x3 x4 x5 x6 x7 x8 : Option Wv} : Run S lt14 [x0, x1, x2, x3, x4, x5, x6, x7, x8, some (.tup rgtL), some (.ref b)] M QR := by
  unfold Run lt14
  rw [q_cons]
  unfold lx14
  rw [q_asg, q_bin]
  simp only [q_var, getV_0, getV_s, sat_some, q_lst, q_acons]
  refine sat_of (ev_spl1 (ws := rgtL) (j := 12) (x := .int 31) (by simp only [evE, getV_0, getV_s, Out.ofO]) (by simp only [evE]; rfl) (by simp only [evE]) rfl (by decide) (by decide)) ?_
  simp only [q_anil]
  refine ⟨len_ok (by decide), ?_⟩
  refine add_lst (ys := badF) hb (by decide) fun b2 M2 p2 hb2 => ?_
  simp only [tg_nm, sat_some, List.set_cons_zero, List.set_cons_succ, k_nx]
  exact l15_ok S hb2

theorem l13_ok (S : List Int) {M : Mem} {b : Nat} (hb : M[b]? = some (.lst (badA ++ badB ++ badC ++ badD))) {x0 x1 x2 x3 x4 x5 x6 x7 x8 : Option Wv} : Run S lt13 [x0, x1, x2, x3, x4, x5, x6, x7, x8, some (.tup rgtL), some (.ref b)] M QR := by
  unfold Run lt13
  rw [q_cons]
  unfold lx13
  rw [q_asg, q_bin]
  simp only [q_var, getV_0, getV_s, sat_some, q_lst, q_acons]
  refine sat_of (ev_spl (ws := rgtL) (j := 9) (x := .int 365) (by simp only [evE, getV_0, getV_s, Out.ofO]) (by simp only [evE]; rfl) (by simp only [evE]) (by simp only [evE]; rfl) rfl rfl (by decide) (by decide)) ?_
  refine sat_of (ev_spl (ws := rgtL) (j := 10) (x := .int 1001) (by simp only [evE, getV_0, getV_s, Out.ofO]) (by simp only [evE]; rfl) (by simp only [evE]) (by simp only [evE]; rfl) rfl rfl (by decide) (by decide)) ?_
  simp only [q_anil]
  refine ⟨len_ok (by decide), ?_⟩
  refine add_lst (ys := badE) hb (by decide) fun b2 M2 p2 hb2 => ?_
  simp only [tg_nm, sat_some, List.set_cons_zero, List.set_cons_succ, k_nx]
  exact l14_ok S hb2

theorem l12_ok (S : List Int) {M : Mem} {b : Nat} (hb : M[b]? = some (.lst (badA ++ badB ++ badC))) {x0 x1 x2 x3 x4 x5 x6 x7 x8 : Option Wv} : Run S lt12 [x0, x1, x2, x3, x4, x5, x6, x7, x8, some (.tup rgtL), some (.ref b)] M QR := by
  unfold Run lt12
  rw [q_cons]
  unfold lx12
  rw [q_asg, q_bin]
  simp only [q_var, getV_0, getV_s, sat_some, q_lst, q_acons]
  refine sat_of (ev_spl (ws := rgtL) (j := 5) (x := .int 0) (by simp only [evE, getV_0, getV_s, Out.ofO]) (by simp only [evE]; rfl) (by simp only [evE]) (by simp only [evE]; rfl) rfl rfl (by decide) (by decide)) ?_
  refine sat_of (ev_spl (ws := rgtL) (j := 5) (x := .int 100) (by simp only [evE, getV_0, getV_s, Out.ofO]) (by simp only [evE]; rfl) (by simp only [evE]) (by simp only [evE]; rfl) rfl rfl (by decide) (by decide)) ?_
  simp only [q_anil]
  refine ⟨len_ok (by decide), ?_⟩
  refine add_lst (ys := badD) hb (by decide) fun b2 M2 p2 hb2 => ?_
  simp only [tg_nm, sat_some, List.set_cons_zero, List.set_cons_succ, k_nx]
  exact l13_ok S hb2

theorem l11_ok (S : List Int) {M : Mem} {b : Nat} (hb : M[b]? = some (.lst (badA ++ badB))) {x0 x1 x2 x3 x4 x5 x6 x7 x8 : Option Wv} : Run S lt11 [x0, x1, x2, x3, x4, x5, x6, x7, x8, some (.tup rgtL), some (.ref b)] M QR := by
  unfold Run lt11
  rw [q_cons]
  unfold lx11
  rw [q_asg, q_bin]
  simp only [q_var, q_con, q_tup, q_anil, getV_0, getV_s, sat_some, q_lst, q_acons]
  refine ⟨len_ok (by decide), len_ok (by decide), ?_⟩
  refine add_lst (ys := badC) hb (by decide) fun b2 M2 p2 hb2 => ?_
  simp only [tg_nm, sat_some, List.set_cons_zero, List.set_cons_succ, k_nx]
  exact l12_ok S hb2

theorem l10_ok (S : List Int) {M : Mem} {b : Nat} (hb : M[b]? = some (.lst (badA))) {x0 x1 x2 x3 x4 x5 x6 x7 x8 : Option Wv} : Run S lt10 [x0, x1, x2, x3, x4, x5, x6, x7, x8, some (.tup rgtL), some (.ref b)] M QR := by
  unfold Run lt10
  rw [q_cons]
  unfold lx10
  rw [q_asg, q_bin]
  simp only [q_var, q_con, q_tup, q_anil, getV_0, getV_s, sat_some, q_lst, q_acons]
  refine ⟨len_ok (by decide), len_ok (by decide), len_ok (by decide), len_ok (by decide), ?_⟩
  refine add_lst (ys := badB) hb (by decide) fun b2 M2 p2 hb2 => ?_
  simp only [tg_nm, sat_some, List.set_cons_zero, List.set_cons_succ, k_nx]
  exact l11_ok S hb2

theorem l8_ok (S : List Int) {M : Mem} {x0 x1 x2 x3 x4 x5 x6 x7 x8 x9 x10 : Option Wv} : Run S lt8 [x0, x1, x2, x3, x4, x5, x6, x7, x8, x9, x10] M QR := by
  unfold Run lt8
  rw [q_cons]
  unfold lx8
  rw [q_asg]
  simp only [q_con, q_tup, q_anil, q_acons]
  refine ⟨len_ok (by decide), ?_⟩
  simp only [tg_nm, sat_some, List.set_cons_zero, List.set_cons_succ, k_nx]
  unfold lt9
  rw [q_cons]
  unfold lx9
  rw [q_asg]
  simp only [q_con, q_tup, q_anil, q_acons, q_lst]
  refine ⟨len_ok (by decide), len_ok (by decide), len_ok (by decide), ?_⟩
  simp only [tg_nm, sat_some, List.set_cons_zero, List.set_cons_succ, k_nx]
  exact l10_ok S (b := M.length) (at_new ..)
end Bh
end
section
set_option Elab.async false
set_option linter.all false
set_option maxRecDepth 100000
set_option maxHeartbeats 0
namespace Bh
open PySem MP
/-! ### the law: spoilt truths -/
theorem spoilt_day (S : List Int) (M : Mem) {t : Bt} (h : GB t) : OkN S M 3 (.tup ((Wv.str t.w :: .int t.d :: t.xs).set 1 (.int 10000))) ∧ truthB 3 (.tup ((Wv.str t.w :: .int t.d :: t.xs).set 1 (.int 10000))) = false := by
  obtain ⟨l1, l2⟩ := gb_len h
  have hf : ∀ w ∈ (Wv.str t.w :: .int t.d :: t.xs).set 1 (.int 10000), fitW w = true := fun w hw => by
    rcases List.mem_or_eq_of_mem_set hw with hw | hw
    · exact gb_fit h w hw
    · rw [hw]; exact fit_int _
  refine ⟨okN_d (okT_tup (by simp; omega) fun w hw => fit_of S M (hf w hw)) 3, ?_⟩
  obtain ⟨ks, e, hk⟩ := gb_parts h
  have hday : ∀ p ∈ tabP, p.2.head? = some ("day" : Str) := by decide +kernel
  have hd := hday _ (look_memP e)
  rw [truth_plain]
  · cases ks with
    | nil => cases hd
    | cons k ks =>
      injection hd with hd
      have hp : partB (.int 10000) k = false := by
        rw [hd]; decide +kernel
      show plainB (.tup (.str t.w :: .int 10000 :: t.xs)) = false
      unfold plainB
      simp only [e, List.zip_cons_cons, List.all_cons, hp, Bool.false_and, Bool.and_false]
  · intro x e
    injection e with e
    injection e with e _
    injection e with e
    exact gb_nv h e
theorem l7_ok (S : List Int) {M : Mem} {t : Bt} (h : GB t) {x0 x1 x2 x3 x4 x5 x7 x8 x9 x10 : Option Wv} : Run S lt7 [x0, x1, x2, x3, x4, x5, some t.v, x7, x8, x9, x10] M QR := by
  have l2 := (gb_len h).2
  unfold Run lt7
  rw [q_cons]
  unfold lx7
  rw [q_ifs, q_cmp, q_call, q_acons]
  refine sat_of (ev_spl (ws := Wv.str t.w :: .int t.d :: t.xs) (j := 1) (x := .int 10000) (by simp only [evE, getV_0, getV_s, Out.ofO, Bt.v]) (by simp only [evE]; rfl) (by simp only [evE]) (by simp only [evE]; rfl) rfl rfl (by simp) (by simp; omega)) ?_
  simp only [q_anil, List.append_nil, q_con]
  refine sat_mono (ask_is S (spoilt_day S M h)) fun v A ⟨hv, pA⟩ => ?_
  subst hv
  rw [c_isn]
  refine ⟨true, rfl, false, rfl, ?_⟩
  simp only []
  rw [b_f, q_nil, k_nx]
  exact l8_ok S
theorem l6_ok (S : List Int) {M : Mem} {t : Bt} (h : GB t) {x0 x1 x2 x3 x4 x5 x7 x8 x9 x10 : Option Wv} : Run S lt6 [x0, x1, x2, x3, x4, x5, some t.v, x7, x8, x9, x10] M QR := by
  have hz : 1001 ≤ sizeLine := by decide
  have l2 := (gb_len h).2
  unfold Run lt6
  rw [q_cons]
  unfold lx6
  rw [q_ifs, q_cmp, q_call, q_acons]
  simp only [q_bi, q_acons, q_var, q_anil, getV_0, getV_s, sat_some, List.append_nil, q_con]
  have e : biW (Gp S) .list [t.v] M = .ok (.ref M.length) (M ++ [.lst (Wv.str t.w :: .int t.d :: t.xs)]) := by
    have : lenOk (Wv.str t.w :: .int t.d :: t.xs).length = true := len_ok (by simp; omega)
    simp only [biW, Bt.v, itemsOf, newL, this, Out.chk]
  refine sat_of e ?_
  refine sat_mono (ask_is S (b := false) ⟨okN_w (w := .ref M.length) (show ∃ ws, (M ++ [Ob.lst (Wv.str t.w :: .int t.d :: t.xs)])[M.length]? = some (Ob.lst ws) from ⟨_, at_new ..⟩) (fun ws e => by cases e) 3, rfl⟩) fun v A ⟨hv, pA⟩ => ?_
  subst hv
  rw [c_isn]
  refine ⟨true, rfl, false, rfl, ?_⟩
  simp only []
  rw [b_f, q_nil, k_nx]
  exact l7_ok S h
theorem shorter (S : List Int) (M : Mem) {t : Bt} (h : GB t) : OkN S M 3 (.tup (Wv.str t.w :: .int t.d :: t.xs).dropLast) ∧ truthB 3 (.tup (Wv.str t.w :: .int t.d :: t.xs).dropLast) = false := by
  obtain ⟨l1, l2⟩ := gb_len h
  have e : (Wv.str t.w :: .int t.d :: t.xs).dropLast = Wv.str t.w :: .int t.d :: t.xs.dropLast := by
    cases hx : t.xs with
    | nil => rw [hx] at l1; simp at l1
    | cons x xs => rfl
  rw [e]
  refine ⟨okN_d (okT_tup (by simp; omega) fun w hw => fit_of S M (gb_fit h w ?_)) 3, truth_len h (by simp; omega)⟩
  rw [← e] at hw
  exact List.dropLast_subset _ hw
theorem longer (S : List Int) (M : Mem) {t : Bt} (h : GB t) : OkN S M 3 (.tup ((Wv.str t.w :: .int t.d :: t.xs) ++ [.int 0])) ∧ truthB 3 (.tup ((Wv.str t.w :: .int t.d :: t.xs) ++ [.int 0])) = false := by
  obtain ⟨l1, l2⟩ := gb_len h
  refine ⟨okN_d (okT_tup (by simp; omega) fun w hw => fit_of S M ?_) 3, truth_len h (by simp)⟩
  have hw : w ∈ (Wv.str t.w :: .int t.d :: t.xs) ++ [.int 0] := hw
  rcases List.mem_append.mp hw with hw | hw
  · exact gb_fit h w hw
  · rw [List.mem_singleton.mp hw]; exact fit_int _
theorem l5_ok (S : List Int) {M : Mem} {t : Bt} (h : GB t) {x0 x1 x2 x3 x4 x5 x7 x8 x9 x10 : Option Wv} : Run S lt5 [x0, x1, x2, x3, x4, x5, some t.v, x7, x8, x9, x10] M QR := by
  have hz : 1001 ≤ sizeLine := by decide
  have l2 := (gb_len h).2
  unfold Run lt5
  rw [q_cons]
  unfold lx5
  rw [q_ifs, q_or, q_cmp, q_call, q_acons]
  have e1 : evE (Gp S) (callN (Gp S) fuel 9) (callN (Gp S) fuel 8) (.slc (.var 6) .no (.neg (.con (.int 1)))) [x0, x1, x2, x3, x4, x5, some t.v, x7, x8, x9, x10] M = .ok (.tup (Wv.str t.w :: .int t.d :: t.xs).dropLast) M := by
    have c := cut_last (Wv.str t.w :: .int t.d :: t.xs) (by simp)
    have nn : (Ex.neg (.con (.int 1))).isNo = false := rfl
    simp only [evE, getV_0, getV_s, Out.ofO, Bt.v, Out.bind_ok, no_no, nn, if_true, Bool.false_eq_true, if_false, toI, Option.map_some, slcW, c]
  refine sat_of e1 ?_
  simp only [q_anil, List.append_nil, q_con]
  refine sat_mono (ask_is S (shorter S M h)) fun v A ⟨hv, pA⟩ => ?_
  subst hv
  rw [c_isn]
  refine ⟨true, rfl, false, rfl, ?_⟩
  simp only []
  rw [bo_f, q_cmp, q_call, q_acons]
  simp only [q_bin, q_var, q_tup, q_acons, q_anil, q_con, getV_0, getV_s, sat_some, List.append_nil]
  refine ⟨len_ok (by decide), ?_⟩
  have e2 : binW .add t.v (.tup [.int 0]) A = .ok (.tup ((Wv.str t.w :: .int t.d :: t.xs) ++ [.int 0])) A := by
    have : lenOk ((Wv.str t.w :: .int t.d :: t.xs).length + 1) = true := len_ok (by simp; omega)
    simp only [Bt.v, binW, List.length_cons, List.length_nil, Nat.zero_add] at this ⊢
    simp only [this, Out.chk]
  refine sat_of e2 ?_
  refine sat_mono (ask_is S (longer S A h)) fun v B ⟨hv, pB⟩ => ?_
  subst hv
  rw [c_isn]
  refine ⟨true, rfl, false, rfl, ?_⟩
  simp only []
  rw [b_f, q_nil, k_nx]
  exact l6_ok S h
/-- one part, ten odd things -/
theorem ten_ok (S : List Int) {M : Mem} {t : Bt} (h : GB t) {j : Nat} (hj : j < t.xs.length + 2) {x0 x1 x2 x3 x4 x5 x8 x9 x10 : Option Wv} : Run S lb4 [x0, x1, x2, x3, x4, x5, some t.v, some (.int (j : Int)), x8, x9, x10] M fun q M' => M <+: M' ∧ ∃ x8, q = (.nx, [x0, x1, x2, x3, x4, x5, some t.v, some (.int (j : Int)), x8, x9, x10]) := by
  have l2 := (gb_len h).2
  unfold Run lb4
  rw [q_cons, q_for, q_ival]
  unfold tenX
  simp only [q_tup, q_lst, q_acons, q_anil, q_con, q_neg, i_int, Option.map_some, sat_some]
  refine ⟨len_ok (by decide), len_ok (by decide), len_ok (show 10 ≤ sizeLine by decide), ?_⟩
  simp only [walkV, sat_some]
  have hlk : ∀ N : Mem, lockM [] N = N := fun _ => rfl
  have hul : ∀ N : Mem, unlkM [] N = N := fun _ => rfl
  simp only [hlk, hul]
  generalize hM1 : M ++ [Ob.lst [Wv.str "a"]] = M1
  have p1 : M <+: M1 := by rw [← hM1]; exact List.prefix_append _ _
  have hl1 : M1[M.length]? = some (.lst [.str "a"]) := by rw [← hM1]; exact at_new ..
  refine sat_mono (for_rule (Q := fun q M' => M <+: M' ∧ ∃ x8, q = (.nx, [x0, x1, x2, x3, x4, x5, some t.v, some (.int (j : Int)), x8, x9, x10]))
    (fun pre post σ M' => M1 <+: M' ∧ (∀ x ∈ post, Odd10 M1 x) ∧ ∃ x8, σ = [x0, x1, x2, x3, x4, x5, some t.v, some (.int (j : Int)), x8, x9, x10]) ?_ ?_ _ [] _ _ ⟨List.prefix_refl _, fun x hx => ?_, x8, rfl⟩) fun q M2 ⟨p2, y8, hq⟩ => ?_
  · rintro pre x post σ M' ⟨pM, ho, y8, rfl⟩
    refine ⟨rfl, _, rfl, ?_⟩
    have hx := (ho x (List.mem_cons_self ..)).mono pM
    show (evSl _ _ _ _ lb5 [x0, x1, x2, x3, x4, x5, some t.v, some (.int (j : Int)), some x, x9, x10] M').sat _
    unfold lb5
    rw [q_cons, q_ifs, q_cmp, q_call, q_acons]
    unfold spX
    refine sat_of (ev_spl (ws := Wv.str t.w :: .int t.d :: t.xs) (j := j) (x := x) (by simp only [evE, getV_0, getV_s, Out.ofO, Bt.v]) (by simp only [evE, getV_0, getV_s, Out.ofO]) (by simp only [evE, getV_0, getV_s, Out.ofO]) (by simp only [evE, getV_0, getV_s, Out.ofO, Out.bind_ok, binW]; rfl) rfl rfl (by simpa using hj) (by simp; omega)) ?_
    simp only [q_anil, List.append_nil, q_con]
    refine sat_mono (ask_is S (spoilt S h hx hj)) fun v A ⟨hv, pA⟩ => ?_
    subst hv
    rw [c_isn]
    refine ⟨true, rfl, false, rfl, ?_⟩
    simp only []
    rw [b_f, q_nil, k_nx, q_nil]
    exact ⟨pM.trans pA, fun x hx => ho x (List.mem_cons_of_mem _ hx), _, rfl⟩
  · rintro pre σ M' ⟨pM, ho, y8, rfl⟩
    exact ⟨rfl, p1.trans pM, y8, rfl⟩
  · simp only [List.mem_cons, List.not_mem_nil, or_false] at hx
    rcases hx with rfl | rfl | rfl | rfl | rfl | rfl | rfl | rfl | rfl | rfl
    · exact .inl (by simp [odds])
    · exact .inl (by simp [odds])
    · exact .inl (by simp [odds])
    · exact .inl (by simp [odds])
    · exact .inl (by simp [odds])
    · exact .inl (by simp [odds])
    · exact .inl (by simp [odds])
    · exact .inl (by simp [odds])
    · exact .inr ⟨_, rfl, hl1⟩
    · exact .inl (by simp [odds])
  · subst hq
    rw [k_nx, q_nil]
    exact ⟨p2, y8, rfl⟩
theorem l4_ok (S : List Int) {M : Mem} {t : Bt} (h : GB t) {x0 x1 x2 x3 x4 x5 x7 x8 x9 x10 : Option Wv} : Run S lt4 [x0, x1, x2, x3, x4, x5, some t.v, x7, x8, x9, x10] M QR := by
  obtain ⟨l1, l2⟩ := gb_len h
  unfold Run lt4
  rw [q_cons]
  unfold lx4
  rw [q_for, q_rng]
  have hv : t.v = .tup (.str t.w :: .int t.d :: t.xs) := rfl
  simp only [q_con, q_bi, q_acons, q_anil, q_var, getV_0, getV_s, sat_some]
  rw [hv, n_tup]
  simp only [i_int, sat_some, List.length_cons]
  have hlk : ∀ N : Mem, lockM [] N = N := fun _ => rfl
  have hul : ∀ N : Mem, unlkM [] N = N := fun _ => rfl
  refine ⟨rng10 (by omega) (by omega) (by omega) (by omega), ?_⟩
  rw [rng_eq 0 _ (t.xs.length + 2) (by omega)]
  simp only [hlk, hul]
  rw [← hv]
  refine sat_mono (for_rule (Q := fun q M' => ∃ x7 x8, q = (.nx, [x0, x1, x2, x3, x4, x5, some t.v, x7, x8, x9, x10]))
    (fun pre post σ M' => (∀ x ∈ post, ∃ j : Nat, j < t.xs.length + 2 ∧ x = .int (j : Int)) ∧ ∃ x7 x8, σ = [x0, x1, x2, x3, x4, x5, some t.v, x7, x8, x9, x10]) ?_ ?_ _ [] _ _ ⟨fun x hx => ?_, x7, x8, rfl⟩) fun q M2 ⟨y7, y8, hq⟩ => ?_
  · rintro pre x post σ M' ⟨ho, y7, y8, rfl⟩
    obtain ⟨j, hj, rfl⟩ := ho x (List.mem_cons_self ..)
    refine ⟨rfl, _, rfl, ?_⟩
    refine sat_mono (ten_ok S h hj) fun q A ⟨pA, z8, hq⟩ => ?_
    subst hq
    exact ⟨fun x hx => ho x (List.mem_cons_of_mem _ hx), _, _, rfl⟩
  · rintro pre σ M' ⟨ho, y7, y8, rfl⟩
    exact ⟨rfl, y7, y8, rfl⟩
  · obtain ⟨j, hj, rfl⟩ := List.mem_map.mp hx
    exact ⟨j, by simpa using hj, by rw [Int.zero_add]⟩
  · subst hq
    rw [k_nx]
    exact l5_ok S h
end Bh
end
section
set_option Elab.async false
set_option linter.all false
set_option maxRecDepth 100000
set_option maxHeartbeats 0
namespace Bh
open PySem MP
/-! ### the law: from its beginning -/
theorem l3_ok (S : List Int) (hl : S.length ≤ 63) {M : Mem} {p : Nat} {ts : List Bt} (hp : M[p]? = some (.lst (ts.map Bt.v))) (h0 : 0 < ts.length) (h : ∀ t ∈ ts, GB t) {x1 x2 x3 x4 x6 x7 x8 x9 x10 : Option Wv} : Run S lt3 [some .scr, x1, x2, x3, x4, some (.ref p), x6, x7, x8, x9, x10] M QR := by
  unfold Run lt3
  rw [q_cons]
  unfold lx3
  rw [q_asg, q_sub]
  simp only [q_var, getV_0, getV_s, sat_some, q_call, q_acons, q_anil, q_con, q_bi, List.append_nil]
  refine sat_of (n_lenL (Gp S) p _ hp) ?_
  rw [List.length_map]
  refine sat_mono (drawn_ok S hl 8 1 (ts.length : Int) (by omega) (by omega) M) fun v A ⟨pA, r, hv, r0, r1⟩ => ?_
  subst hv
  obtain ⟨y, hy, ey⟩ := at_mem (xs := ts.map Bt.v) r0 (by rw [List.length_map]; exact r1)
  obtain ⟨t, ht, rfl⟩ := List.mem_map.mp hy
  refine sat_of (sub_lst (pre_get pA hp) ey) ?_
  simp only [tg_nm, sat_some, List.set_cons_zero, List.set_cons_succ, k_nx]
  exact l4_ok S (h t ht)
def noVd (v : Wv) : Bool := match v with
  | .tup (.str z :: _) => !decide (z = ("void" : Str))
  | _ => false
theorem plain_filter : ∀ {its : List Vi}, ViOk its → ∃ ts : List Bt, ((its.map Vi.w).filter noVd).map id = ts.map Bt.v ∧ (∀ t ∈ ts, GB t) ∧ ((∃ i ∈ its, i.1 = 0) → 0 < ts.length)
  | [], _ => ⟨[], rfl, fun t ht => (by cases ht), fun ⟨i, hi, _⟩ => (by cases hi)⟩
  | (n, t) :: its, h => by
    obtain ⟨ts, e, g, z⟩ := plain_filter (its := its) fun i hi => h i (List.mem_cons_of_mem _ hi)
    obtain ⟨hn, hg⟩ := h (n, t) (List.mem_cons_self ..)
    cases n with
    | zero =>
      refine ⟨t :: ts, ?_, fun u hu => ?_, fun _ => by simp⟩
      · have hv : noVd (Vi.w (0, t)) = true := by
          show (!decide (t.w = ("void" : Str))) = true
          rw [decide_eq_false (gb_nv hg)]; rfl
        rw [List.map_cons, List.filter_cons_of_pos hv, List.map_cons, e]
        rfl
      · rcases List.mem_cons.mp hu with rfl | hu
        · exact hg
        · exact g u hu
    | succ n =>
      refine ⟨ts, ?_, g, fun ⟨i, hi, h0⟩ => z ?_⟩
      · have hv : ¬ noVd (Vi.w (n + 1, t)) = true := by
          show ¬ (!decide (("void" : Str) = ("void" : Str))) = true
          rw [decide_eq_true rfl]; decide
        rw [List.map_cons, List.filter_cons_of_neg hv, e]
      · rcases List.mem_cons.mp hi with rfl | hi
        · cases h0
        · exact ⟨i, hi, h0⟩
theorem l2_ok (S : List Int) (hl : S.length ≤ 63) {M : Mem} {y : Nat} {its : List Vi} (hy : M[y]? = some (.lst (its.map Vi.w))) (hn : its.length ≤ 20) (h0 : ∃ i ∈ its, i.1 = 0) (h : ViOk its) {x2 x3 x4 x5 x6 x7 x8 x9 x10 : Option Wv} : Run S lt2 [some .scr, some (.ref y), x2, x3, x4, x5, x6, x7, x8, x9, x10] M QR := by
  have hz : 1001 ≤ sizeLine := by decide
  unfold Run lt2
  rw [q_cons]
  unfold lx2
  rw [q_asg, q_lc]
  simp only [q_ival, q_var, getV_0, getV_s, sat_some, walk_lst hy, lock_lst, unlk_lst]
  obtain ⟨ts, e, g, z⟩ := plain_filter h
  refine sat_of (lc_pure (G := Gp S) noVd id (stays_lst hy) (by rw [List.length_map]; omega) fun x hx => ?_) ?_
  · obtain ⟨⟨n, t⟩, hi, rfl⟩ := List.mem_map.mp hx
    obtain ⟨_, hg⟩ := h _ hi
    refine ⟨_, rfl, ?_, fun _ => ?_⟩
    · refine ⟨.bl (noVd (Vi.w (n, t))), sat_eq ?_, rfl⟩
      show (evE (Gp S) _ _ _ [some .scr, some (.ref y), some (Vi.w (n, t)), x3, x4, x5, x6, x7, x8, x9, x10] M).sat _
      cases n with
      | zero =>
        have ev : Vi.w (0, t) = .tup (.str t.w :: .int t.d :: t.xs) := rfl
        rw [ev]
        simp only [q_cmp, q_sub, q_var, q_con, getV_0, getV_s, sat_some, u_tup, at_0, c_ne]
        exact ⟨_, eqW_str hg.1.ok.sh (by decide +kernel), rfl, by first | rfl | trivial⟩
      | succ n =>
        have ev : Vi.w (n + 1, t) = .tup [.str "void", vdN n t.v] := rfl
        rw [ev]
        simp only [q_cmp, q_sub, q_var, q_con, getV_0, getV_s, sat_some, u_tup, at_0, c_ne]
        exact ⟨_, eqW_str (by decide +kernel) (by decide +kernel), rfl, by first | rfl | trivial⟩
    · show evE (Gp S) _ _ (.var 2) [some .scr, some (.ref y), some (Vi.w (n, t)), x3, x4, x5, x6, x7, x8, x9, x10] M = _
      simp only [evE, getV_0, getV_s, Out.ofO, id]
  · rw [e]
    simp only [tg_nm, sat_some, List.set_cons_zero, List.set_cons_succ, k_nx]
    exact l3_ok S hl (at_new ..) (z h0) g
/-- a truth and five voids of it -/
theorem five_ok (S : List Int) {M : Mem} {t : Bt} (h : GB t) {n : Nat} (hn : n ≤ 3) {x0 x1 x3 x4 x5 x6 x7 x8 x9 x10 : Option Wv} : Run S lbA [x0, x1, some (vdN n t.v), x3, x4, x5, x6, x7, x8, x9, x10] M fun q M' => M <+: M' ∧ ∃ x2 x3 x4, q = (.nx, [x0, x1, x2, x3, x4, x5, x6, x7, x8, x9, x10]) := by
  unfold Run lbA
  rw [q_cons, q_asg, q_bm]
  simp only [q_bi, q_acons, q_anil, q_var, q_con, getV_0, getV_s, sat_some]
  refine sat_of (str_ok S h.1 n hn M) ?_
  refine ⟨rfl, ?_⟩
  have ec : bmW .scount (.str (dat (vdN n t.v)).shown) [.str "void"] M = .ok (.int (Txt.count (dat (vdN n t.v)).shown "void")) M := rfl
  refine sat_of ec ?_
  rw [cnt_exact h n]
  simp only [tg_nm, sat_some, List.set_cons_zero, List.set_cons_succ, k_nx]
  rw [q_cons, q_for, q_rng]
  simp only [q_con, i_int, sat_some]
  refine ⟨by decide, ?_⟩
  rw [rng_eq 0 5 5 (by omega)]
  have hlk : ∀ N : Mem, lockM [] N = N := fun _ => rfl
  have hul : ∀ N : Mem, unlkM [] N = N := fun _ => rfl
  simp only [hlk, hul]
  refine sat_mono (for_rule (Q := fun q M' => M <+: M' ∧ ∃ x2 x3 x4, q = (.nx, [x0, x1, x2, x3, x4, x5, x6, x7, x8, x9, x10]))
    (fun pre post σ M' => M <+: M' ∧ ∃ (m : Nat) (x4 : Option Wv), m + post.length = n + 5 ∧ σ = [x0, x1, some (vdN m t.v), some (.int (m : Int)), x4, x5, x6, x7, x8, x9, x10]) ?_ ?_ _ [] _ _ ⟨List.prefix_refl _, n, x4, rfl, rfl⟩) fun q M2 ⟨p2, y2, y3, y4, hq⟩ => ?_
  · rintro pre x post σ M' ⟨pM, m, y4, hm, rfl⟩
    simp only [List.length_cons] at hm
    refine ⟨rfl, _, rfl, ?_⟩
    show (evSl _ _ _ _ lbA2 [x0, x1, some (vdN m t.v), some (.int (m : Int)), some x, x5, x6, x7, x8, x9, x10] M').sat _
    unfold lbA2
    rw [q_cons, q_ifs, q_cmp, q_call, q_acons]
    simp only [q_cmp, q_var, q_con, q_anil, getV_0, getV_s, sat_some, List.append_nil, c_le]
    refine sat_mono (ask_is S (b := decide (m ≤ 3)) ⟨okN_vd S M' h m 3 (by omega), truth_vd h.2.1 3 m⟩) fun v A ⟨hv, pA⟩ => ?_
    subst hv
    rw [c_ne]
    have ed : decide ((m : Int) ≤ 3) = decide (m ≤ 3) := by
      rw [Bool.eq_iff_iff, decide_eq_true_eq, decide_eq_true_eq]; omega
    rw [ed]
    refine ⟨true, ?_, false, rfl, ?_⟩
    · exact eqW_same (d := .bool (decide (m ≤ 3))) (by simp only [deepD, toD]) (by simp only [deepD, toD]) rfl
    simp only []
    rw [b_f, q_nil, k_nx, q_cons, q_asg]
    simp only [q_tup, q_acons, q_anil, q_con, q_var, q_bin, getV_0, getV_s, sat_some, o_add]
    refine ⟨len_ok (show 2 ≤ sizeLine by decide), len_ok (show 2 ≤ sizeLine by decide), ?_⟩
    simp only [tg_2, sat_some, List.set_cons_zero, List.set_cons_succ, k_nx, q_nil]
    exact ⟨pM.trans pA, m + 1, _, by omega, rfl⟩
  · rintro pre σ M' ⟨pM, m, y4, hm, rfl⟩
    exact ⟨rfl, pM, _, _, _, rfl⟩
  · subst hq
    rw [k_nx, q_nil]
    exact ⟨p2, _, _, _, rfl⟩
theorem l1_ok (S : List Int) (hl : S.length ≤ 63) {M : Mem} {y : Nat} {its : List Vi} (hy : M[y]? = some (.lst (its.map Vi.w))) (hn : its.length ≤ 20) (h0 : ∃ i ∈ its, i.1 = 0) (h : ViOk its) {x2 x3 x4 x5 x6 x7 x8 x9 x10 : Option Wv} : Run S lt1 [some .scr, some (.ref y), x2, x3, x4, x5, x6, x7, x8, x9, x10] M QR := by
  unfold Run lt1
  rw [q_cons]
  unfold lx1
  rw [q_for]
  simp only [q_ival, q_var, getV_0, getV_s, sat_some, walk_lst hy, lock_lst, unlk_lst]
  refine sat_mono (for_rule (Q := fun q M' => M <+: M' ∧ ∃ x2 x3 x4, q = (.nx, [some .scr, some (.ref y), x2, x3, x4, x5, x6, x7, x8, x9, x10]))
    (fun pre post σ M' => M <+: M' ∧ (∀ x ∈ post, ∃ i : Vi, i.1 ≤ 3 ∧ GB i.2 ∧ x = i.w) ∧ ∃ x2 x3 x4, σ = [some .scr, some (.ref y), x2, x3, x4, x5, x6, x7, x8, x9, x10]) ?_ ?_ _ [] _ _ ⟨List.prefix_refl _, fun x hx => ?_, x2, x3, x4, rfl⟩) fun q M2 ⟨p2, y2, y3, y4, hq⟩ => ?_
  · rintro pre x post σ M' ⟨pM, ho, y2, y3, y4, rfl⟩
    obtain ⟨i, h1, h2, rfl⟩ := ho x (List.mem_cons_self ..)
    refine ⟨stays_lst (pre_get pM hy), _, rfl, ?_⟩
    refine sat_mono (five_ok S h2 h1) fun q A ⟨pA, z2, z3, z4, hq⟩ => ?_
    subst hq
    exact ⟨pM.trans pA, fun x hx => ho x (List.mem_cons_of_mem _ hx), z2, z3, z4, rfl⟩
  · rintro pre σ M' ⟨pM, ho, y2, y3, y4, rfl⟩
    exact ⟨stays_lst (pre_get pM hy), pM, _, _, _, rfl⟩
  · obtain ⟨i, hi, rfl⟩ := List.mem_map.mp hx
    exact ⟨i, (h i hi).1, (h i hi).2, rfl⟩
  · subst hq
    rw [k_nx]
    exact l2_ok S hl (pre_get p2 hy) hn h0 h
theorem law_ok (S : List Int) (hl : S.length ≤ 63) : ∃ M, callN (Gp S) fuel 10 ix_law [.scr] [] = .ok (.bl true) M := by
  have key : (callN (Gp S) fuel 10 ix_law [.scr] []).sat fun v _ => v = .bl true := by
    rw [at_law]
    refine run_sat rfl ?_
    show (evSl (Gp S) (callN (Gp S) fuel 9) (callN (Gp S) fuel 8) fuel sl_law [some .scr, none, none, none, none, none, none, none, none, none, none] []).sat QR
    rw [law_eq]
    unfold lt0
    rw [q_cons]
    unfold lx0
    simp only [q_asg, q_call, q_acons, q_anil, q_var, q_con, getV_0, getV_s, sat_some, List.append_nil]
    refine sat_mono (law_all_ok S hl 4 10 5 (by omega) (by omega) (by omega) []) fun v A ⟨pA, y, its, hv, _, hok, hlen, h0, hy⟩ => ?_
    subst hv
    simp only [tg_nm, sat_some, List.set_cons_zero, List.set_cons_succ, k_nx]
    exact l1_ok S hl hy (by omega) h0 hok
  obtain ⟨v, M, e, rfl⟩ := sat_ex key
  exact ⟨M, e⟩
end Bh
end
set_option Elab.async false
set_option maxRecDepth 100000 in
set_option maxHeartbeats 0 in
theorem PySem.Challenge.cw_basinhouse_k01_truths_holds : PySem.Challenge.rw_basinhouse_k01_truths.Holds := by
  exact Bh.holds_of fun S h1 _ => Bh.law_ok S h1
