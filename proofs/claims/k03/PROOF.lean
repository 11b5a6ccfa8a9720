import PyProof.Rows.All
import Wide.All
import OpenK.AllK
import Wide.FinOn
import KE.SortData
import KE.DataMinMax
import KE.KeyNested
import HandS.HeadHook4
import HandS.Head2
import KE.KStateDown
import HandS.Head0
import HandS.Head1
import HandS.HeadEnd
import HandS.HeadWalk
import HandS.Words
import HandS.ForMost
import HandS.Defaults
import HandS.Lambda
import HandS.WordsExc
import KE.KDictKeyed
import HandS.TupAny
import HandS.Wide
import HandS.Deep
import HandS.Style
import HandS.Text
import HandS.IsInst
import KE.KDictCopyH
import HandS.TupLen
import KE.KDictSum
import PyProof.Claim2Refuses
import HandS.Flt
import HandS.More
import KE.DataFind
import PyProof.ReprRoads
import HandS.Flow
import HandS.Exc
import HandS.ExcOwn
import HandS.CallSlots
import KE.KDictWalk
import HandS.Iter
import HandS.DictComp
import KE.SortKeyHeap
import KE.KNestM
import KE.KDictDisplayH
import KE.DataMinKey
import KE.DataEq
import HandS.Set
import HandS.Strs
import PyProof.CollectStr
import HandS.ExcIs
import HandS.Zip
import HandS.SetFor
import OpenK.KOps
import HandS.TupSets
import PySem.Challenge.RW_basinhouse_k03_whole_worlds
section
set_option Elab.async false
set_option linter.all false
set_option maxRecDepth 100000
namespace MP
open PySem
inductive Wv where
  | non | bl (b : Bool) | int (i : Int) | str (s : Str) | tup (ws : List Wv) | ref (l : Nat) | scr
namespace Wv
mutual
def beq : Wv → Wv → Bool
  | .non, .non => true
  | .bl a, .bl b => decide (a = b)
  | .int a, .int b => decide (a = b)
  | .str a, .str b => decide (a = b)
  | .tup a, .tup b => beqs a b
  | .ref a, .ref b => decide (a = b)
  | .scr, .scr => true
  | _, _ => false
def beqs : List Wv → List Wv → Bool
  | [], [] => true
  | a :: as, b :: bs => beq a b && beqs as bs
  | _, _ => false
end
mutual
theorem beq_self : ∀ a : Wv, beq a a = true
  | .non => rfl
  | .bl a => by simp [beq]
  | .int a => by simp [beq]
  | .str a => by simp [beq]
  | .tup a => by rw [beq]; exact beqs_self a
  | .ref a => by simp [beq]
  | .scr => rfl
theorem beqs_self : ∀ a : List Wv, beqs a a = true
  | [] => rfl
  | a :: as => by rw [beqs, beq_self a, beqs_self as]; rfl
end
mutual
theorem eq_of_beq : ∀ a b : Wv, beq a b = true → a = b
  | .non, b, h => by cases b <;> simp [beq] at h ⊢
  | .bl a, b, h => by cases b <;> simp [beq] at h ⊢; exact h
  | .int a, b, h => by cases b <;> simp [beq] at h ⊢; exact h
  | .str a, b, h => by cases b <;> simp [beq] at h ⊢; exact h
  | .tup a, b, h => by
    cases b with
    | tup b => simp only [beq] at h; rw [eqs_of_beqs a b h]
    | _ => simp [beq] at h
  | .ref a, b, h => by cases b <;> simp [beq] at h ⊢; exact h
  | .scr, b, h => by cases b <;> simp [beq] at h ⊢
theorem eqs_of_beqs : ∀ a b : List Wv, beqs a b = true → a = b
  | [], b, h => by cases b with
    | nil => rfl
    | cons _ _ => simp [beqs] at h
  | a :: as, b, h => by
    cases b with
    | nil => simp [beqs] at h
    | cons b bs =>
      rw [beqs, Bool.and_eq_true] at h
      rw [eq_of_beq a b h.1, eqs_of_beqs as bs h.2]
end
instance : DecidableEq Wv := fun a b => if h : beq a b = true then .isTrue (eq_of_beq a b h) else .isFalse fun e => h (e ▸ beq_self a)
end Wv
inductive Ob where
  | lst (ws : List Wv) | dct (z : Bool) (kvs : List (Wv × Wv)) | ins (c : Nat) (fs : List (Str × Wv))
  deriving DecidableEq
abbrev Mem := List Ob
inductive Out (α : Type) where
  | ok (a : α) (M : Mem) | exc (c : Nat) (M : Mem) | bad
def Out.bind {α β : Type} (x : Out α) (f : α → Mem → Out β) : Out β := match x with
  | .ok a M => f a M
  | .exc c M => .exc c M
  | .bad => .bad
@[simp] theorem Out.bind_ok {α β : Type} (a : α) (M : Mem) (f : α → Mem → Out β) : (Out.ok a M).bind f = f a M := rfl
@[simp] theorem Out.bind_exc {α β : Type} (c : Nat) (M : Mem) (f : α → Mem → Out β) : (Out.exc c M).bind f = .exc c M := rfl
@[simp] theorem Out.bind_bad {α β : Type} (f : α → Mem → Out β) : (Out.bad).bind f = (.bad : Out β) := rfl
def Out.ofO {α : Type} (x : Option α) (M : Mem) : Out α := match x with
  | some a => .ok a M
  | none => .bad
def Out.chk {α : Type} (b : Bool) (x : Out α) : Out α := match b with
  | true => x
  | false => .bad
inductive Op where | add | sub | mul | fdiv | mod | pow
  deriving DecidableEq
inductive Cm where | eq | ne | lt | le | gt | ge | is_ | isn | in_ | nin | neL
  deriving DecidableEq
inductive Bi where | len | all | any | sum | min | max | sorted | abs | list | dict | tuple | str | int | sset | sorT | sseti | lset | kset
  deriving DecidableEq
inductive Bm where | append | get | scount | lcount | extend | insert | pop | lpop | split
  deriving DecidableEq
inductive Kd where | int | bool | str | tuple | list
  deriving DecidableEq
inductive Tg where | nm (i : Nat) | tup (is : List Nat) | nst (i : Nat) (js : List Nat)
  deriving DecidableEq
inductive Ke where
  | v | sub (k : Ke) (i : Nat) | tup (a b : Ke) | no | str
mutual
inductive Ex where
  | var (i : Nat)
  | con (w : Wv)
  | glb (x : Str)
  | tup (es : El) | lst (es : El) | dict0 | dlit (ks : List Str) (es : El)
  | bin (o : Op) (a b : Ex)
  | neg (a : Ex) | not (a : Ex)
  | and (a b : Ex) | or (a b : Ex)
  | ife (t a b : Ex)
  | cmp (c : Cm) (a b : Ex)
  | cmp2 (c d : Cm) (a b e : Ex)
  | attr (a : Ex) (f : Str)
  | sub (a i : Ex)
  | slc (a lo hi : Ex) | no
  | srev (z : Bool) (a : Ex)
  | call (f : Nat) (es : El) (ds : List Wv)
  | callk (f : Nat) (es : El) (k : Ex)
  | meth (m : Str) (a : Ex) (es : El) (ds : List Wv)
  | bm (m : Bm) (a : Ex) (es : El)
  | new (c : Nat) (es : El)
  | lenH (a : Ex)
  | bi (b : Bi) (es : El)
  | isi (k : Kd) (a : Ex)
  | lc (e : Ex) (t : Tg) (it : It) (c : Ex)
  | lc2 (e : Ex) (t : Tg) (it : It) (t2 : Tg) (it2 : It)
  | dc (k v : Ex) (t : Tg) (it : It) (c : Ex)
  | dc2 (k v : Ex) (t : Tg) (it : It) (t2 : Tg) (it2 : It)
  | sortk (a : Ex) (k : Ke)
  | sortv (a : Ex) (k : Ke)
  | maxk (a : Ex)
  | sortvM (a : Ex)
  | sortm (a : Ex)
  | cntT (a b : Ex)
  | tab (kvs : List (Str × Wv)) (a : Ex) | tnin (kvs : List (Str × Wv)) (a : Ex)
  | dict2 (k1 : Str) (v1 : Int) (k2 : Str) (v2 : Int)
inductive El where
  | nil | cons (e : Ex) (es : El)
inductive It where
  | val (e : Ex) | rng (a b : Ex) | rng3 (a b c : Ex) | items (e : Ex) | vals (e : Ex) | enum (e : Ex) | zip (a b : Ex) | zipT (a b : Ex)
end
mutual
inductive St where
  | asg (t : Tg) (e : Ex)
  | asgA (o : Ex) (f : Str) (e : Ex)
  | asgS (o i e : Ex)
  | aug (i : Nat) (p : Op) (e : Ex)
  | augA (o : Ex) (f : Str) (p : Op) (e : Ex)
  | ex (e : Ex)
  | ret (e : Ex)
  | retN | pass | brk | cont
  | ifs (t : Ex) (a b : Sl)
  | for_ (t : Tg) (it : It) (b : Sl)
  | whl (t : Ex) (b : Sl)
  | raise (c : Nat)
  | tryI (b : Sl) (cs : List Nat)
inductive Sl where
  | nil | cons (s : St) (r : Sl)
end
inductive Fl where | nx | brk | ct | ret (w : Wv)
mutual
/-- what a value reads as, to a depth -/
def toD (S : List Int) (M : Mem) : Nat → Wv → Option PyData
  | _, .non => some .none
  | _, .bl b => some (.bool b)
  | _, .int i => some (.int i)
  | _, .str s => some (.str s)
  | n + 1, .tup ws => (toDs S M n ws).map .tuple
  | 0, .tup _ => none
  | n + 1, .ref l => match M[l]? with
    | some (.lst ws) => (toDs S M n ws).map .list
    | _ => none
  | 0, .ref _ => none
  | _, .scr => some (.list (S.map .int))
def toDs (S : List Int) (M : Mem) : Nat → List Wv → Option (List PyData)
  | _, [] => some []
  | n, w :: ws => match toD S M n w, toDs S M n ws with
    | some d, some ds => some (d :: ds)
    | _, _ => none
end
abbrev deepD : Nat := 12
mutual
/-- a key: a number, a text, a tuple of such and None -/
def keyTup : Nat → List Wv → Bool
  | _, [] => true
  | n, w :: ws => keyIn n w && keyTup n ws
def keyIn : Nat → Wv → Bool
  | _, .int _ => true
  | _, .str _ => true
  | _, .non => true
  | n + 1, .tup ws => keyTup n ws
  | _, _ => false
end
def keyA : Wv → Bool
  | .int _ => true
  | .str _ => true
  | _ => false
def keyT : Wv → Bool
  | .tup ws => keyTup 7 ws
  | _ => false
def keyOk (kvs : List (Wv × Wv)) (k : Wv) : Bool := (keyA k && kvs.all fun p => keyA p.1) || (keyT k && kvs.all fun p => keyT p.1)
def dget (kvs : List (Wv × Wv)) (k : Wv) : Option Wv := match kvs with
  | [] => none
  | p :: r => if p.1 = k then some p.2 else dget r k
def dput (kvs : List (Wv × Wv)) (k v : Wv) : List (Wv × Wv) := match kvs with
  | [] => [(k, v)]
  | p :: r => if p.1 = k then (p.1, v) :: r else p :: dput r k v
def putF (f : Str) (v : Wv) : List (Str × Wv) → List (Str × Wv)
  | [] => [(f, v)]
  | p :: r => if p.1 = f then (f, v) :: r else p :: putF f v r
structure Cl where
  meths : List (Str × Nat)
  init : Nat
structure Df where
  slots : Nat
  npar : Nat
  dfl : List Wv
  body : Sl
structure Pg where
  S : List Int
  con : Str → Option Wv
  cls : Nat → Option Cl
  df : Nat → Option Df
section
variable (G : Pg)
def lenOk (n : Nat) : Bool := decide (n ≤ sizeLine)
def mulOk (i j : Int) : Bool := decide (i.natAbs < 2 ^ 62) || decide (j.natAbs < 2 ^ 62)
def binW (o : Op) (x y : Wv) (M : Mem) : Out Wv := match o, x, y with
  | .add, .int i, .int j => .ok (.int (i + j)) M
  | .add, .str i, .str j => .chk (lenOk (i.length + j.length)) (.ok (.str (i ++ j)) M)
  | .add, .tup a, .tup b => .chk (lenOk (a.length + b.length)) (.ok (.tup (a ++ b)) M)
  | .add, .ref a, .ref b => match M[a]?, M[b]? with
    | some (.lst xs), some (.lst ys) => .chk (lenOk (xs.length + ys.length)) (.ok (.ref M.length) (M ++ [.lst (xs ++ ys)]))
    | _, _ => .bad
  | .sub, .int i, .int j => .ok (.int (i - j)) M
  | .mul, .int i, .int j => .chk (mulOk i j) (.ok (.int (i * j)) M)
  | .mul, .ref l, .int n => match M[l]? with
    | some (.lst xs) => .chk (decide (0 ≤ n) && decide (n ≤ 1000) && lenOk (xs.length * n.toNat)) (.ok (.ref M.length) (M ++ [.lst (List.replicate n.toNat xs).flatten]))
    | _ => .bad
  | .fdiv, .int i, .int j => .chk (decide (0 < j) && decide (j < 2 ^ 200)) (.ok (.int (i / j)) M)
  | .mod, .int i, .int j => .chk (decide (0 < j)) (.ok (.int (i % j)) M)
  | .pow, .int i, .int j => .chk (decide (0 ≤ j) && decide (j ≤ 1000) && decide (i.natAbs < 2 ^ 62)) (.ok (.int (i ^ j.toNat)) M)
  | _, _, _ => .bad
def truW (x : Wv) (M : Mem) : Option Bool := match x with
  | .non => some false
  | .bl b => some b
  | .int i => some (i != 0)
  | .str s => if s.length ≤ sizeLine then some (s.length != 0) else none
  | .tup ws => some (!ws.isEmpty)
  | .ref l => match M[l]? with
    | some (.lst ws) => some (!ws.isEmpty)
    | _ => none
  | .scr => some (!G.S.isEmpty)
def eqW (x y : Wv) (M : Mem) : Option Bool := match toD G.S M deepD x, toD G.S M deepD y with
  | some d, some e => if SeqAt.shaped d && SeqAt.shaped e then some (PyData.eqv d e) else none
  | _, _ => none
def ltW (x y : Wv) : Option Bool := match x, y with
  | .int i, .int j => some (decide (i < j))
  | .str i, .str j => some (decide (i.cps.toList < j.cps.toList))
  | _, _ => none
def leW (x y : Wv) : Option Bool := match x, y with
  | .int i, .int j => some (decide (i ≤ j))
  | _, _ => none
def flatW : Wv → Bool
  | .non => true
  | .bl _ => true
  | .int _ => true
  | .str _ => true
  | _ => false
def mapO {α β : Type} (f : α → Option β) : List α → Option (List β)
  | [] => some []
  | a :: r => match f a, mapO f r with
    | some b, some bs => some (b :: bs)
    | _, _ => none
def flatD : Wv → PyData
  | .bl b => .bool b
  | .int i => .int i
  | .str s => .str s
  | _ => .none
def inLst (x : Wv) (ws : List Wv) (M : Mem) : Option Bool := match toD G.S M deepD x, toDs G.S M deepD ws with
  | some d, some ds => if SeqAt.shaped d && SeqAt.shaped (.list ds) then some (ds.any fun e => PyData.eqv e d) else none
  | _, _ => none
def inW (x y : Wv) (M : Mem) : Option Bool := match y with
  | .tup ws => if flatW x && ws.all flatW then some (ws.any fun e => PyData.eqv (flatD e) (flatD x)) else none
  | .str s => match x with
    | .str t => some (!(Builtin.Str.occurrences s t 0 s.length 1).isEmpty)
    | _ => none
  | .ref l => match M[l]? with
    | some (.lst ws) => inLst G x ws M
    | some (.dct _ kvs) => if keyOk kvs x then some (dget kvs x).isSome else none
    | _ => none
  | _ => none
def isW (x y : Wv) : Option Bool := match y with
  | .non => some (decide (x = .non))
  | .bl b => match x with
    | .bl c => some (decide (c = b))
    | _ => none
  | _ => none
def notO (x : Option Bool) : Option Bool := x.map (!·)
def neLW (x y : Wv) (M : Mem) : Option Bool := match x, y with
  | .ref l, .ref b => match M[l]?, M[b]? with
    | some (.lst ws), some (.lst []) => some (!ws.isEmpty)
    | _, _ => none
  | _, _ => none
def cmpW (c : Cm) (x y : Wv) (M : Mem) : Out Wv := (Out.ofO (match c with
  | .eq => eqW G x y M
  | .ne => notO (eqW G x y M)
  | .lt => ltW x y
  | .gt => ltW y x
  | .le => leW x y
  | .ge => leW y x
  | .is_ => isW x y
  | .isn => notO (isW x y)
  | .in_ => inW G x y M
  | .nin => notO (inW G x y M)
  | .neL => neLW x y M) M).bind fun b M => .ok (.bl b) M
def atI {α : Type} (xs : List α) (i : Int) : Option α := if 0 ≤ i then xs[i.toNat]? else if -(xs.length : Int) ≤ i then xs[(i + xs.length).toNat]? else none
def subW (x i : Wv) (M : Mem) : Out Wv := match x with
  | .tup ws => match i with
    | .int j => .ofO (atI ws j) M
    | _ => .bad
  | .str s => match i with
    | .int j => if s.length ≤ sizeLine then .ofO ((atI s.cps.toList j).map fun c => .str ⟨#[c]⟩) M else .bad
    | _ => .bad
  | .scr => match i with
    | .int j => .ofO ((atI G.S j).map .int) M
    | _ => .bad
  | .ref l => match M[l]? with
    | some (.lst ws) => (match i with
      | .int j => .ofO (atI ws j) M
      | _ => .bad)
    | some (.dct _ kvs) => .chk (keyOk kvs i) (.ofO (dget kvs i) M)
    | _ => .bad
  | _ => .bad
def sIx (n d : Nat) : Option Int → Nat
  | none => d
  | some i => if i < 0 then (i + n).toNat else min i.toNat n
def cut {α : Type} (xs : List α) (lo hi : Option Int) : List α := (xs.drop (sIx xs.length 0 lo)).take (sIx xs.length xs.length hi - sIx xs.length 0 lo)
def tabW (kvs : List (Str × Wv)) (x : Wv) (M : Mem) : Out Wv := match x with
  | .str z => .ofO (kvs.lookup z) M
  | _ => .bad
def tninW (kvs : List (Str × Wv)) (x : Wv) (M : Mem) : Out Wv := match x with
  | .str z => .ok (.bl (!(kvs.lookup z).isSome)) M
  | _ => .bad
def zipTW (x y : Wv) : Option (List Wv) := match x, y with
  | .tup ws, .tup us => some ((ws.zip us).map fun p => .tup [p.1, p.2])
  | _, _ => none
def slcW (x : Wv) (lo hi : Option Int) (M : Mem) : Out Wv := match x with
  | .tup ws => .ok (.tup (cut ws lo hi)) M
  | .str s => .chk (lenOk s.length) (.ok (.str ⟨(cut s.cps.toList lo hi).toArray⟩) M)
  | .ref l => match M[l]? with
    | some (.lst ws) => .ok (.ref M.length) (M ++ [.lst (cut ws lo hi)])
    | _ => .bad
  | _ => .bad
def revW (z : Bool) (x : Wv) (M : Mem) : Out Wv := match x with
  | .ref l => match M[l]? with
    | some (.lst ws) => .ok (.ref M.length) (M ++ [.lst (if z then ws.tail.reverse else ws.reverse)])
    | _ => .bad
  | _ => .bad
def toI : Wv → Option Int
  | .int i => some i
  | _ => none
def bls : List Wv → Option (List Bool) := mapO fun | .bl b => some b | _ => none
def intsW : List Wv → Option (List Int) := mapO toI
def strsW : List Wv → Option (List Str) := mapO fun | .str s => some s | _ => none
def numsW : List Wv → Option (List Int) := mapO fun | .int i => some i | _ => none
def putI (xs : List Int) (k : Int) : List Int := if k ∈ xs then xs else xs ++ [k]
def upI (ns : List Int) : List Int := (ns.foldl putI []).mergeSort fun a b => decide (a ≤ b)
def alikeAllB (ds : List PyData) : Bool := ds.all fun d => ds.all fun e => PySem.W.alike d e
def sortableB (ds : List PyData) : Bool := (ds.all fun d => match d with | .tuple (_ :: _) => true | _ => false) || (ds.all fun d => match d with | .none => false | .tuple _ => false | _ => true)
def dcap : PyData → Bool := fun d => decide (d.depth ≤ 32)
def sortBy (ks : List PyData) (ws : List Wv) : Option (List Wv) := if alikeAllB ks && sortableB ks && ks.all dcap then some (((ks.zip ws).mergeSort fun a b => PySem.W.dataLe false (fun p : PyData × Wv => p.1) a b).map (·.2)) else none
def kday : Ke := .tup (.sub .v 1) .v
def dayK : PyData → Bool
  | .tuple [.int _, _] => true
  | _ => false
def maxBy (ds : List PyData) (ws : List Wv) : Option Wv := match ds.zip ws with
  | [] => none
  | p :: r => if alikeAllB ds && ds.all dcap && ds.all dayK then some (r.foldl (fun a y => if PySem.W.dataLt a.1 y.1 then y else a) p).2 else none
mutual
/-- data that are no lists, as values -/
def ofD : PyData → Option Wv
  | .none => some .non
  | .bool b => some (.bl b)
  | .int i => some (.int i)
  | .str s => some (.str s)
  | .tuple xs => (ofDs xs).map .tup
  | .list _ => none
  | .dict _ => none
def ofDs : List PyData → Option (List Wv)
  | [] => some []
  | x :: xs => match ofD x, ofDs xs with
    | some w, some ws => some (w :: ws)
    | _, _ => none
end
def noneB : PyData → Bool
  | .none => true
  | _ => false
def bestOf (mx : Bool) (ds : List PyData) : Option Wv := match ds with
  | [] => none
  | d :: r => if alikeAllB ds && ds.all (fun d => !noneB d) && ds.all dcap then ofD (if mx then PySem.W.maxD d r else PySem.W.minD d r) else none
def itemsOf (x : Wv) (M : Mem) : Option (List Wv) := match x with
  | .tup ws => some ws
  | .scr => some (G.S.map .int)
  | .ref l => match M[l]? with
    | some (.lst ws) => some ws
    | some (.dct _ kvs) => some (kvs.map (·.1))
    | _ => none
  | _ => none
def itemsS (x : Wv) (M : Mem) : Option (List Wv) := match x with
  | .tup _ => none
  | x => itemsOf G x M
def lstOf (x : Wv) (M : Mem) : Option (List Wv) := match x with
  | .ref l => match M[l]? with
    | some (.lst ws) => some ws
    | _ => none
  | _ => none
def valsOf (x : Wv) (M : Mem) : Option (List Wv) := match x with
  | .ref l => match M[l]? with
    | some (.dct _ kvs) => some (kvs.map (·.2))
    | _ => none
  | _ => none
def pairs : List Wv → Option (List (Wv × Wv)) := mapO fun | .tup [a, b] => some (a, b) | _ => none
def dputs (kvs : List (Wv × Wv)) : List (Wv × Wv) → List (Wv × Wv)
  | [] => kvs
  | p :: r => dputs (dput kvs p.1 p.2) r
def newL (o : Option (List Wv)) (M : Mem) : Out Wv := match o with
  | some ws => .chk (lenOk ws.length) (.ok (.ref M.length) (M ++ [.lst ws]))
  | none => .bad
def oncW (ws : List Wv) : List Wv := ws.foldl (fun acc x => if x ∈ acc then acc else acc ++ [x]) []
def sgnW (s : Str) : List Wv := s.cps.toList.map fun c => .str ⟨#[c]⟩
def biW (b : Bi) (xs : List Wv) (M : Mem) : Out Wv := match b, xs with
  | .len, [.str s] => .chk (lenOk s.length) (.ok (.int s.length) M)
  | .len, [.tup ws] => .ok (.int ws.length) M
  | .len, [.scr] => .ok (.int G.S.length) M
  | .len, [.ref l] => match M[l]? with
    | some (.lst ws) => .ok (.int ws.length) M
    | some (.dct _ kvs) => .ok (.int kvs.length) M
    | _ => .bad
  | .all, [x] => (Out.ofO ((lstOf x M).bind bls) M).bind fun bs M => .ok (.bl (bs.all id)) M
  | .any, [x] => (Out.ofO ((lstOf x M).bind bls) M).bind fun bs M => .ok (.bl (bs.any id)) M
  | .sum, [x] => (Out.ofO ((lstOf x M).bind intsW) M).bind fun ns M => .ok (.int ns.sum) M
  | .abs, [.int i] => .ok (.int (if i < 0 then -i else i)) M
  | .min, [.int i, .int j] => .ok (.int (if j < i then j else i)) M
  | .min, [.int i, .int j, .int k] => .ok (.int (if k < (if j < i then j else i) then k else (if j < i then j else i))) M
  | .max, [.int i, .int j] => .ok (.int (if j > i then j else i)) M
  | .max, [.tup a, .tup b] => .ofO ((mapO (toD G.S M deepD) [.tup a, .tup b]).bind (bestOf true)) M
  | .min, [x] => .ofO ((lstOf x M).bind fun ws => (mapO (toD G.S M deepD) ws).bind (bestOf false)) M
  | .max, [x] => .ofO ((lstOf x M).bind fun ws => (mapO (toD G.S M deepD) ws).bind (bestOf true)) M
  | .sorted, [x] => newL ((itemsS G x M).bind fun ws => (mapO (toD G.S M deepD) ws).bind fun ds => sortBy ds ws) M
  | .list, [x] => newL (itemsOf G x M) M
  | .dict, [x] => match (lstOf x M).bind pairs with
    | some ps => .chk ((ps.all fun p => keyA p.1) && lenOk ps.length) (.ok (.ref M.length) (M ++ [.dct false (dputs [] ps)]))
    | none => .bad
  | .sset, [x] => newL ((lstOf x M).bind fun ws => if ws.length + 1 < scanBound then (strsW ws).bind fun _ => (mapO (toD G.S M deepD) (oncW ws)).bind fun ds => sortBy ds (oncW ws) else none) M
  | .sseti, [x] => newL ((lstOf x M).bind fun ws => if ws.length < 64 then (numsW ws).map fun ns => (upI ns).map Wv.int else none) M
  | .lset, [x] => (Out.ofO ((lstOf x M).bind fun ws => if decide (ws.length < 64) && ws.all keyT then some (oncW ws).length else none) M).bind fun n M => .ok (.int n) M
  | .kset, [x] => newL ((lstOf x M).bind fun ws => if decide (ws.length < 64) && ws.all keyT then (mapO (toD G.S M deepD) (oncW ws)).bind fun ds => sortBy ds (oncW ws) else none) M
  | .sorT, [.str s] => newL (if s.length ≤ 1000 then (mapO (toD G.S M deepD) (sgnW s)).bind fun ds => sortBy ds (sgnW s) else none) M
  | .str, [.tup ws] => match toD G.S M deepD (.tup ws) with
    | some d => .chk (d.showable && !d.hasDict && dcap d && lenOk d.shown.length) (.ok (.str d.shown) M)
    | none => .bad
  | _, _ => .bad
def isiW (k : Kd) (x : Wv) (M : Mem) : Option Bool := match k, x with
  | .int, .int _ => some true
  | .int, .bl _ => some true
  | .int, .ref l => match M[l]? with
    | some (.lst _) => some false
    | some (.dct _ _) => some false
    | _ => none
  | .int, _ => some false
  | .bool, .bl _ => some true
  | .bool, .ref l => match M[l]? with
    | some (.lst _) => some false
    | some (.dct _ _) => some false
    | _ => none
  | .bool, _ => some false
  | .str, .str _ => some true
  | .str, .ref l => match M[l]? with
    | some (.lst _) => some false
    | some (.dct _ _) => some false
    | _ => none
  | .str, _ => some false
  | .tuple, .tup _ => some true
  | .tuple, .ref l => match M[l]? with
    | some (.lst _) => some false
    | some (.dct _ _) => some false
    | _ => none
  | .tuple, _ => some false
  | .list, .scr => some true
  | .list, .ref l => match M[l]? with
    | some (.lst _) => some true
    | some (.dct _ _) => some false
    | _ => none
  | .list, _ => some false
def bmT (m : Bm) (x : Wv) (M : Mem) : Bool := match m, x with
  | .append, .ref l => (match M[l]? with
    | some (.lst _) => true
    | _ => false)
  | .get, .ref l => (match M[l]? with
    | some (.dct _ _) => true
    | _ => false)
  | .scount, .str _ => true
  | .lcount, .ref l => (match M[l]? with
    | some (.lst _) => true
    | _ => false)
  | .extend, .ref l => (match M[l]? with
    | some (.lst _) => true
    | _ => false)
  | .insert, .ref l => (match M[l]? with
    | some (.lst _) => true
    | _ => false)
  | .pop, .ref l => (match M[l]? with
    | some (.dct _ _) => true
    | _ => false)
  | .lpop, .ref l => (match M[l]? with
    | some (.lst _) => true
    | _ => false)
  | .split, .str _ => true
  | _, _ => false
def ddrop (kvs : List (Wv × Wv)) (k : Wv) : List (Wv × Wv) := kvs.filter fun p => decide (p.1 ≠ k)
def bmW (m : Bm) (x : Wv) (xs : List Wv) (M : Mem) : Out Wv := match m, x with
  | .append, .ref l => (match M[l]? with
    | some (.lst ws) => (match xs with
      | [y] => .chk (lenOk (ws.length + 1)) (.ok .non (M.set l (.lst (ws ++ [y]))))
      | _ => .bad)
    | _ => .bad)
  | .get, .ref l => (match M[l]? with
    | some (.dct _ kvs) => (match xs with
      | [k] => .chk (keyOk kvs k) (.ok ((dget kvs k).getD .non) M)
      | [k, d] => .chk (keyOk kvs k) (.ok ((dget kvs k).getD d) M)
      | _ => .bad)
    | _ => .bad)
  | .scount, .str s => (match xs with
    | [.str t] => .ok (.int (Txt.count s t)) M
    | _ => .bad)
  | .lcount, .ref l => (match M[l]? with
    | some (.lst ws) => (match xs with
      | [.str z] => .ofO ((strsW ws).map fun ss => .int ((ss.countP fun y => decide (y = z) : Nat) : Int)) M
      | _ => .bad)
    | _ => .bad)
  | .extend, .ref l => (match M[l]? with
    | some (.lst ws) => (match xs with
      | [.ref m] => (match M[m]? with
        | some (.lst zs) => .chk (lenOk (ws.length + zs.length)) (.ok .non (M.set l (.lst (ws ++ zs))))
        | _ => .bad)
      | _ => .bad)
    | _ => .bad)
  | .insert, .ref l => (match M[l]? with
    | some (.lst ws) => (match xs with
      | [.int i, y] => .chk (lenOk (ws.length + 1) && decide (0 ≤ i) && decide (i ≤ 1000000)) (.ok .non (M.set l (.lst (ws.take i.toNat ++ [y] ++ ws.drop i.toNat))))
      | _ => .bad)
    | _ => .bad)
  | .pop, .ref l => (match M[l]? with
    | some (.dct false kvs) => (match xs with
      | [k] => .chk (keyT k && (kvs.all fun p => keyT p.1) && lenOk kvs.length) ((Out.ofO (dget kvs k) M).bind fun v M => .ok v (M.set l (.dct false (ddrop kvs k))))
      | _ => .bad)
    | _ => .bad)
  | .lpop, .ref l => (match M[l]? with
    | some (.lst ws) => (match xs with
      | [.int i] => .chk (decide (0 ≤ i) && decide (i ≤ 1000000)) ((Out.ofO ws[i.toNat]? M).bind fun v M => .ok v (M.set l (.lst (ws.eraseIdx i.toNat))))
      | _ => .bad)
    | _ => .bad)
  | .split, .str s => (match xs with
    | [.str t] => .chk (decide (s.length ≤ 1000) && !(t.length == 0)) (newL (some ((Txt.split s t).map Wv.str)) M)
    | _ => .bad)
  | _, _ => .bad
abbrev Sw := List (Option Wv)
def getV (i : Nat) (σ : Sw) : Option Wv := match σ[i]? with
  | some (some w) => some w
  | _ => none
def setAll : List Nat → List Wv → Sw → Option Sw
  | [], [], σ => some σ
  | i :: is, w :: ws, σ => setAll is ws (σ.set i (some w))
  | _, _, _ => none
def tgW (t : Tg) (w : Wv) (σ : Sw) : Option Sw := match t with
  | .nm i => some (σ.set i (some w))
  | .tup is => match w with
    | .tup ws => setAll is ws σ
    | _ => none
  | .nst i js => match w with
    | .tup [x, .tup ws] => setAll js ws (σ.set i (some x))
    | _ => none
def Tg.slots : Tg → List Nat
  | .nm i => [i]
  | .tup is => is
  | .nst i js => i :: js
def wipeW (σ : Sw) : List Nat → Sw
  | [] => σ
  | v :: vs => (wipeW σ vs).set v none
def stays (ps : List (Nat × Ob)) (M : Mem) : Bool := ps.all fun p => match p.2 with
  | .lst ws => decide (M[p.1]? = some (.lst ws))
  | _ => true
def seqL (x : Wv) (M : Mem) : Option (List Wv × List (Nat × Ob)) := match x with
  | .ref l => match M[l]? with
    | some (.lst ws) => some (ws, [(l, .lst ws)])
    | _ => none
  | _ => none
def walkV (x : Wv) (M : Mem) : Option (List Wv × List (Nat × Ob)) := match x with
  | .tup ws => some (ws, [])
  | .scr => some (G.S.map .int, [])
  | .str s => some (s.cps.toList.map fun c => .str ⟨#[c]⟩, [])
  | .ref l => match M[l]? with
    | some (.lst ws) => some (ws, [(l, .lst ws)])
    | some (.dct z kvs) => some (kvs.map (·.1), [(l, .dct z kvs)])
    | _ => none
  | _ => none
def lockM : List (Nat × Ob) → Mem → Mem
  | [], M => M
  | (l, .dct false kvs) :: r, M => (lockM r M).set l (.dct true kvs)
  | _ :: r, M => lockM r M
def unlkM : List (Nat × Ob) → Mem → Mem
  | [], M => M
  | (l, .dct false kvs) :: r, M => (unlkM r M).set l (.dct false kvs)
  | _ :: r, M => unlkM r M
def Out.unlk {α : Type} (ps : List (Nat × Ob)) : Out α → Out α
  | .ok a M => .ok a (unlkM ps M)
  | .exc c M => .exc c (unlkM ps M)
  | .bad => .bad
def rngOk (i : Int) : Bool := decide (-(2 ^ 60) ≤ i) && decide (i ≤ 2 ^ 60)
def rngW (a b : Int) : List Wv := (List.range (b - a).toNat).map fun (k : Nat) => .int (a + (k : Int))
def rngS (a b d : Int) : List Wv := (List.range ((b - a + d - 1) / d).toNat).map fun (k : Nat) => .int (a + (k : Int) * d)
def Out.noExc {α : Type} : Out α → Out α
  | .ok a M => .ok a M
  | _ => .bad
def lcGo (t : Tg) (c e : Sw → Mem → Out Wv) (ps : List (Nat × Ob)) : List Wv → Sw → List Wv → Mem → Out (List Wv)
  | [], _, acc, M => .chk (stays ps M) (.ok acc M)
  | x :: xs, σ, acc, M => .chk (stays ps M) (match tgW t x σ with
    | some τ => (c τ M).bind fun b M => (Out.ofO (truW G b M) M).bind fun k M => if k then (e τ M).bind fun y M => .chk (lenOk (acc.length + 1)) (lcGo t c e ps xs σ (acc ++ [y]) M) else lcGo t c e ps xs σ acc M
    | none => .bad)
def lc2In (t : Tg) (e : Sw → Mem → Out Wv) (n : Nat) (ps : List (Nat × Ob)) : List Wv → Sw → Mem → Out Unit
  | [], _, M => .chk (stays ps M) (.ok () M)
  | x :: xs, σ, M => .chk (stays ps M) (match tgW t x σ with
    | some τ => (e τ M).bind fun y M => match M[n]? with
      | some (.lst acc) => .chk (lenOk (acc.length + 1)) (lc2In t e n ps xs σ (M.set n (.lst (acc ++ [y]))))
      | _ => .bad
    | none => .bad)
def lc2Go (t : Tg) (j : Sw → Mem → Out (List Wv × List (Nat × Ob))) (t2 : Tg) (e : Sw → Mem → Out Wv) (n : Nat) (ps : List (Nat × Ob)) : List Wv → Sw → List (Nat × Ob) → Mem → Out (List (Nat × Ob))
  | [], _, pd, M => .chk (stays ps M) (.ok pd M)
  | x :: xs, σ, pd, M => .chk (stays ps M) (match tgW t x σ with
    | some τ => (j τ M).bind fun r M => (lc2In t2 e n r.2 r.1 (wipeW τ t2.slots) (lockM r.2 M)).bind fun _ M => lc2Go t j t2 e n ps xs σ (r.2 ++ pd) M
    | none => .bad)
def dcGo (t : Tg) (c k v : Sw → Mem → Out Wv) (ps : List (Nat × Ob)) : List Wv → Sw → List (Wv × Wv) → Mem → Out (List (Wv × Wv))
  | [], _, acc, M => .chk (stays ps M) (.ok acc M)
  | x :: xs, σ, acc, M => .chk (stays ps M) (match tgW t x σ with
    | some τ => (c τ M).bind fun b M => (Out.ofO (truW G b M) M).bind fun q M => if q then (k τ M).bind fun y M => (v τ M).bind fun z M => .chk (keyOk acc y && lenOk (acc.length + 1)) (dcGo t c k v ps xs σ (dput acc y z) M) else dcGo t c k v ps xs σ acc M
    | none => .bad)
def dc2In (t : Tg) (k v : Sw → Mem → Out Wv) (n : Nat) (ps : List (Nat × Ob)) : List Wv → Sw → Mem → Out Unit
  | [], _, M => .chk (stays ps M) (.ok () M)
  | x :: xs, σ, M => .chk (stays ps M) (match tgW t x σ with
    | some τ => (k τ M).bind fun y M => (v τ M).bind fun z M => match M[n]? with
      | some (.dct false acc) => .chk (keyOk acc y && lenOk (acc.length + 1)) (dc2In t k v n ps xs σ (M.set n (.dct false (dput acc y z))))
      | _ => .bad
    | none => .bad)
def dc2Go (t : Tg) (j : Sw → Mem → Out (List Wv × List (Nat × Ob))) (t2 : Tg) (k v : Sw → Mem → Out Wv) (n : Nat) (ps : List (Nat × Ob)) : List Wv → Sw → List (Nat × Ob) → Mem → Out (List (Nat × Ob))
  | [], _, pd, M => .chk (stays ps M) (.ok pd M)
  | x :: xs, σ, pd, M => .chk (stays ps M) (match tgW t x σ with
    | some τ => (j τ M).bind fun r M => (dc2In t2 k v n r.2 r.1 (wipeW τ t2.slots) (lockM r.2 M)).bind fun _ M => dc2Go t j t2 k v n ps xs σ (r.2 ++ pd) M
    | none => .bad)
def forGo (t : Tg) (b : Sw → Mem → Out (Fl × Sw)) (ps : List (Nat × Ob)) : List Wv → Sw → Mem → Out (Fl × Sw)
  | [], σ, M => .chk (stays ps M) (.ok (.nx, σ) M)
  | x :: xs, σ, M => .chk (stays ps M) (match tgW t x σ with
    | some τ => (b τ M).bind fun r M => match r.1 with
      | .nx => forGo t b ps xs r.2 M
      | .ct => forGo t b ps xs r.2 M
      | .brk => .ok (.nx, r.2) M
      | .ret w => .ok (.ret w, r.2) M
    | none => .bad)
def whlGo (t : Sw → Mem → Out Wv) (b : Sw → Mem → Out (Fl × Sw)) : Nat → Sw → Mem → Out (Fl × Sw)
  | 0, _, _ => .bad
  | n + 1, σ, M => (t σ M).bind fun x M => (Out.ofO (truW G x M) M).bind fun k M => if k then (b σ M).bind fun r M => (match r.1 with
      | .nx => whlGo t b n r.2 M
      | .ct => whlGo t b n r.2 M
      | .brk => .ok (.nx, r.2) M
      | .ret w => .ok (.ret w, r.2) M) else .ok (.nx, σ) M
variable (C C1 : Nat → List Wv → Mem → Out Wv)
def metW (m : Str) (x : Wv) (M : Mem) : Option Nat := match x with
  | .ref l => match M[l]? with
    | some (.ins c fs) => match (G.cls c).bind fun k => k.meths.lookup m with
      | some f => if fs.lookup m = none then some f else none
      | none => none
    | _ => none
  | _ => none
def attrW (x : Wv) (f : Str) (M : Mem) : Out Wv := match x with
  | .ref l => match M[l]? with
    | some (.ins c fs) => .chk (G.cls c).isSome (.ofO (fs.lookup f) M)
    | _ => .bad
  | _ => .bad
def newW (c : Nat) (ws : List Wv) (M : Mem) : Out Wv := match G.cls c with
  | some k => (C1 k.init (.ref M.length :: ws) (M ++ [.ins c []])).bind fun w M' => .chk (decide (w = .non)) (.ok (.ref M.length) M')
  | none => .bad
def lenHW (x : Wv) (M : Mem) : Out Wv := (Out.ofO (metW G "__len__" x M) M).bind fun f M => (C1 f [x] M).noExc.bind fun r M => match r with
  | .int n => .chk (decide (0 ≤ n) && decide (n < 2 ^ 62)) (.ok (.int n) M)
  | _ => .bad
def keyD : Ke → PyData → Option PyData
  | .v, d => some d
  | .sub k i, d => match keyD k d with
    | some (.tuple xs) => xs[i]?
    | _ => none
  | .tup a b, d => match keyD a d, keyD b d with
    | some x, some y => some (.tuple [x, y])
    | _, _ => none
  | .no, _ => none
  | .str, .tuple xs => if (PyData.tuple xs).showable && !(PyData.tuple xs).hasDict && dcap (.tuple xs) && lenOk (PyData.tuple xs).shown.length then some (.str (PyData.tuple xs).shown) else none
  | .str, _ => none
mutual
/-- no list in it -/
def noL : PyData → Bool
  | .list _ => false
  | .dict _ => false
  | .tuple xs => noLs xs
  | _ => true
def noLs : List PyData → Bool
  | [] => true
  | x :: xs => noL x && noLs xs
end
def mixK : PyData → PyData → Bool
  | .tuple [.int _, .tuple (.str w :: r)], .tuple [.int _, .tuple (.str w' :: r')] => decide (w ≠ w') || PySem.W.alikeAll r r'
  | _, _ => false
def mixAllB (ks : List PyData) : Bool := (ks.all fun d => ks.all fun e => mixK d e) && ks.all noL
def sortMix (ks : List PyData) (ws : List Wv) : Option (List Wv) := if mixAllB ks && ks.all dcap then some (((ks.zip ws).mergeSort fun a b => PySem.W.dataLe false (fun p : PyData × Wv => p.1) a b).map (·.2)) else none
def keyOf (k : Ke) (M : Mem) (w : Wv) : Option PyData := match toD G.S M deepD w with
  | some d => if noL d then keyD k d else none
  | none => none
def krnk : Ke := .sub (.sub .v 1) 2
def rnkOf (M : Mem) (w : Wv) : Option PyData := match w with
  | .ref l => match M[l]? with
    | some (.ins c fs) => match (G.cls c).bind (fun k => k.meths.lookup ("rank" : Str)), fs.lookup ("rank" : Str), fs.lookup ("words" : Str), fs.lookup ("name" : Str) with
      | some _, none, some (.ref q), some (.str n) => match M[q]? with
        | some (.lst ws) => match ws.getLast? with
          | some r => match keyOf G krnk M r with
            | some (.int i) => some (.tuple [.int i, .str n])
            | _ => none
          | none => none
        | _ => none
      | _, _, _, _ => none
    | _ => none
  | _ => none
def cntW (x y : Wv) (M : Mem) : Out Wv := match lstOf x M, y with
  | some ws, .tup vs => match mapO (toD G.S M deepD) ws, toD G.S M deepD (.tup vs) with
    | some ds, some d => .chk (ds.all noL && noL d && ds.all dcap && dcap d) (.ok (.int ((ds.countP fun e => PyData.eqv e d : Nat) : Int)) M)
    | _, _ => .bad
  | _, _ => .bad
def Ex.isNo : Ex → Bool
  | .no => true
  | _ => false
def itmW (x : Wv) (M : Mem) : Option (List (Wv × Wv) × List (Nat × Ob)) := match x with
  | .ref l => match M[l]? with
    | some (.dct z kvs) => some (kvs, [(l, .dct z kvs)])
    | _ => none
  | _ => none
mutual
def evE : Ex → Sw → Mem → Out Wv
  | .var i, σ, M => .ofO (getV i σ) M
  | .con w, _, M => .ok w M
  | .glb x, _, M => .ofO (G.con x) M
  | .tup es, σ, M => (evL es σ M).bind fun ws M => .chk (lenOk ws.length) (.ok (.tup ws) M)
  | .lst es, σ, M => (evL es σ M).bind fun ws M => .chk (lenOk ws.length) (.ok (.ref M.length) (M ++ [.lst ws]))
  | .dict0, _, M => .ok (.ref M.length) (M ++ [.dct false []])
  | .dlit ks es, σ, M => (evL es σ M).bind fun ws M => .chk (decide (ks.length = ws.length) && decide (ks.length ≤ 15) && decide ks.Nodup && !ks.isEmpty) (.ok (.ref M.length) (M ++ [.dct false ((ks.map Wv.str).zip ws)]))
  | .bin o a b, σ, M => (evE a σ M).bind fun x M => (evE b σ M).bind fun y M => binW o x y M
  | .neg a, σ, M => (evE a σ M).bind fun x M => .ofO ((toI x).map fun i => .int (-i)) M
  | .not a, σ, M => (evE a σ M).bind fun x M => .ofO ((truW G x M).map fun b => .bl (!b)) M
  | .and a b, σ, M => (evE a σ M).bind fun x M => (Out.ofO (truW G x M) M).bind fun c M => if c then evE b σ M else .ok x M
  | .or a b, σ, M => (evE a σ M).bind fun x M => (Out.ofO (truW G x M) M).bind fun c M => if c then .ok x M else evE b σ M
  | .ife t a b, σ, M => (evE t σ M).bind fun x M => (Out.ofO (truW G x M) M).bind fun c M => if c then evE a σ M else evE b σ M
  | .cmp c a b, σ, M => (evE a σ M).bind fun x M => (evE b σ M).bind fun y M => cmpW G c x y M
  | .cmp2 c d a b e, σ, M => (evE a σ M).bind fun x M => (evE b σ M).bind fun y M => (cmpW G c x y M).bind fun r M =>
      (Out.ofO (truW G r M) M).bind fun k M => if k then (evE e σ M).bind fun z M => cmpW G d y z M else .ok r M
  | .attr a f, σ, M => (evE a σ M).bind fun x M => attrW G x f M
  | .sub a i, σ, M => (evE a σ M).bind fun x M => (evE i σ M).bind fun y M => subW G x y M
  | .tab kvs a, σ, M => (evE a σ M).bind fun x M => tabW kvs x M
  | .tnin kvs a, σ, M => (evE a σ M).bind fun x M => tninW kvs x M
  | .slc a lo hi, σ, M => (evE a σ M).bind fun x M =>
      (if lo.isNo then .ok none M else (evE lo σ M).bind fun y M => .ofO ((toI y).map some) M).bind fun l M =>
      (if hi.isNo then .ok none M else (evE hi σ M).bind fun y M => .ofO ((toI y).map some) M).bind fun h M => slcW x l h M
  | .no, _, _ => .bad
  | .srev z a, σ, M => (evE a σ M).bind fun x M => revW z x M
  | .call f es ds, σ, M => (evL es σ M).bind fun ws M => C f (ws ++ ds) M
  | .callk f es k, σ, M => (evL es σ M).bind fun ws M => (evE k σ M).bind fun w M => C f (ws ++ [w]) M
  | .meth m a es ds, σ, M => (evE a σ M).bind fun x M => (Out.ofO (metW G m x M) M).bind fun f M => (evL es σ M).bind fun ws M => C f (x :: (ws ++ ds)) M
  | .bm m a es, σ, M => (evE a σ M).bind fun x M => .chk (bmT m x M) ((evL es σ M).bind fun ws M => bmW m x ws M)
  | .new c es, σ, M => (evL es σ M).bind fun ws M => newW G C1 c ws M
  | .lenH a, σ, M => (evE a σ M).bind fun x M => lenHW G C1 x M
  | .bi b es, σ, M => (evL es σ M).bind fun ws M => biW G b ws M
  | .isi k a, σ, M => (evE a σ M).bind fun x M => .ofO ((isiW k x M).map .bl) M
  | .lc e t it c, σ, M => (evI it σ M).bind fun r M => ((lcGo G t (evE c) (evE e) r.2 r.1 (wipeW σ t.slots) [] (lockM r.2 M)).noExc.unlk r.2).bind fun ws M => .ok (.ref M.length) (M ++ [.lst ws])
  | .lc2 e t it t2 it2, σ, M => (evI it σ M).bind fun r M => (lc2Go t (evI it2) t2 (evE e) (lockM r.2 M).length r.2 r.1 (wipeW σ (t.slots ++ t2.slots)) [] (lockM r.2 M ++ [.lst []])).noExc.bind fun pd M1 => .ok (.ref (lockM r.2 M).length) (unlkM r.2 (unlkM pd M1))
  | .dc k v t it c, σ, M => (evI it σ M).bind fun r M => ((dcGo G t (evE c) (evE k) (evE v) r.2 r.1 (wipeW σ t.slots) [] (lockM r.2 M)).noExc.unlk r.2).bind fun kvs M => .ok (.ref M.length) (M ++ [.dct false kvs])
  | .dc2 k v t it t2 it2, σ, M => (evI it σ M).bind fun r M => (dc2Go t (evI it2) t2 (evE k) (evE v) (lockM r.2 M).length r.2 r.1 (wipeW σ (t.slots ++ t2.slots)) [] (lockM r.2 M ++ [.dct false []])).noExc.bind fun pd M1 => .ok (.ref (lockM r.2 M).length) (unlkM r.2 (unlkM pd M1))
  | .sortk a k, σ, M => (evE a σ M).bind fun x M => newL ((lstOf x M).bind fun ws => (mapO (keyOf G k M) ws).bind fun ds => sortBy ds ws) M
  | .sortv a k, σ, M => (evE a σ M).bind fun x M => newL ((valsOf x M).bind fun ws => (mapO (keyOf G k M) ws).bind fun ds => sortBy ds ws) M
  | .sortvM a, σ, M => (evE a σ M).bind fun x M => newL ((valsOf x M).bind fun ws => (mapO (keyOf G kday M) ws).bind fun ds => sortMix ds ws) M
  | .sortm a, σ, M => (evE a σ M).bind fun x M => newL ((lstOf x M).bind fun ws => (mapO (rnkOf G M) ws).bind fun ds => sortBy ds ws) M
  | .maxk a, σ, M => (evE a σ M).bind fun x M => .ofO ((lstOf x M).bind fun ws => (mapO (keyOf G kday M) ws).bind fun ds => maxBy ds ws) M
  | .cntT a b, σ, M => (evE a σ M).bind fun x M => .chk (bmT .lcount x M) ((evE b σ M).bind fun y M => cntW G x y M)
  | .dict2 k1 v1 k2 v2, _, M => .chk (decide (k1 ≠ k2)) (.ok (.ref M.length) (M ++ [.dct false [(.str k1, .int v1), (.str k2, .int v2)]]))
def evL : El → Sw → Mem → Out (List Wv)
  | .nil, _, M => .ok [] M
  | .cons e es, σ, M => (evE e σ M).bind fun w M => (evL es σ M).bind fun ws M => .ok (w :: ws) M
def evI : It → Sw → Mem → Out (List Wv × List (Nat × Ob))
  | .val e, σ, M => (evE e σ M).bind fun x M => .ofO (walkV G x M) M
  | .rng a b, σ, M => (evE a σ M).bind fun x M => (evE b σ M).bind fun y M => match toI x, toI y with
    | some i, some j => .chk (rngOk i && rngOk j) (.ok (rngW i j, []) M)
    | _, _ => .bad
  | .rng3 a b c, σ, M => (evE a σ M).bind fun x M => (evE b σ M).bind fun y M => (evE c σ M).bind fun z M => match toI x, toI y, toI z with
    | some i, some j, some d => .chk (rngOk i && rngOk j && decide (0 < d) && decide (d ≤ 1000)) (.ok (rngS i j d, []) M)
    | _, _, _ => .bad
  | .items e, σ, M => (evE e σ M).bind fun x M => (Out.ofO (itmW x M) M).bind fun r M => .ok (r.1.map fun p => .tup [p.1, p.2], r.2) M
  | .vals e, σ, M => (evE e σ M).bind fun x M => (Out.ofO (itmW x M) M).bind fun r M => .ok (r.1.map fun p => p.2, r.2) M
  | .enum e, σ, M => (evE e σ M).bind fun x M => (Out.ofO (seqL x M) M).bind fun r M => .ok (r.1.zipIdx.map fun p => .tup [.int p.2, p.1], r.2) M
  | .zip a b, σ, M => (evE a σ M).bind fun x M => (evE b σ M).bind fun y M => (Out.ofO (seqL x M) M).bind fun r M => (Out.ofO (seqL y M) M).bind fun q M => .ok ((r.1.zip q.1).map fun p => .tup [p.1, p.2], r.2 ++ q.2) M
  | .zipT a b, σ, M => (evE a σ M).bind fun x M => (evE b σ M).bind fun y M => (Out.ofO (zipTW x y) M).bind fun r M => .ok (r, []) M
end
def setW (o i v : Wv) (M : Mem) : Out Unit := match o with
  | .ref l => match M[l]? with
    | some (.lst ws) => (match i with
      | .int j => if 0 ≤ j then (if j < ws.length then .ok () (M.set l (.lst (ws.set j.toNat v))) else .bad) else if -(ws.length : Int) ≤ j then .ok () (M.set l (.lst (ws.set (j + ws.length).toNat v))) else .bad
      | _ => .bad)
    | some (.dct false kvs) => .chk (keyOk kvs i && lenOk (kvs.length + 1)) (.ok () (M.set l (.dct false (dput kvs i v))))
    | _ => .bad
  | _ => .bad
def setA (o : Wv) (f : Str) (v : Wv) (M : Mem) : Out Unit := match o with
  | .ref l => match M[l]? with
    | some (.ins c fs) => .chk ((G.cls c).isSome && decide (fs.length < 1000)) (.ok () (M.set l (.ins c (putF f v fs))))
    | _ => .bad
  | _ => .bad
def clsAt (x : Wv) (M : Mem) : Option Nat := match x with
  | .ref l => match M[l]? with
    | some (.ins c _) => some c
    | _ => none
  | _ => none
def augW (o : Op) (x y : Wv) (M : Mem) : Out Wv := match o, x, y with
  | .add, .int i, .int j => .ok (.int (i + j)) M
  | .sub, .int i, .int j => .ok (.int (i - j)) M
  | _, _, _ => .bad
variable (fuel : Nat)
mutual
def evS : St → Sw → Mem → Out (Fl × Sw)
  | .asg t e, σ, M => (evE G C C1 e σ M).bind fun x M => (Out.ofO (tgW t x σ) M).bind fun σ M => .ok (.nx, σ) M
  | .asgA o f e, σ, M => (evE G C C1 e σ M).bind fun x M => (evE G C C1 o σ M).bind fun y M => (setA G y f x M).bind fun _ M => .ok (.nx, σ) M
  | .asgS o i e, σ, M => (evE G C C1 e σ M).bind fun x M => (evE G C C1 o σ M).bind fun y M => (evE G C C1 i σ M).bind fun z M => (setW y z x M).bind fun _ M => .ok (.nx, σ) M
  | .aug i p e, σ, M => (Out.ofO (getV i σ) M).bind fun x M => (evE G C C1 e σ M).bind fun y M => (augW p x y M).bind fun z M => .ok (.nx, σ.set i (some z)) M
  | .augA o f p e, σ, M => (evE G C C1 o σ M).bind fun y M => (attrW G y f M).bind fun x M1 => (evE G C C1 e σ M1).bind fun z M2 => (augW p x z M2).bind fun r M3 => .chk (decide (clsAt y M3 = clsAt y M)) ((setA G y f r M3).bind fun _ M => .ok (.nx, σ) M)
  | .ex e, σ, M => (evE G C C1 e σ M).bind fun _ M => .ok (.nx, σ) M
  | .ret e, σ, M => (evE G C C1 e σ M).bind fun x M => .ok (.ret x, σ) M
  | .retN, σ, M => .ok (.ret .non, σ) M
  | .pass, σ, M => .ok (.nx, σ) M
  | .brk, σ, M => .ok (.brk, σ) M
  | .cont, σ, M => .ok (.ct, σ) M
  | .ifs t a b, σ, M => (evE G C C1 t σ M).bind fun x M => (Out.ofO (truW G x M) M).bind fun k M => if k then evSl a σ M else evSl b σ M
  | .for_ t it b, σ, M => (evI G C C1 it σ M).bind fun r M => (forGo t (evSl b) r.2 r.1 σ (lockM r.2 M)).unlk r.2
  | .whl t b, σ, M => whlGo G (evE G C C1 t) (evSl b) fuel σ M
  | .raise c, _, M => .exc c M
  | .tryI b cs, σ, M => match evSl b σ M with
    | .exc c M1 => .chk (decide (c ∈ cs)) (.ok (.ret (.int ((cs.idxOf c : Nat) : Int)), σ) M1)
    | r => r
def evSl : Sl → Sw → Mem → Out (Fl × Sw)
  | .nil, σ, M => .ok (.nx, σ) M
  | .cons s r, σ, M => (evS s σ M).bind fun q M => match q.1 with
    | .nx => evSl r q.2 M
    | f => .ok (f, q.2) M
end
end
def runD (G : Pg) (C C1 : Nat → List Wv → Mem → Out Wv) (fuel : Nat) (d : Df) (ws : List Wv) (M : Mem) : Out Wv :=
  .chk (decide (ws.length = d.npar)) ((evSl G C C1 fuel d.body (ws.map some ++ List.replicate (d.slots - ws.length) none) M).bind fun r M => match r.1 with
    | .ret w => .ok w M
    | .nx => .ok .non M
    | _ => .bad)
def callN (G : Pg) (fuel : Nat) : Nat → Nat → List Wv → Mem → Out Wv
  | 0, _, _, _ => .bad
  | 1, f, ws, M => match G.df f with
    | some d => runD G (fun _ _ _ => .bad) (fun _ _ _ => .bad) fuel d ws M
    | none => .bad
  | n + 2, f, ws, M => match G.df f with
    | some d => runD G (callN G fuel (n + 1)) (callN G fuel n) fuel d ws M
    | none => .bad
end MP
end
section
set_option Elab.async false
set_option linter.all false
set_option maxRecDepth 100000
namespace He
open PySem PySem.Spec PyProof.Rows L2
def obsY (A : (Addr → Option Obj) → List Addr) (fa : List Fa) (fn : List DefD) (ts : List Tab) (tf : List Defn) (ex : PySem.W.Frag → Bool) (g : Addr → Option Obj) : AlX := (obsT fa fn ts (frT g (A g)), ex (frT g (A g)) && tabsB g tf (frT g (A g)))
theorem saysY_of {A : (Addr → Option Obj) → List Addr} {fa : List Fa} {fn : List DefD} {ts : List Tab} {tf : List Defn} {ex : PySem.W.Frag → Bool} {w : World} {h : Heap} (e : obsY A fa fn ts tf ex h.get? = valX fn ts w) : SaysX fa fn ts tf ex w h (frT h.get? (A h.get?)) := by
  have e1 : obsT fa fn ts (frT h.get? (A h.get?)) = valT fn ts w := congrArg (fun z : AlX => z.1) e
  have e2 : (ex (frT h.get? (A h.get?)) && tabsB h.get? tf (frT h.get? (A h.get?))) = true := congrArg (fun z : AlX => z.2) e
  rw [Bool.and_eq_true] at e2
  obtain ⟨h1, h2⟩ := e2
  have key : ∀ p ∈ tf, PySem.W.codeHdIn (frT h.get? (A h.get?)) (cT (frT h.get? (A h.get?)) p).1 (cT (frT h.get? (A h.get?)) p).2 = true ∧ ∃ o, h.get? (cT (frT h.get? (A h.get?)) p).2 = some o ∧ emptyTab o = true := fun p hp => by
    have h3 := List.all_eq_true.mp h2 p hp
    rw [Bool.and_eq_true] at h3
    obtain ⟨h3, h4⟩ := h3
    refine ⟨h3, ?_⟩
    cases q : h.get? (cT (frT h.get? (A h.get?)) p).2 with
    | none =>
      rw [q] at h4
      cases h4
    | some o =>
      rw [q] at h4
      exact ⟨o, rfl, h4⟩
  exact ⟨e1, h1, fun p hp => (key p hp).1, fun p hp => by
    obtain ⟨_, o, q, z⟩ := key p hp
    exact frT_none q z, fun p hp => by
    obtain ⟨_, o, q, z⟩ := key p hp
    rw [q, emptyTab_eq z]⟩
def hookY (A : (Addr → Option Obj) → List Addr) (fa : List Fa) (fn : List DefD) (ts : List Tab) (tf : List Defn) (ex : PySem.W.Frag → Bool) : PySem.W.Hook where
  α := AlX
  obs := fun s => obsY A fa fn ts tf ex s.heap.get?
  val := fun w => valX fn ts w
  says := fun w h => ∃ K : PySem.W.Frag, K.In h ∧ SaysX fa fn ts tf ex w h K
  of := fun _ _ e => ⟨_, frT_in, saysY_of e⟩
  keeps := fun _ _ _ ⟨K, hK, c⟩ k => ⟨K, PySem.W.Frag.In.keeps hK k, ⟨c.t, c.more, c.hd, c.out, fun p hp => k _ _ (c.empty p hp)⟩⟩
theorem obsY_eq {A : (Addr → Option Obj) → List Addr} {fa : List Fa} {fn : List DefD} {ts : List Tab} {tf : List Defn} {ex : PySem.W.Frag → Bool} {g : Addr → Option Obj} {s : Shared} (h : ∀ a, g a = s.heap.get? a) : obsY A fa fn ts tf ex g = (hookY A fa fn ts tf ex).obs s := by
  have e : g = s.heap.get? := funext h
  rw [e] <;> rfl
end He
end
section
set_option Elab.async false
set_option linter.all false
set_option maxRecDepth 100000
namespace MP
open PySem PySem.Spec PyProof.Rows L2
end MP
end
section
set_option Elab.async false
set_option linter.all false
set_option maxRecDepth 100000
set_option maxHeartbeats 0
namespace Bh
open PySem PySem.Spec PyProof.Rows L2 MP
def top (i : Nat) : Stmt := PySem.Challenge.pw_basinhouse_k03_whole_worlds.main.body.getD i (.Pass ⟨0, 0, 0, 0⟩)
def ci_World : Nat := 0
abbrev hdD (a : Str × Option Str) (n q : Str) (t : Stmt) (l : List He.Dv) (k : List (Str × He.Dv)) : He.DefD := ⟨a, n, q, defArgs t, defBody t, defScope t, l, k⟩
abbrev hdF (a : Str) (t : Stmt) : He.DefD := hdD (a, none) a a t [] []
def d0 := hdF "_wall" (top 0)
def d1 := hdF "thing_of" (top 4)
def d2 := hdF "in_force" (top 5)
def d3 := hdF "deepness" (top 6)
def d4 := hdD ("World", some "__init__") "__init__" "World.__init__" (inClass (top 8) 0) [] []
def d5 := hdD ("World", some "of") "of" "World.of" (inClass (top 8) 1) [.non] []
def d6 := hdD ("World", some "names") "names" "World.names" (inClass (top 8) 2) [] []
def d7 := hdD ("World", some "last") "last" "World.last" (inClass (top 8) 3) [] []
def d8 := hdD ("World", some "last_share") "last_share" "World.last_share" (inClass (top 8) 4) [] []
def d9 := hdD ("World", some "last_of") "last_of" "World.last_of" (inClass (top 8) 5) [] []
def d10 := hdD ("World", some "on_day") "on_day" "World.on_day" (inClass (top 8) 6) [] []
def d11 := hdF "_law_drawn" (top 10)
def d12 := hdF "_law_day" (top 11)
def d13 := hdF "_law_place" (top 12)
def d14 := hdF "_law_right" (top 13)
def d15 := hdF "_law_base" (top 14)
def d16 := hdF "_law_truth" (top 15)
def d17 := hdF "_law_truths" (top 16)
def d18 := hdF "_law_all_truths" (top 17)
def d19 := hdF "_law_thing" (top 18)
def d20 := hdF "_law_seen" (top 19)
def d21 := hdF "law" (top 20)
def fn0 : List He.DefD := [d0, d1, d2, d3, d4, d5, d6, d7, d8, d9, d10, d11, d12, d13, d14, d15, d16, d17, d18, d19, d20, d21]
def fn : List He.DefD := fn0
def fa0 : List He.Fa := [.glo "_wall", .glo "thing_of", .glo "in_force", .glo "deepness", .meth "World" "of", .meth "World" "names", .meth "World" "last", .meth "World" "last_share", .meth "World" "last_of", .meth "World" "on_day", .glo "_law_drawn", .glo "_law_day", .glo "_law_place", .glo "_law_right", .glo "_law_base", .glo "_law_truth", .glo "_law_truths", .glo "_law_all_truths", .glo "_law_thing", .glo "_law_seen", .glo "law", .cls "World", .glo "World", .mkr "World", .noat "World" "kept", .noat "World" "rows", .free "isinstance", .free "len", .free "all", .free "any"]
def fa1 : List He.Fa := [.free "sum", .free "min", .free "max", .free "sorted", .free "range", .free "zip", .free "enumerate", .free "abs", .free "list", .free "dict", .free "tuple", .free "str", .free "int", .free "set", .free "bool", .str "VOID" "void", .int "MOST_DEEP" 3]
def fa : List He.Fa := fa0 ++ fa1
def nms0 : List PySem.Str := ["_wall", "__name__", "VOID", "MOST_DEEP", "thing_of", "in_force", "deepness", "World", "_law_drawn", "_law_day", "_law_place", "_law_right", "_law_base", "_law_truth", "_law_truths", "_law_all_truths", "_law_thing", "_law_seen"]
def nms : List PySem.Str := nms0
def tf : List He.Defn := [d5.at_, d21.at_]
def ex (K : PySem.W.Frag) : Bool := decide ((tf.map fun p => (He.cT K p).2).Nodup)
def ts : List He.Tab := []
abbrev R : PySem.W.OpenRow := PySem.W.OpenLaw.row PySem.Challenge.rw_basinhouse_k03_whole_worlds
def ads : List Nat := [3, 6, 4, 21, 28, 33, 40, 100, 111, 118, 125, 132, 137, 144, 151, 158, 165, 172, 177, 176, 171, 164, 157, 150, 143, 136, 131, 124, 117, 110, 99, 39, 32, 27, 20, 0, 15, 16, 17, 18, 19, 22, 23, 24, 25, 26, 29, 30, 31, 34, 35, 36, 37, 38, 54, 62, 69, 76, 83, 90, 97, 98, 101, 102, 105, 106, 107, 108, 109, 112, 113, 114, 115, 116, 119, 120, 121, 122, 123, 126, 127, 128, 129, 130, 133, 134, 135, 138, 139, 140, 141, 142, 145, 146, 147, 148, 149, 152, 153, 154, 155, 156, 159, 160, 161, 162, 163, 166, 167, 168, 169, 170, 173, 174, 175, 96, 89, 82, 75, 68, 61, 55, 53, 48, 49, 50, 51, 52, 56, 57, 58, 59, 60, 63, 64, 65, 66, 67, 70, 71, 72, 73, 74, 77, 78, 79, 80, 81, 84, 85, 86, 87, 88, 91, 92, 93, 94, 95]
abbrev hk : PySem.W.Hook := He.hookY (fun _ => ads) fa fn ts tf ex
def ob (s : PySem.W.SharedT) : He.AlX := He.obsY (fun _ => ads) fa fn ts tf ex (HandSHeadRun.getT s)
theorem ob_eq (s : PySem.W.SharedT) : ob s = hk.obs s.abs := He.obsY_eq (HandSHeadRun.getT_eq s)
theorem run0 (w : World) : HandSHeadRun.RunEq R (PySem.W.view R.prog [20]) hk ob 8000 nms (w.withFollow "special-get-raises" false) := by
  intro os
  kernel_rfl
theorem run1 (w : World) : HandSHeadRun.RunEq R (PySem.W.view R.prog [20]) hk ob 8000 nms (w.withFollow "special-get-raises" true) := by
  intro os
  kernel_rfl
theorem run (w : World) : HandSHeadRun.RunEq R (PySem.W.view R.prog [20]) hk ob 8000 nms w :=
  PySem.W.byRow2 "special-get-raises" (P := fun w => HandSHeadRun.RunEq R (PySem.W.view R.prog [20]) hk ob 8000 nms w) run0 run1 w
end Bh
end
section
set_option Elab.async false
set_option linter.all false
set_option maxRecDepth 100000
namespace MP
open PySem PySem.Spec PyProof.Rows L2
structure Zt where
  P : Program
  w : World
  K : PySem.W.Frag
  S : List Int
  cls : Nat → Addr
  exc : Nat → Addr
  T : List (Addr × Str)
def ScR (K : PySem.W.Frag) (H : Hp) (a : Addr) (xs : List V) : Prop := (∃ o, H a = some (.frz o (.lst xs))) ∨ ∀ H', SqL K H' a xs
theorem ScR.sq {K : PySem.W.Frag} {H : Hp} {a : Addr} {xs : List V} (h : ScR K H a xs) : SqL K H a xs := by
  rcases h with ⟨o, h⟩ | h
  · exact .inl (.inr ⟨o, h⟩)
  · exact h H
mutual
inductive WR (Z : Zt) (ι : List Addr) (H : Hp) : Wv → V → Prop
  | non : WR Z ι H .non .non
  | bl (b : Bool) : WR Z ι H (.bl b) (.bl b)
  | int (i : Int) : WR Z ι H (.int i) (.int i)
  | str (s : Str) : WR Z ι H (.str s) (.str s)
  | tup {ws : List Wv} {vs : List V} {a : Addr} : SqT Z.K H a vs → WsR Z ι H ws vs → WR Z ι H (.tup ws) (.ref a)
  | ref {l : Nat} {a : Addr} : ι[l]? = some a → WR Z ι H (.ref l) (.ref a)
  | scr {a : Addr} : ScR Z.K H a (Z.S.map V.int) → WR Z ι H .scr (.ref a)
inductive WsR (Z : Zt) (ι : List Addr) (H : Hp) : List Wv → List V → Prop
  | nil : WsR Z ι H [] []
  | cons {w : Wv} {v : V} {ws : List Wv} {vs : List V} : WR Z ι H w v → WsR Z ι H ws vs → WsR Z ι H (w :: ws) (v :: vs)
end
def Imm (o : HO) : Prop := (∃ xs, o = .tup xs) ∨ ∃ ob u, o = .frz ob u ∧ ∀ φ, u ≠ .ext φ
def NoT (o : HO) : Prop := ∀ ps, o ≠ .tbl ps
def Vac (H : Hp) (a : Addr) : Prop := ∀ o, H a = some o → NoT o → False
theorem Vac.of {H : Hp} {a : Addr} (h : H a = none) : Vac H a := fun o e _ => by rw [h] at e; cases e
theorem Vac.upd_ne {H : Hp} {a b : Addr} {ho : HO} (h : Vac (upd H b ho) a) (ne : a ≠ b) : Vac H a := fun o e n => h o (by rw [L2.upd_ne ne]; exact e) n
theorem Vac.upd_self {H : Hp} {b : Addr} {ho : HO} (n : NoT ho) (h : Vac (upd H b ho) b) : False := h ho upd_same n
structure Ext (ι ι' : List Addr) (H H' : Hp) : Prop where
  pre : ∃ κ, ι' = ι ++ κ ∧ ∀ a ∈ κ, Vac H a
  frm : ∀ a o, H a = some o → NoT o → (a ∉ ι ∨ Imm o) → H' a = some o
  frz : ∀ a ob φ, H a = some (.frz ob (.ext φ)) → H' a = some (.frz ob (.ext φ))
  dom : ∀ a, Vac H' a → Vac H a
theorem Imm.noT {o : HO} (h : Imm o) : NoT o := by
  rintro ps rfl
  rcases h with ⟨xs, h⟩ | ⟨ob, u, h, _⟩ <;> cases h
theorem Ext.refl (ι : List Addr) (H : Hp) : Ext ι ι H H := ⟨⟨[], by simp, by simp⟩, fun _ _ h _ _ => h, fun _ _ _ h => h, fun _ h => h⟩
theorem Ext.trans {ι ι1 ι2 : List Addr} {H H1 H2 : Hp} (a : Ext ι ι1 H H1) (b : Ext ι1 ι2 H1 H2) : Ext ι ι2 H H2 := by
  obtain ⟨κ, rfl, hκ⟩ := a.pre
  obtain ⟨κ2, rfl, hκ2⟩ := b.pre
  refine ⟨⟨κ ++ κ2, by simp, fun x hx => ?_⟩, fun x o h nt hx => ?_, fun x ob φ h => b.frz x ob φ (a.frz x ob φ h), fun x h => a.dom x (b.dom x h)⟩
  · rcases List.mem_append.mp hx with z | z
    · exact hκ x z
    · exact a.dom x (hκ2 x z)
  · refine b.frm x o (a.frm x o h nt hx) nt ?_
    rcases hx with z | z
    · refine .inl fun q => ?_
      rcases List.mem_append.mp q with q | q
      · exact z q
      · exact hκ x q o h nt
    · exact .inr z
structure Le (ι ι' : List Addr) (H H' : Hp) : Prop where
  ix : ∀ (l : Nat) (a : Addr), ι[l]? = some a → ι'[l]? = some a
  imm : ∀ a o, H a = some o → Imm o → H' a = some o
theorem Ext.le {ι ι' : List Addr} {H H' : Hp} (e : Ext ι ι' H H') : Le ι ι' H H' := by
  refine ⟨fun l a h => ?_, fun a o h i => e.frm a o h i.noT (.inr i)⟩
  obtain ⟨κ, rfl, _⟩ := e.pre
  rw [List.getElem?_append_left (List.getElem?_eq_some_iff.mp h).1]; exact h
theorem Le.grow (ι κ : List Addr) (H : Hp) : Le ι (ι ++ κ) H H := ⟨fun l a h => by rw [List.getElem?_append_left (List.getElem?_eq_some_iff.mp h).1]; exact h, fun _ _ h _ => h⟩
theorem Le.sqT {ι ι' : List Addr} {H H' : Hp} (e : Le ι ι' H H') {K : PySem.W.Frag} {a : Addr} {xs : List V} (h : SqT K H a xs) : SqT K H' a xs := by
  rcases h with (h | ⟨o, h⟩) | h
  · exact .inl (.inl (e.imm _ _ h (.inl ⟨_, rfl⟩)))
  · exact .inl (.inr ⟨o, e.imm _ _ h (.inr ⟨_, _, rfl, fun φ z => by cases z⟩)⟩)
  · exact .inr h
theorem Le.scR {ι ι' : List Addr} {H H' : Hp} (e : Le ι ι' H H') {K : PySem.W.Frag} {a : Addr} {xs : List V} (h : ScR K H a xs) : ScR K H' a xs := by
  rcases h with ⟨o, h⟩ | h
  · exact .inl ⟨o, e.imm _ _ h (.inr ⟨_, _, rfl, fun φ z => by cases z⟩)⟩
  · exact .inr h
mutual
theorem WR.mono {Z : Zt} {ι ι' : List Addr} {H H' : Hp} (e : Le ι ι' H H') : ∀ {w : Wv} {v : V}, WR Z ι H w v → WR Z ι' H' w v
  | _, _, .non => .non
  | _, _, .bl b => .bl b
  | _, _, .int i => .int i
  | _, _, .str s => .str s
  | _, _, .tup h t => .tup (e.sqT h) (WsR.mono e t)
  | _, _, .ref h => .ref (e.ix _ _ h)
  | _, _, .scr h => .scr (e.scR h)
theorem WsR.mono {Z : Zt} {ι ι' : List Addr} {H H' : Hp} (e : Le ι ι' H H') : ∀ {ws : List Wv} {vs : List V}, WsR Z ι H ws vs → WsR Z ι' H' ws vs
  | _, _, .nil => .nil
  | _, _, .cons h t => .cons (WR.mono e h) (WsR.mono e t)
end
section
variable {Z : Zt} {ι ι' : List Addr} {H H' : Hp}
theorem WsR.length : ∀ {ws : List Wv} {vs : List V}, WsR Z ι H ws vs → ws.length = vs.length
  | _, _, .nil => rfl
  | _, _, .cons _ t => congrArg (· + 1) t.length
theorem WsR.append : ∀ {ws xs : List Wv} {vs ys : List V}, WsR Z ι H ws vs → WsR Z ι H xs ys → WsR Z ι H (ws ++ xs) (vs ++ ys)
  | _, _, _, _, .nil, s => s
  | _, _, _, _, .cons h t, s => .cons h (t.append s)
theorem WsR.get : ∀ {ws : List Wv} {vs : List V} {i : Nat} {w : Wv}, WsR Z ι H ws vs → ws[i]? = some w → ∃ v, vs[i]? = some v ∧ WR Z ι H w v
  | _, _, _, _, .nil, e => by simp at e
  | _, _, 0, _, .cons h _, e => by simp at e; subst e; exact ⟨_, rfl, h⟩
  | _, _, i + 1, _, .cons _ t, e => by
    obtain ⟨v, h1, h2⟩ := t.get (i := i) (by simpa using e)
    exact ⟨v, by simpa using h1, h2⟩
theorem WsR.get2 : ∀ {ws : List Wv} {vs : List V} {i : Nat} {v : V}, WsR Z ι H ws vs → vs[i]? = some v → ∃ w, ws[i]? = some w ∧ WR Z ι H w v
  | _, _, _, _, .nil, e => by simp at e
  | _, _, 0, _, .cons h _, e => by simp at e; subst e; exact ⟨_, rfl, h⟩
  | _, _, i + 1, _, .cons _ t, e => by
    obtain ⟨v, h1, h2⟩ := t.get2 (i := i) (by simpa using e)
    exact ⟨v, by simpa using h1, h2⟩
theorem WsR.set {w : Wv} {v : V} (h : WR Z ι H w v) : ∀ {ws : List Wv} {vs : List V} (i : Nat), WsR Z ι H ws vs → WsR Z ι H (ws.set i w) (vs.set i v)
  | _, _, _, .nil => .nil
  | _, _, 0, .cons _ t => .cons h t
  | _, _, i + 1, .cons q t => .cons q (t.set h i)
theorem WsR.take : ∀ {ws : List Wv} {vs : List V} (n : Nat), WsR Z ι H ws vs → WsR Z ι H (ws.take n) (vs.take n)
  | _, _, 0, _ => .nil
  | _, _, _ + 1, .nil => .nil
  | _, _, n + 1, .cons h t => .cons h (t.take n)
theorem WsR.drop : ∀ {ws : List Wv} {vs : List V} (n : Nat), WsR Z ι H ws vs → WsR Z ι H (ws.drop n) (vs.drop n)
  | _, _, 0, h => h
  | _, _, _ + 1, .nil => .nil
  | _, _, n + 1, .cons _ t => t.drop n
theorem WsR.erase : ∀ {ws : List Wv} {vs : List V} (i : Nat), WsR Z ι H ws vs → WsR Z ι H (ws.eraseIdx i) (vs.eraseIdx i)
  | [], _, _, .nil => .nil
  | _ :: _, _, 0, .cons _ t => t
  | _ :: _, _, i + 1, .cons h t => .cons h (t.erase i)
theorem WsR.rev {ws : List Wv} {vs : List V} (h : WsR Z ι H ws vs) : WsR Z ι H ws.reverse vs.reverse := by
  induction ws generalizing vs with
  | nil => cases h; exact .nil
  | cons w ws ih =>
    cases h with
    | cons h t => rw [List.reverse_cons, List.reverse_cons]; exact (ih t).append (.cons h .nil)
theorem WsR.ints (ns : List Int) : WsR Z ι H (ns.map .int) (ns.map V.int) := by
  induction ns with
  | nil => exact .nil
  | cons n ns ih => exact .cons (.int n) ih
end
mutual
/-- a key -/
def toNK : Wv → NestedKey
  | .int i => .num i
  | .str x => .text x
  | .tup ws => .tup (toNKs ws)
  | .non => .none
  | .bl _ => .none
  | .ref _ => .none
  | .scr => .none
def toNKs : List Wv → List NestedKey
  | [] => []
  | w :: ws => toNK w :: toNKs ws
end
def EnR (Z : Zt) (ι : List Addr) (H : Hp) (p : Wv × Wv) (e : DictEntry) : Prop := ∃ kv vv, RelV kv e.key ∧ WR Z ι H p.1 kv ∧ RelV vv e.val ∧ WR Z ι H p.2 vv ∧ e.hash = (toNK p.1).hash Z.w
def DctO (a : Addr) (o : Obj) : HO := .ext fun h => h.get? a = some o
def lkO (z : Bool) (a : Addr) (o : Obj) : HO := match z with
  | true => .frz o (DctO a o)
  | false => DctO a o
def DctR (Z : Zt) (ι : List Addr) (H : Hp) (a : Addr) (z : Bool) (kvs : List (Wv × Wv)) : Prop :=
  ∃ o es ep, H a = some (lkO z a o) ∧ o.ExactDict ∧ o.data = .dict es ep ∧ (a == sysModules) = false ∧ kvs.length ≤ sizeLine ∧ (kvs.map (·.1)).Nodup ∧
    ((kvs.all fun p => keyA p.1) = true ∨ (kvs.all fun p => keyT p.1) = true) ∧ Paired (EnR Z ι H) kvs es.toList
def FsR (Z : Zt) (ι : List Addr) (H : Hp) : List (Str × Wv) → List (Str × V) → Prop := Paired fun p q => p.1 = q.1 ∧ WR Z ι H p.2 q.2
def OR (Z : Zt) (ι : List Addr) (H : Hp) (a : Addr) : Ob → Prop
  | .lst ws => ∃ vs, H a = some (.lst vs) ∧ WsR Z ι H ws vs
  | .dct z kvs => DctR Z ι H a z kvs
  | .ins c fs => ∃ dx vs, H a = some (.ins (Z.cls c) dx vs) ∧ FsR Z ι H fs vs
theorem lkO_noT (z : Bool) (a : Addr) (o : Obj) : NoT (lkO z a o) := fun ps e => by
  cases z <;> cases e
theorem lkO_noI (z : Bool) (a : Addr) (o : Obj) : ¬ Imm (lkO z a o) := fun h => by
  cases z with
  | true =>
    rcases h with ⟨_, h⟩ | ⟨_, _, h, n⟩
    · cases h
    · cases h; exact n _ rfl
  | false => rcases h with ⟨_, h⟩ | ⟨_, _, h, n⟩ <;> cases h
structure RM (Z : Zt) (ι : List Addr) (M : Mem) (H : Hp) : Prop where
  len : ι.length = M.length
  nd : ι.Nodup
  ob : ∀ (l : Nat) (o : Ob) (a : Addr), M[l]? = some o → ι[l]? = some a → OR Z ι H a o
  tab : LamX.Tabs Z.T H
section
variable {Z : Zt} {ι ι' : List Addr} {H H' : Hp} {M M' : Mem} {a : Addr} {o : Ob}
theorem EnR.mono (e : Le ι ι' H H') {p : Wv × Wv} {d : DictEntry} (h : EnR Z ι H p d) : EnR Z ι' H' p d := by
  obtain ⟨kv, vv, h1, h2, h3, h4, h5⟩ := h
  exact ⟨kv, vv, h1, h2.mono e, h3, h4.mono e, h5⟩
theorem FsR.mono (e : Le ι ι' H H') {fs : List (Str × Wv)} {vs : List (Str × V)} (h : FsR Z ι H fs vs) : FsR Z ι' H' fs vs := L2.Paired.mapP h fun _ _ z => ⟨z.1, z.2.mono e⟩
theorem OR.mono (e : Le ι ι' H H') (k : ∀ ho, H a = some ho → NoT ho → H' a = some ho) (h : OR Z ι H a o) : OR Z ι' H' a o := by
  cases o with
  | lst ws =>
    obtain ⟨vs, h1, h2⟩ := h
    exact ⟨vs, k _ h1 (fun ps z => by cases z), h2.mono e⟩
  | dct z kvs =>
    obtain ⟨o, es, ep, h1, h2, h3, h4, h5, h6, h7, h8⟩ := h
    exact ⟨o, es, ep, k _ h1 (lkO_noT z a o), h2, h3, h4, h5, h6, h7, L2.Paired.mapP h8 fun _ _ z => z.mono e⟩
  | ins c fs =>
    obtain ⟨dx, vs, h1, h2⟩ := h
    exact ⟨dx, vs, k _ h1 (fun ps z => by cases z), h2.mono e⟩
theorem OR.some (h : OR Z ι H a o) : ∃ ho, H a = some ho ∧ NoT ho ∧ ¬ Imm ho := by
  cases o with
  | lst ws =>
    obtain ⟨vs, h1, h2⟩ := h
    exact ⟨_, h1, (fun ps z => by cases z), (fun z => by rcases z with ⟨_, z⟩ | ⟨_, _, z, _⟩ <;> cases z)⟩
  | dct z kvs =>
    obtain ⟨o, es, ep, h1, h2⟩ := h
    exact ⟨_, h1, lkO_noT z a o, lkO_noI z a o⟩
  | ins c fs =>
    obtain ⟨dx, vs, h1, h2⟩ := h
    exact ⟨_, h1, (fun ps z => by cases z), (fun z => by rcases z with ⟨_, z⟩ | ⟨_, _, z, _⟩ <;> cases z)⟩
theorem RM.at (R : RM Z ι M H) {l : Nat} (h : M[l]? = some o) : ∃ a, ι[l]? = some a ∧ OR Z ι H a o := by
  have hl : l < M.length := (List.getElem?_eq_some_iff.mp h).1
  have hl2 : l < ι.length := by rw [R.len]; exact hl
  exact ⟨ι[l], by simp [hl2], R.ob l o _ h (by simp [hl2])⟩
theorem RM.mem (R : RM Z ι M H) (h : a ∈ ι) : ∃ (l : Nat) (o : Ob), ι[l]? = some a ∧ M[l]? = some o ∧ OR Z ι H a o := by
  obtain ⟨l, hl⟩ := List.mem_iff_getElem?.mp h
  have h1 : l < ι.length := (List.getElem?_eq_some_iff.mp hl).1
  have h2 : l < M.length := by rw [← R.len]; exact h1
  exact ⟨l, M[l], hl, by simp [h2], R.ob l _ a (by simp [h2]) hl⟩
theorem RM.notin (R : RM Z ι M H) (h : H a = none) : a ∉ ι := fun hm => by
  obtain ⟨_, _, _, _, q⟩ := R.mem hm
  obtain ⟨ho, q, _⟩ := q.some
  rw [h] at q; cases q
theorem RM.at_ref (R : RM Z ι M H) {l : Nat} (h : M[l]? = some o) {v : V} (w : WR Z ι H (.ref l) v) : ∃ a, v = .ref a ∧ ι[l]? = some a ∧ OR Z ι H a o := by
  cases w with
  | ref e => exact ⟨_, rfl, e, R.ob l o _ h e⟩
theorem Le.fresh (ι : List Addr) {p : Addr} {ho : HO} (hp : H p = none) : Le ι ι H (upd H p ho) := ⟨fun _ _ h => h, fun x o h _ => by rw [upd_ne (ne_of_none h hp)]; exact h⟩
theorem Ext.fresh (ι : List Addr) {p : Addr} {ho : HO} (hp : H p = none) (nt : NoT ho := by intro ps z; cases z) : Ext ι ι H (upd H p ho) :=
  ⟨⟨[], by simp, by simp⟩, fun x o h _ _ => by rw [upd_ne (ne_of_none h hp)]; exact h, fun x ob φ h => by rw [upd_ne (ne_of_none h hp)]; exact h, fun x h => by
    by_cases e : x = p
    · rw [e]; exact Vac.of hp
    · exact h.upd_ne e⟩
theorem tabs_upd {T : List (Addr × Str)} {p : Addr} {ho : HO} (t : LamX.Tabs T H) (hp : H p = none) : LamX.Tabs T (upd H p ho) := t.ext fun b o h => by rw [upd_ne (ne_of_none h hp)]; exact h
theorem RM.fresh (R : RM Z ι M H) {p : Addr} {ho : HO} (hp : H p = none) : RM Z ι M (upd H p ho) :=
  ⟨R.len, R.nd, fun l o a h1 h2 => (R.ob l o a h1 h2).mono (Le.fresh ι hp) fun z q _ => by rw [upd_ne (ne_of_none q hp)]; exact q, tabs_upd R.tab hp⟩
theorem Ext.alloc (ι : List Addr) {p : Addr} {ho : HO} (hp : H p = none) (nt : NoT ho := by intro ps z; cases z) : Ext ι (ι ++ [p]) H (upd H p ho) :=
  ⟨⟨[p], rfl, fun x hx => by rw [List.mem_singleton.mp hx]; exact Vac.of hp⟩, (Ext.fresh ι hp nt).frm, (Ext.fresh ι hp nt).frz, (Ext.fresh (ho := ho) ι hp nt).dom⟩
theorem Ext.told {ι : List Addr} {p : Addr} (hp : Vac H p) (e : Ext ι ι' H H') (hn : p ∉ ι') : Ext ι (ι' ++ [p]) H H' := by
  obtain ⟨κ, rfl, hκ⟩ := e.pre
  refine ⟨⟨κ ++ [p], by simp, fun x hx => ?_⟩, e.frm, e.frz, e.dom⟩
  rcases List.mem_append.mp hx with z | z
  · exact hκ x z
  · rw [List.mem_singleton.mp z]; exact hp
theorem nodup_snoc {l : List Addr} {p : Addr} (h : l.Nodup) (hp : p ∉ l) : (l ++ [p]).Nodup := by
  rw [List.nodup_append]
  exact ⟨h, by simp, fun x hx y hy => by rw [List.mem_singleton.mp hy]; exact fun e => hp (e ▸ hx)⟩
theorem RM.tell (R : RM Z ι M H) {p : Addr} (hn : p ∉ ι) (h : OR Z (ι ++ [p]) H p o) : RM Z (ι ++ [p]) (M ++ [o]) H := by
  refine ⟨by simp [R.len], nodup_snoc R.nd hn, fun l q b h1 h2 => ?_, R.tab⟩
  by_cases hl : l < M.length
  · rw [List.getElem?_append_left hl] at h1
    rw [List.getElem?_append_left (by rw [R.len]; exact hl)] at h2
    exact (R.ob l q b h1 h2).mono (Le.grow ι [p] H) fun _ z _ => z
  · have e : l = M.length := by
      have := (List.getElem?_eq_some_iff.mp h1).1
      simp at this
      omega
    subst e
    rw [List.getElem?_append_right (Nat.le_refl _)] at h1
    rw [List.getElem?_append_right (by rw [R.len]; exact Nat.le_refl _)] at h2
    simp [R.len] at h1 h2
    subst h1 h2
    exact h
theorem Ext.write {M : Mem} (R : RM Z ι M H) {l : Nat} (hl : ι[l]? = some a) {ho : HO} (nf : ∀ ob φ, H a ≠ some (.frz ob (.ext φ))) (nt : NoT ho := by intro ps z; cases z) : Ext ι ι H (upd H a ho) := by
  have hm : a ∈ ι := List.mem_of_getElem? hl
  obtain ⟨_, _, _, _, q⟩ := R.mem hm
  obtain ⟨h0, e0, n0, i0⟩ := q.some
  refine ⟨⟨[], by simp, by simp⟩, fun x o h nt hx => ?_, fun x ob φ h => ?_, fun x h => ?_⟩
  · have : x ≠ a := by
      rintro rfl
      rcases hx with z | z
      · exact z hm
      · rw [e0] at h; cases h; exact i0 z
    rw [upd_ne this]; exact h
  · have : x ≠ a := by
      rintro rfl
      exact nf _ _ h
    rw [upd_ne this]; exact h
  · by_cases e : x = a
    · rw [e] at h; exact (h.upd_self nt).elim
    · exact h.upd_ne e
theorem Le.write {M : Mem} (R : RM Z ι M H) {l : Nat} (hl : ι[l]? = some a) {ho : HO} : Le ι ι H (upd H a ho) := by
  have hm : a ∈ ι := List.mem_of_getElem? hl
  obtain ⟨_, _, _, _, q⟩ := R.mem hm
  obtain ⟨h0, e0, n0, i0⟩ := q.some
  refine ⟨fun _ _ h => h, fun x o h hx => ?_⟩
  have : x ≠ a := by
    rintro rfl
    rw [e0] at h; cases h; exact i0 hx
  rw [upd_ne this]; exact h
theorem tabs_write {T : List (Addr × Str)} {ho h0 : HO} (t : LamX.Tabs T H) (e0 : H a = some h0) (n0 : NoT h0) (nc : ∀ q, h0 ≠ LamX.CodeO a q) : LamX.Tabs T (upd H a ho) := fun p hp => by
  obtain ⟨ps, h1, h2, h3⟩ := t p hp
  have ne : p.1 ≠ a := fun z => by rw [z, e0] at h1; cases h1; exact n0 ps rfl
  refine ⟨ps, by rw [upd_ne ne]; exact h1, h2, fun pos cv hc => ?_⟩
  obtain ⟨c, e1, e2⟩ := h3 pos cv hc
  have nc' : c ≠ a := fun z => by rw [z, e0] at e2; exact nc _ (Option.some.inj e2)
  exact ⟨c, e1, by rw [upd_ne nc']; exact e2⟩
theorem nodup_ixA : ∀ {l : List Addr}, l.Nodup → ∀ {i j : Nat} {x : Addr}, l[i]? = some x → l[j]? = some x → i = j
  | [], _, _, _, _, h, _ => by simp at h
  | a :: l, nd, 0, 0, _, _, _ => rfl
  | a :: l, nd, 0, j + 1, x, h1, h2 => by
    simp at h1 h2
    subst h1
    exact absurd (List.mem_of_getElem? h2) (List.nodup_cons.mp nd).1
  | a :: l, nd, i + 1, 0, x, h1, h2 => by
    simp at h1 h2
    subst h2
    exact absurd (List.mem_of_getElem? h1) (List.nodup_cons.mp nd).1
  | a :: l, nd, i + 1, j + 1, x, h1, h2 => congrArg (· + 1) (nodup_ixA (List.nodup_cons.mp nd).2 (by simpa using h1) (by simpa using h2))
theorem RM.write (R : RM Z ι M H) {l : Nat} {o0 : Ob} {ho h0 : HO} (hM : M[l]? = some o0) (hl : ι[l]? = some a) (e0 : H a = some h0) (n0 : NoT h0) (nc : ∀ q, h0 ≠ LamX.CodeO a q) (h : OR Z ι (upd H a ho) a o) : RM Z ι (M.set l o) (upd H a ho) := by
  refine ⟨by simp [R.len], R.nd, fun j q b h1 h2 => ?_, tabs_write R.tab e0 n0 nc⟩
  have hlt : l < M.length := (List.getElem?_eq_some_iff.mp hM).1
  by_cases hj : l = j
  · subst hj
    rw [List.getElem?_set_self hlt] at h1
    cases h1
    rw [hl] at h2; cases h2
    exact h
  · rw [List.getElem?_set_ne hj] at h1
    have nb : b ≠ a := by
      rintro rfl
      exact hj (nodup_ixA R.nd hl h2)
    exact (R.ob j q b h1 h2).mono (Le.write R hl) fun z e _ => by rw [upd_ne nb]; exact e
theorem RM.alloc (R : RM Z ι M H) {p : Addr} {ho : HO} (hp : H p = none) (h : OR Z (ι ++ [p]) (upd H p ho) p o) : RM Z (ι ++ [p]) (M ++ [o]) (upd H p ho) :=
  (R.fresh hp).tell (R.notin hp) h
theorem snoc_ix (R : RM Z ι M H) (p : Addr) : (ι ++ [p])[M.length]? = some p := by
  rw [← R.len, List.getElem?_append_right (Nat.le_refl _)]; simp
end
end MP
end
section
set_option Elab.async false
set_option linter.all false
set_option maxRecDepth 100000
namespace MP
open PySem PySem.Spec PyProof.Rows L2
structure SR (Z : Zt) (ι : List Addr) (H : Hp) (sw : Sw) (σ : L2.St) : Prop where
  len : sw.length = σ.length
  get : ∀ (i : Nat) (w : Wv), sw[i]? = some (some w) → ∃ v, σ[i]? = some (some v) ∧ WR Z ι H w v
theorem SR.mono {Z : Zt} {ι ι' : List Addr} {H H' : Hp} {sw : Sw} {σ : L2.St} (s : SR Z ι H sw σ) (e : Le ι ι' H H') : SR Z ι' H' sw σ :=
  ⟨s.len, fun i w h => let ⟨v, h1, h2⟩ := s.get i w h; ⟨v, h1, h2.mono e⟩⟩
theorem SR.set {Z : Zt} {ι : List Addr} {H : Hp} {sw : Sw} {σ : L2.St} (s : SR Z ι H sw σ) {w : Wv} {v : V} (r : WR Z ι H w v) (i : Nat) : SR Z ι H (sw.set i (some w)) (σ.set i (some v)) := by
  refine ⟨by simp [s.len], fun j x h => ?_⟩
  by_cases hj : i = j
  · subst hj
    by_cases hi : i < sw.length
    · rw [List.getElem?_set_self hi] at h
      cases h
      exact ⟨v, by rw [List.getElem?_set_self (by rw [← s.len]; exact hi)], r⟩
    · rw [List.getElem?_eq_none (by simpa using hi)] at h; cases h
  · rw [List.getElem?_set_ne hj] at h ⊢
    exact s.get j x h
theorem SR.wipe {Z : Zt} {ι : List Addr} {H : Hp} {sw : Sw} {σ : L2.St} (s : SR Z ι H sw σ) : ∀ vs : List Nat, SR Z ι H (wipeW sw vs) (wipe σ vs)
  | [] => s
  | v :: vs => by
    have t := s.wipe vs
    refine ⟨by simp [wipeW, L2.wipe, t.len], fun j x h => ?_⟩
    unfold wipeW at h
    unfold L2.wipe
    by_cases hj : v = j
    · subst hj
      by_cases hi : v < (wipeW sw vs).length
      · rw [List.getElem?_set_self hi] at h; cases h
      · rw [List.getElem?_eq_none (by simpa using hi)] at h; cases h
    · rw [List.getElem?_set_ne hj] at h ⊢
      exact t.get j x h
abbrev Wish := Nat → L2.St → Hp → Prop
def eOut (Z : Zt) (Wx : Wish) (σ : L2.St) (ι : List Addr) (H : Hp) (r : Out Wv) (Q : VK) : Prop := match r with
  | .ok w M => ∀ v H' ι', Ext ι ι' H H' → RM Z ι' M H' → WR Z ι' H' w v → Q v H'
  | .exc c M => ∀ H' ι', Ext ι ι' H H' → RM Z ι' M H' → Wx c σ H'
  | .bad => False
abbrev Fv := Sw → Mem → Out Wv
def tE (Z : Zt) (Wx : Wish) (f : Fv) : TE := fun σ H Q => ∃ ι sw M, SR Z ι H sw σ ∧ RM Z ι M H ∧ eOut Z Wx σ ι H (f sw M) Q
def aOut (Z : Zt) (Wx : Wish) (σ : L2.St) (ι : List Addr) (H : Hp) (r : Out (List Wv)) (Q : List V → Hp → Prop) : Prop := match r with
  | .ok w M => ∀ v H' ι', Ext ι ι' H H' → RM Z ι' M H' → WsR Z ι' H' w v → Q v H'
  | .exc c M => ∀ H' ι', Ext ι ι' H H' → RM Z ι' M H' → Wx c σ H'
  | .bad => False
def tA (Z : Zt) (Wx : Wish) (f : Sw → Mem → Out (List Wv)) : TA := fun σ H Q => ∃ ι sw M, SR Z ι H sw σ ∧ RM Z ι M H ∧ aOut Z Wx σ ι H (f sw M) Q
def bOut (Z : Zt) (Wx : Wish) (σ : L2.St) (ι : List Addr) (H : Hp) (r : Out Bool) (Q : Bool → Hp → Prop) : Prop := match r with
  | .ok b M => ∀ H' ι', Ext ι ι' H H' → RM Z ι' M H' → Q b H'
  | .exc c M => ∀ H' ι', Ext ι ι' H H' → RM Z ι' M H' → Wx c σ H'
  | .bad => False
def tT (Z : Zt) (Wx : Wish) (f : Sw → Mem → Out Bool) : TT := fun σ H Q => ∃ ι sw M, SR Z ι H sw σ ∧ RM Z ι M H ∧ bOut Z Wx σ ι H (f sw M) Q
def sOut (Z : Zt) (Wx : Wish) (ι : List Addr) (H : Hp) (r : Out (Fl × Sw)) (D : Ends) : Prop := match r with
  | .ok (f, sw) M => ∀ σ' H' ι', Ext ι ι' H H' → RM Z ι' M H' → SR Z ι' H' sw σ' → match f with
    | .nx => D.nx σ' H'
    | .brk => D.bk σ' H'
    | .ct => D.ct σ' H'
    | .ret w => ∀ v, WR Z ι' H' w v → D.rt v H'
  | .exc c M => ∀ σ' H' ι', Ext ι ι' H H' → RM Z ι' M H' → Wx c σ' H'
  | .bad => False
def tS (Z : Zt) (Wx : Wish) (f : Sw → Mem → Out (Fl × Sw)) : TS := fun D σ H => ∃ ι sw M, SR Z ι H sw σ ∧ RM Z ι M H ∧ sOut Z Wx ι H (f sw M) D
theorem _root_.L2.PE.weak {X : Cx} {e : Expr} {t t' : TE} (h : PE X e t) (w : ∀ σ H Q, t' σ H Q → t σ H Q) : PE X e t' := ⟨fun pins s σ H Q I q => h.run pins s σ H Q I (w σ H Q q)⟩
theorem _root_.L2.PT.weak {X : Cx} {e : Expr} {t t' : TT} (h : PT X e t) (w : ∀ σ H Q, t' σ H Q → t σ H Q) : PT X e t' := ⟨fun pins s σ H Q I q => h.run pins s σ H Q I (w σ H Q q)⟩
theorem _root_.L2.PW.weak {X : Cx} {e : Expr} {t t' : TT} (h : PW X e t) (w : ∀ σ H Q, t' σ H Q → t σ H Q) : PW X e t' := ⟨fun wh pins s σ H Q I q => h.run wh pins s σ H Q I (w σ H Q q)⟩
theorem _root_.L2.PA.weak {X : Cx} {e : List Expr} {t t' : TA} (h : PA X e t) (w : ∀ σ H Q, t' σ H Q → t σ H Q) : PA X e t' := ⟨fun pos pins s σ H Q I q => h.run pos pins s σ H Q I (w σ H Q q)⟩
theorem _root_.L2.PS.weak {X : Cx} {e : Stmt} {t t' : TS} (h : PS X e t) (w : ∀ D σ H, t' D σ H → t D σ H) : PS X e t' := ⟨fun pins s σ H D I q => h.run pins s σ H D I (w D σ H q)⟩
theorem _root_.L2.PSs.weak {X : Cx} {e : List Stmt} {t t' : TS} (h : PSs X e t) (w : ∀ D σ H, t' D σ H → t D σ H) : PSs X e t' := ⟨fun pins s σ H D I q => h.run pins s σ H D I (w D σ H q)⟩
section
variable {Z : Zt} {Wx : Wish} {σ : L2.St} {ι ι1 : List Addr} {H H1 : Hp} {sw : Sw} {M : Mem}
theorem eOut.shift {r : Out Wv} {Q : VK} (e : Ext ι ι1 H H1) (h : eOut Z Wx σ ι H r Q) : eOut Z Wx σ ι1 H1 r Q := by
  cases r with
  | ok w M' => exact fun v H' ι' x R q => h v H' ι' (e.trans x) R q
  | exc c M' => exact fun H' ι' x R => h H' ι' (e.trans x) R
  | bad => exact h
theorem aOut.shift {r : Out (List Wv)} {Q : List V → Hp → Prop} (e : Ext ι ι1 H H1) (h : aOut Z Wx σ ι H r Q) : aOut Z Wx σ ι1 H1 r Q := by
  cases r with
  | ok w M' => exact fun v H' ι' x R q => h v H' ι' (e.trans x) R q
  | exc c M' => exact fun H' ι' x R => h H' ι' (e.trans x) R
  | bad => exact h
theorem bOut.shift {r : Out Bool} {Q : Bool → Hp → Prop} (e : Ext ι ι1 H H1) (h : bOut Z Wx σ ι H r Q) : bOut Z Wx σ ι1 H1 r Q := by
  cases r with
  | ok w M' => exact fun H' ι' x R => h H' ι' (e.trans x) R
  | exc c M' => exact fun H' ι' x R => h H' ι' (e.trans x) R
  | bad => exact h
theorem sOut.shift {r : Out (Fl × Sw)} {D : Ends} (e : Ext ι ι1 H H1) (h : sOut Z Wx ι H r D) : sOut Z Wx ι1 H1 r D := by
  cases r with
  | ok w M' => exact fun σ' H' ι' x R q => h σ' H' ι' (e.trans x) R q
  | exc c M' => exact fun σ' H' ι' x R => h σ' H' ι' (e.trans x) R
  | bad => exact h
theorem tE.run {α : Type} {f : Fv} {g : Wv → Mem → Out α} {R : VK} (s : SR Z ι H sw σ) (R0 : RM Z ι M H)
    (hx : ∀ c M', f sw M = .exc c M' → ∀ H' ι', Ext ι ι' H H' → RM Z ι' M' H' → Wx c σ H') (hb : f sw M ≠ .bad)
    (hk : ∀ w M1, f sw M = .ok w M1 → ∀ v H1 ι1, Ext ι ι1 H H1 → RM Z ι1 M1 H1 → WR Z ι1 H1 w v → SR Z ι1 H1 sw σ → R v H1) : tE Z Wx f σ H R := by
  refine ⟨ι, sw, M, s, R0, ?_⟩
  cases e : f sw M with
  | ok w M1 => exact fun v H' ι' x R q => hk w M1 e v H' ι' x R q (s.mono x.le)
  | exc c M1 => exact fun H' ι' x R => hx c M1 e H' ι' x R
  | bad => exact absurd e hb
theorem tE.seqE {f : Fv} {g : Wv → Mem → Out Wv} {Q R : VK} (s : SR Z ι H sw σ) (R0 : RM Z ι M H) (h : eOut Z Wx σ ι H ((f sw M).bind g) Q)
    (hk : ∀ w M1 v H1 ι1, Ext ι ι1 H H1 → RM Z ι1 M1 H1 → WR Z ι1 H1 w v → SR Z ι1 H1 sw σ → eOut Z Wx σ ι1 H1 (g w M1) Q → R v H1) : tE Z Wx f σ H R := by
  refine ⟨ι, sw, M, s, R0, ?_⟩
  cases e : f sw M with
  | ok w M1 =>
    rw [e] at h
    exact fun v H' ι' x R q => hk w M1 v H' ι' x R q (s.mono x.le) (h.shift x)
  | exc c M1 => rw [e] at h; exact h
  | bad => rw [e] at h; exact h
theorem tE.seqA {f : Fv} {g : Wv → Mem → Out (List Wv)} {Q : List V → Hp → Prop} {R : VK} (s : SR Z ι H sw σ) (R0 : RM Z ι M H) (h : aOut Z Wx σ ι H ((f sw M).bind g) Q)
    (hk : ∀ w M1 v H1 ι1, Ext ι ι1 H H1 → RM Z ι1 M1 H1 → WR Z ι1 H1 w v → SR Z ι1 H1 sw σ → aOut Z Wx σ ι1 H1 (g w M1) Q → R v H1) : tE Z Wx f σ H R := by
  refine ⟨ι, sw, M, s, R0, ?_⟩
  cases e : f sw M with
  | ok w M1 =>
    rw [e] at h
    exact fun v H' ι' x R q => hk w M1 v H' ι' x R q (s.mono x.le) (h.shift x)
  | exc c M1 => rw [e] at h; exact h
  | bad => rw [e] at h; exact h
theorem tE.seqB {f : Fv} {g : Wv → Mem → Out Bool} {Q : Bool → Hp → Prop} {R : VK} (s : SR Z ι H sw σ) (R0 : RM Z ι M H) (h : bOut Z Wx σ ι H ((f sw M).bind g) Q)
    (hk : ∀ w M1 v H1 ι1, Ext ι ι1 H H1 → RM Z ι1 M1 H1 → WR Z ι1 H1 w v → SR Z ι1 H1 sw σ → bOut Z Wx σ ι1 H1 (g w M1) Q → R v H1) : tE Z Wx f σ H R := by
  refine ⟨ι, sw, M, s, R0, ?_⟩
  cases e : f sw M with
  | ok w M1 =>
    rw [e] at h
    exact fun v H' ι' x R q => hk w M1 v H' ι' x R q (s.mono x.le) (h.shift x)
  | exc c M1 => rw [e] at h; exact h
  | bad => rw [e] at h; exact h
theorem tE.seqS {f : Fv} {g : Wv → Mem → Out (Fl × Sw)} {D : Ends} {R : VK} (s : SR Z ι H sw σ) (R0 : RM Z ι M H) (h : sOut Z Wx ι H ((f sw M).bind g) D)
    (hk : ∀ w M1 v H1 ι1, Ext ι ι1 H H1 → RM Z ι1 M1 H1 → WR Z ι1 H1 w v → SR Z ι1 H1 sw σ → sOut Z Wx ι1 H1 (g w M1) D → R v H1) : tE Z Wx f σ H R := by
  refine ⟨ι, sw, M, s, R0, ?_⟩
  cases e : f sw M with
  | ok w M1 =>
    rw [e] at h
    exact fun v H' ι' x R q => hk w M1 v H' ι' x R q (s.mono x.le) (h.shift x)
  | exc c M1 =>
    rw [e] at h
    exact fun H' ι' x R => h σ H' ι' x R
  | bad => rw [e] at h; exact h
theorem tA.seqE {f : Sw → Mem → Out (List Wv)} {g : List Wv → Mem → Out Wv} {Q : VK} {R : List V → Hp → Prop} (s : SR Z ι H sw σ) (R0 : RM Z ι M H) (h : eOut Z Wx σ ι H ((f sw M).bind g) Q)
    (hk : ∀ w M1 v H1 ι1, Ext ι ι1 H H1 → RM Z ι1 M1 H1 → WsR Z ι1 H1 w v → SR Z ι1 H1 sw σ → eOut Z Wx σ ι1 H1 (g w M1) Q → R v H1) : tA Z Wx f σ H R := by
  refine ⟨ι, sw, M, s, R0, ?_⟩
  cases e : f sw M with
  | ok w M1 =>
    rw [e] at h
    exact fun v H' ι' x R q => hk w M1 v H' ι' x R q (s.mono x.le) (h.shift x)
  | exc c M1 => rw [e] at h; exact h
  | bad => rw [e] at h; exact h
theorem tA.seqA {f : Sw → Mem → Out (List Wv)} {g : List Wv → Mem → Out (List Wv)} {Q : List V → Hp → Prop} {R : List V → Hp → Prop} (s : SR Z ι H sw σ) (R0 : RM Z ι M H) (h : aOut Z Wx σ ι H ((f sw M).bind g) Q)
    (hk : ∀ w M1 v H1 ι1, Ext ι ι1 H H1 → RM Z ι1 M1 H1 → WsR Z ι1 H1 w v → SR Z ι1 H1 sw σ → aOut Z Wx σ ι1 H1 (g w M1) Q → R v H1) : tA Z Wx f σ H R := by
  refine ⟨ι, sw, M, s, R0, ?_⟩
  cases e : f sw M with
  | ok w M1 =>
    rw [e] at h
    exact fun v H' ι' x R q => hk w M1 v H' ι' x R q (s.mono x.le) (h.shift x)
  | exc c M1 => rw [e] at h; exact h
  | bad => rw [e] at h; exact h
theorem tT.seqE {f : Sw → Mem → Out Bool} {g : Bool → Mem → Out Wv} {Q : VK} {R : Bool → Hp → Prop} (s : SR Z ι H sw σ) (R0 : RM Z ι M H) (h : eOut Z Wx σ ι H ((f sw M).bind g) Q)
    (hk : ∀ b M1 H1 ι1, Ext ι ι1 H H1 → RM Z ι1 M1 H1 → SR Z ι1 H1 sw σ → eOut Z Wx σ ι1 H1 (g b M1) Q → R b H1) : tT Z Wx f σ H R := by
  refine ⟨ι, sw, M, s, R0, ?_⟩
  cases e : f sw M with
  | ok w M1 =>
    rw [e] at h
    exact fun H' ι' x R => hk w M1 H' ι' x R (s.mono x.le) (h.shift x)
  | exc c M1 => rw [e] at h; exact h
  | bad => rw [e] at h; exact h
theorem tT.seqB {f : Sw → Mem → Out Bool} {g : Bool → Mem → Out Bool} {Q : Bool → Hp → Prop} {R : Bool → Hp → Prop} (s : SR Z ι H sw σ) (R0 : RM Z ι M H) (h : bOut Z Wx σ ι H ((f sw M).bind g) Q)
    (hk : ∀ b M1 H1 ι1, Ext ι ι1 H H1 → RM Z ι1 M1 H1 → SR Z ι1 H1 sw σ → bOut Z Wx σ ι1 H1 (g b M1) Q → R b H1) : tT Z Wx f σ H R := by
  refine ⟨ι, sw, M, s, R0, ?_⟩
  cases e : f sw M with
  | ok w M1 =>
    rw [e] at h
    exact fun H' ι' x R => hk w M1 H' ι' x R (s.mono x.le) (h.shift x)
  | exc c M1 => rw [e] at h; exact h
  | bad => rw [e] at h; exact h
theorem tT.seqS {f : Sw → Mem → Out Bool} {g : Bool → Mem → Out (Fl × Sw)} {D : Ends} {R : Bool → Hp → Prop} (s : SR Z ι H sw σ) (R0 : RM Z ι M H) (h : sOut Z Wx ι H ((f sw M).bind g) D)
    (hk : ∀ b M1 H1 ι1, Ext ι ι1 H H1 → RM Z ι1 M1 H1 → SR Z ι1 H1 sw σ → sOut Z Wx ι1 H1 (g b M1) D → R b H1) : tT Z Wx f σ H R := by
  refine ⟨ι, sw, M, s, R0, ?_⟩
  cases e : f sw M with
  | ok w M1 =>
    rw [e] at h
    exact fun H' ι' x R => hk w M1 H' ι' x R (s.mono x.le) (h.shift x)
  | exc c M1 =>
    rw [e] at h
    exact fun H' ι' x R => h σ H' ι' x R
  | bad => rw [e] at h; exact h
theorem eOut.val {w : Wv} {v : V} {Q : VK} (h : eOut Z Wx σ ι H (.ok w M) Q) (R : RM Z ι M H) (q : WR Z ι H w v) : Q v H := h v H ι (Ext.refl ι H) R q
theorem eOut.chk {b : Bool} {r : Out Wv} {Q : VK} (h : eOut Z Wx σ ι H (.chk b r) Q) : b = true ∧ eOut Z Wx σ ι H r Q := by
  cases b with
  | true => exact ⟨rfl, h⟩
  | false => exact False.elim h
theorem eOut.ofO {o : Option Wv} {Q : VK} (h : eOut Z Wx σ ι H (.ofO o M) Q) : ∃ w, o = some w ∧ eOut Z Wx σ ι H (.ok w M) Q := by
  cases o with
  | some w => exact ⟨w, rfl, h⟩
  | none => exact False.elim h
theorem eOut.ofOb {α : Type} {o : Option α} {g : α → Mem → Out Wv} {Q : VK} (h : eOut Z Wx σ ι H ((Out.ofO o M).bind g) Q) : ∃ w, o = some w ∧ eOut Z Wx σ ι H (g w M) Q := by
  cases o with
  | some w => exact ⟨w, rfl, h⟩
  | none => exact False.elim h
end
def rOut (Z : Zt) (ι : List Addr) (H : Hp) (r : Out Wv) (Q : VK) : Prop := match r with
  | .ok w M => ∀ v H' ι', Ext ι ι' H H' → RM Z ι' M H' → WR Z ι' H' w v → Q v H'
  | _ => False
def Prim {α : Type} (r : Out α) : Prop := ∀ c M, r ≠ .exc c M
theorem Prim.out {Z : Zt} {Wx : Wish} {σ : L2.St} {ι : List Addr} {H : Hp} {r : Out Wv} {Q : VK} (p : Prim r) (h : eOut Z Wx σ ι H r Q) : rOut Z ι H r Q := by
  cases r with
  | ok w M => exact h
  | exc c M => exact absurd rfl (p c M)
  | bad => exact h
theorem Prim.chk {α : Type} {b : Bool} {r : Out α} (p : Prim r) : Prim (.chk b r) := by
  cases b with
  | true => exact p
  | false => intro c M e; cases e
theorem Prim.ofO {α : Type} {o : Option α} {M : Mem} : Prim (Out.ofO o M) := by
  cases o <;> (intro c M e; cases e)
theorem Prim.ok {α : Type} {a : α} {M : Mem} : Prim (Out.ok a M) := fun c M e => by cases e
theorem Prim.bad {α : Type} : Prim (Out.bad : Out α) := fun c M e => by cases e
theorem Prim.bind {α β : Type} {r : Out α} {g : α → Mem → Out β} (p : Prim r) (q : ∀ a M, Prim (g a M)) : Prim (r.bind g) := by
  cases r with
  | ok a M => exact q a M
  | exc c M => exact absurd rfl (p c M)
  | bad => exact Prim.bad
def r2 (Z : Zt) (F : Wv → Wv → Mem → Out Wv) : R2 := fun x y H Q => ∃ ι M a b, RM Z ι M H ∧ WR Z ι H a x ∧ WR Z ι H b y ∧ rOut Z ι H (F a b M) Q
def r1 (Z : Zt) (F : Wv → Mem → Out Wv) : V → Hp → VK → Prop := fun x H Q => ∃ ι M a, RM Z ι M H ∧ WR Z ι H a x ∧ rOut Z ι H (F a M) Q
def rN (Z : Zt) (F : List Wv → Mem → Out Wv) : List V → Hp → VK → Prop := fun xs H Q => ∃ ι M ws, RM Z ι M H ∧ WsR Z ι H ws xs ∧ rOut Z ι H (F ws M) Q
section
variable {Z : Zt} {ι : List Addr} {H : Hp} {M : Mem}
theorem rOut.chk {b : Bool} {r : Out Wv} {Q : VK} (h : rOut Z ι H (.chk b r) Q) : b = true ∧ rOut Z ι H r Q := by
  cases b with
  | true => exact ⟨rfl, h⟩
  | false => exact False.elim h
theorem rOut.ofO {o : Option Wv} {Q : VK} (h : rOut Z ι H (.ofO o M) Q) : ∃ w, o = some w ∧ rOut Z ι H (.ok w M) Q := by
  cases o with
  | some w => exact ⟨w, rfl, h⟩
  | none => exact False.elim h
theorem rOut.ofOb {α : Type} {o : Option α} {g : α → Mem → Out Wv} {Q : VK} (h : rOut Z ι H ((Out.ofO o M).bind g) Q) : ∃ w, o = some w ∧ rOut Z ι H (g w M) Q := by
  cases o with
  | some w => exact ⟨w, rfl, h⟩
  | none => exact False.elim h
theorem rOut.val {w : Wv} {v : V} {Q : VK} (h : rOut Z ι H (.ok w M) Q) (R : RM Z ι M H) (q : WR Z ι H w v) : Q v H := h v H ι (Ext.refl ι H) R q
theorem rOut.lst {ws : List Wv} {vs : List V} {p : Addr} {Q : VK} (h : rOut Z ι H (.ok (.ref M.length) (M ++ [.lst ws])) Q) (R : RM Z ι M H) (q : WsR Z ι H ws vs) (hp : H p = none) : Q (.ref p) (upd H p (.lst vs)) := by
  have ex := Ext.alloc (ho := .lst vs) ι hp
  exact h (.ref p) _ (ι ++ [p]) ex (R.alloc hp ⟨vs, upd_same, q.mono ex.le⟩) (.ref (snoc_ix R p))
theorem rOut.tup {ws : List Wv} {vs : List V} {p : Addr} {Q : VK} (h : rOut Z ι H (.ok (.tup ws) M) Q) (R : RM Z ι M H) (q : WsR Z ι H ws vs) (hp : H p = none) : Q (.ref p) (upd H p (.tup vs)) := by
  have ex := Ext.fresh (ho := .tup vs) ι hp
  exact h (.ref p) _ ι ex (R.fresh hp) (.tup (SqT.of upd_same) (q.mono ex.le))
end
section
variable {Z : Zt} {Wx : Wish} {X : Cx} {a b : Expr} {f g : Fv} {pos : Pos}
theorem se_bin {op : Operator} {F : Wv → Wv → Mem → Out Wv} (hp : ∀ x y M, Prim (F x y M)) (ho : OpR X (binaryOp op) (r2 Z F)) (ha : PE X a (tE Z Wx f)) (hb : PE X b (tE Z Wx g)) :
    PE X (.BinOp a op b pos) (tE Z Wx fun sw M => (f sw M).bind fun x M => (g sw M).bind fun y M => F x y M) :=
  (pe_op ho ha hb).weak fun σ H Q ⟨ι, sw, M, s, R, h⟩ => tE.seqE s R h fun x M1 v H1 ι1 e1 R1 q1 s1 h1 => tE.seqE s1 R1 h1 fun y M2 u H2 ι2 e2 R2 q2 s2 h2 => ⟨ι2, M2, x, y, R2, q1.mono e2.le, q2, (hp x y M2).out h2⟩
theorem se_cmp {op : CmpOp} {F : Wv → Wv → Mem → Out Wv} (hp : ∀ x y M, Prim (F x y M)) (ho : OpR X (compareOp op) (r2 Z F)) (ha : PE X a (tE Z Wx f)) (hb : PE X b (tE Z Wx g)) (hm : behindInMarks op b = false) :
    PE X (.Compare a [op] [b] pos) (tE Z Wx fun sw M => (f sw M).bind fun x M => (g sw M).bind fun y M => F x y M) :=
  (pe_cmpR ho ha hb hm).weak fun σ H Q ⟨ι, sw, M, s, R, h⟩ => tE.seqE s R h fun x M1 v H1 ι1 e1 R1 q1 s1 h1 => tE.seqE s1 R1 h1 fun y M2 u H2 ι2 e2 R2 q2 s2 h2 => ⟨ι2, M2, x, y, R2, q1.mono e2.le, q2, (hp x y M2).out h2⟩
theorem se_ix {F : Wv → Wv → Mem → Out Wv} (hp : ∀ x y M, Prim (F x y M)) (ho : IxR X (r2 Z F)) (ha : PE X a (tE Z Wx f)) (hb : PE X b (tE Z Wx g)) (hs : PlainIx b) :
    PE X (.Subscript a b pos) (tE Z Wx fun sw M => (f sw M).bind fun x M => (g sw M).bind fun y M => F x y M) :=
  (pe_ix ho ha hb hs).weak fun σ H Q ⟨ι, sw, M, s, R, h⟩ => tE.seqE s R h fun x M1 v H1 ι1 e1 R1 q1 s1 h1 => tE.seqE s1 R1 h1 fun y M2 u H2 ι2 e2 R2 q2 s2 h2 => ⟨ι2, M2, x, y, R2, q1.mono e2.le, q2, (hp x y M2).out h2⟩
theorem se_var {i : Nat} {x : Str} (hN : X.N[i]? = some x) (hv : Vis X.env.scope x) (hd : (x == ("__debug__" : Str)) = false) (hcd : (x == ("__classdict__" : Str)) = false) : PE X (.Name x pos) (tE Z Wx fun sw M => .ofO (getV i sw) M) :=
  (pe_var hN hv hd hcd).weak fun σ H Q ⟨ι, sw, M, s, R, h⟩ => by
    obtain ⟨w, e, h⟩ := h.ofO
    unfold getV at e
    cases q : sw[i]? with
    | none => rw [q] at e; cases e
    | some o =>
      rw [q] at e
      cases o with
      | none => cases e
      | some u =>
        cases e
        obtain ⟨v, e1, e2⟩ := s.get i w q
        exact ⟨v, e1, h.val R e2⟩
theorem se_con {e : Expr} {w : Wv} {v : V} (he : PE X e (tC v)) (r : ∀ ι H, WR Z ι H w v) : PE X e (tE Z Wx fun _ M => .ok w M) :=
  he.weak fun σ H Q ⟨ι, sw, M, s, R, h⟩ => h.val R (r ι H)
theorem sa_nil : PA X [] (tA Z Wx fun _ M => .ok [] M) := pa_nil.weak fun σ H Q ⟨ι, sw, M, s, R, h⟩ => h [] H ι (Ext.refl ι H) R .nil
theorem sa_cons {es : List Expr} {g : Sw → Mem → Out (List Wv)} (ha : PE X a (tE Z Wx f)) (hr : PA X es (tA Z Wx g)) (hs : starEach (a :: es) X.env = (false, eval a X.env) :: starEach es X.env) :
    PA X (a :: es) (tA Z Wx fun sw M => (f sw M).bind fun w M => (g sw M).bind fun ws M => .ok (w :: ws) M) :=
  (pa_cons ha hr hs).weak fun σ H Q ⟨ι, sw, M, s, R, h⟩ => tE.seqA s R h fun x M1 v H1 ι1 e1 R1 q1 s1 h1 => tA.seqA s1 R1 h1 fun y M2 u H2 ι2 e2 R2 q2 s2 h2 => h2 (v :: u) H2 ι2 (Ext.refl ι2 H2) R2 (.cons (q1.mono e2.le) q2)
theorem se_tup {es : List Expr} {k : Nat} {g : Sw → Mem → Out (List Wv)} (ha : PA X es (tA Z Wx g)) : PE X (.Tuple es k pos) (tE Z Wx fun sw M => (g sw M).bind fun ws M => .chk (lenOk ws.length) (.ok (.tup ws) M)) :=
  (pe_tup ha).weak fun σ H Q ⟨ι, sw, M, s, R, h⟩ => tA.seqE s R h fun ws M1 vs H1 ι1 e1 R1 q1 s1 h1 => by
    obtain ⟨c, h2⟩ := h1.chk
    have hz : vs.length ≤ sizeLine := by rw [← q1.length]; exact of_decide_eq_true c
    exact ⟨hz, fun p hp => rOut.tup (M := M1) (Z := Z) (ι := ι1) h2 R1 q1 hp⟩
theorem se_lst {es : List Expr} {g : Sw → Mem → Out (List Wv)} (ha : PA X es (tA Z Wx g)) : PE X (.List es pos) (tE Z Wx fun sw M => (g sw M).bind fun ws M => .chk (lenOk ws.length) (.ok (.ref M.length) (M ++ [.lst ws]))) :=
  (pe_lst ha).weak fun σ H Q ⟨ι, sw, M, s, R, h⟩ => tA.seqE s R h fun ws M1 vs H1 ι1 e1 R1 q1 s1 h1 => by
    obtain ⟨c, h2⟩ := h1.chk
    have hz : vs.length ≤ sizeLine := by rw [← q1.length]; exact of_decide_eq_true c
    exact ⟨hz, fun p hp => rOut.lst (M := M1) (Z := Z) (ι := ι1) h2 R1 q1 hp⟩
theorem se_callB {id : String} {x : Str} {p : Pos} {e : Expr} {es : List Expr} {F : List Wv → Mem → Out Wv} {g : Sw → Mem → Out (List Wv)} (hp : ∀ ws M, Prim (F ws M)) (hc : CallR X (.builtin id) (rN Z F)) (hg : Gl X x) (hm : X.mg x = none) (hv : bootBuiltins x = some (.builtin id))
    (ha : PA X (e :: es) (tA Z Wx g)) (hn : x ≠ "__name__") (hdb : (x == ("__debug__" : Str)) = false) (he : starEach (e :: es) X.env = (false, eval e X.env) :: starEach es X.env) (hpl : (backTo pos (starEach es X.env)).any (·.1) = false) :
    PE X (.Call (.Name x p) (e :: es) [] pos) (tE Z Wx fun sw M => (g sw M).bind fun ws M => F ws M) :=
  (pe_callB hc hg hm hv ha hn hdb he hpl).weak fun σ H Q ⟨ι, sw, M, s, R, h⟩ => tA.seqE s R h fun ws M1 vs H1 ι1 e1 R1 q1 s1 h1 => ⟨ι1, M1, ws, R1, q1, (hp ws M1).out h1⟩
theorem se_callTy {T : String} {x : Str} {p : Pos} {e : Expr} {es : List Expr} {F : List Wv → Mem → Out Wv} {g : Sw → Mem → Out (List Wv)} (hp : ∀ ws M, Prim (F ws M)) (hc : CallR X (.type T) (rN Z F)) (hg : Gl X x) (hm : X.mg x = none) (hv : bootBuiltins x = some (.type T))
    (ha : PA X (e :: es) (tA Z Wx g)) (hn : x ≠ "__name__") (hdb : (x == ("__debug__" : Str)) = false) (he : starEach (e :: es) X.env = (false, eval e X.env) :: starEach es X.env) (hpl : (backTo pos (starEach es X.env)).any (·.1) = false) :
    PE X (.Call (.Name x p) (e :: es) [] pos) (tE Z Wx fun sw M => (g sw M).bind fun ws M => F ws M) :=
  (pe_callTy hc hg hm hv ha hn hdb he hpl).weak fun σ H Q ⟨ι, sw, M, s, R, h⟩ => tA.seqE s R h fun ws M1 vs H1 ι1 e1 R1 q1 s1 h1 => ⟨ι1, M1, ws, R1, q1, (hp ws M1).out h1⟩
end
end MP
end
section
set_option Elab.async false
set_option linter.all false
set_option maxRecDepth 100000
namespace MP
open PySem PySem.Spec PyProof.Rows L2
structure XOk (X : Cx) (Z : Zt) : Prop where
  K : X.K = Z.K
  P : X.prog = Z.P
  w : X.w = Z.w
  calm : X.calm = true
  un : X.A.units + 200 < cLine
  gd : X.A.guards = some []
section
variable {Z : Zt} {X : Cx} {G : Pg}
theorem prim_bin (o : Op) (x y : Wv) (M : Mem) : Prim (binW o x y M) := by
  unfold binW
  split <;> first
    | exact Prim.ok
    | exact Prim.ok.chk
    | exact Prim.bad
    | (split <;> first | exact Prim.ok.chk | exact Prim.bad)
theorem op_addW (k : XOk X Z) : OpR X (binaryOp .Add) (r2 Z (binW .add)) := by
  intro pins s σ H x y v u Q I rx ry h
  obtain ⟨ι, M, a, b, R, wa, wb, h⟩ := h
  cases wa with
  | int i =>
    cases wb with
    | int j => exact op_add pins s σ H _ _ v u Q I rx ry ⟨i, j, rfl, rfl, h.val R (.int _)⟩
    | _ => exact False.elim h
  | str i =>
    cases wb with
    | str j =>
      obtain ⟨c, h⟩ := h.chk
      exact op_add_str pins s σ H _ _ v u Q I rx ry ⟨i, j, rfl, rfl, of_decide_eq_true c, h.val R (.str _)⟩
    | _ => exact False.elim h
  | tup ha ta =>
    cases wb with
    | tup hb tb =>
      obtain ⟨c, h⟩ := h.chk
      have hz := of_decide_eq_true c
      rw [ta.length, tb.length] at hz
      refine op_catA pins s σ H _ _ v u Q I rx ry ⟨_, _, _, _, rfl, rfl, by rw [k.K]; exact ha, by rw [k.K]; exact hb, hz, fun e => ?_, fun _ e => ?_, fun _ _ p hp => h.tup R (ta.append tb) hp⟩
      · subst e
        cases ta
        exact h.val R (.tup hb tb)
      · subst e
        cases tb
        exact h.val R (.tup ha (by rw [List.append_nil]; exact ta))
    | _ => exact False.elim h
  | ref ea =>
    rename_i la aa
    cases wb with
    | ref eb =>
      rename_i lb ab
      have h2 : rOut Z ι H (match M[la]?, M[lb]? with
        | some (.lst xs), some (.lst ys) => .chk (lenOk (xs.length + ys.length)) (.ok (.ref M.length) (M ++ [.lst (xs ++ ys)]))
        | _, _ => .bad) Q := h
      split at h2
      · rename_i xs ys ex ey
        obtain ⟨c, h3⟩ := h2.chk
        obtain ⟨vs, e1, q1⟩ := R.ob _ _ _ ex ea
        obtain ⟨us, e2, q2⟩ := R.ob _ _ _ ey eb
        have hz := of_decide_eq_true c
        rw [q1.length, q2.length] at hz
        exact op_cat pins s σ H _ _ v u Q I rx ry ⟨_, _, vs, us, rfl, rfl, e1, e2, hz, fun p hp => h3.lst R (q1.append q2) hp⟩
      · exact False.elim h2
    | _ => exact False.elim h
  | _ => exact False.elim h
theorem op_subW : OpR X (binaryOp .Sub) (r2 Z (binW .sub)) := by
  intro pins s σ H x y v u Q I rx ry h
  obtain ⟨ι, M, a, b, R, wa, wb, h⟩ := h
  cases wa with
  | int i =>
    cases wb with
    | int j => exact op_sub pins s σ H _ _ v u Q I rx ry ⟨i, j, rfl, rfl, h.val R (.int _)⟩
    | _ => exact False.elim h
  | _ => exact False.elim h
theorem mulOk_c {i j : Int} (h : mulOk i j = true) : CMul i j := by
  unfold mulOk at h
  rw [Bool.or_eq_true, decide_eq_true_eq, decide_eq_true_eq] at h
  rcases h with h | h
  · exact .inl ⟨by omega, by omega⟩
  · exact .inr ⟨by omega, by omega⟩
theorem op_mulW' : OpR X (binaryOp .Mult) (r2 Z (binW .mul)) := by
  intro pins s σ H x y v u Q I rx ry h
  obtain ⟨ι, M, a, b, R, wa, wb, h⟩ := h
  cases wa with
  | int i =>
    cases wb with
    | int j =>
      obtain ⟨c, h⟩ := h.chk
      exact op_mul pins s σ H _ _ v u Q I rx ry ⟨i, j, rfl, rfl, mulOk_c c, h.val R (.int _)⟩
    | _ => exact False.elim h
  | ref ea =>
    rename_i la aa
    cases wb with
    | int n =>
      have h2 : rOut Z ι H (match M[la]? with
        | some (.lst xs) => .chk (decide (0 ≤ n) && decide (n ≤ 1000) && lenOk (xs.length * n.toNat)) (.ok (.ref M.length) (M ++ [.lst (List.replicate n.toNat xs).flatten]))
        | _ => .bad) Q := h
      split at h2
      · rename_i xs ex
        obtain ⟨c, h3⟩ := h2.chk
        rw [Bool.and_eq_true, Bool.and_eq_true] at c
        obtain ⟨⟨c1, c2⟩, c3⟩ := c
        have c1 := of_decide_eq_true c1
        have c2 := of_decide_eq_true c2
        obtain ⟨vs, e1, q1⟩ := R.ob _ _ _ ex ea
        have hz : vs.length * n.toNat ≤ sizeLine := by
          have := of_decide_eq_true c3
          rw [q1.length] at this
          exact this
        refine op_rep pins s σ H _ _ v u Q I rx ry ⟨_, n, vs, rfl, rfl, e1, by omega, by omega, hz, fun p hp => h3.lst R ?_ hp⟩
        generalize n.toNat = m
        clear hz c3 c1 c2 h3 h2 h
        induction m with
        | zero => exact .nil
        | succ m ih =>
          rw [List.replicate_succ, List.replicate_succ, List.flatten_cons, List.flatten_cons]
          exact q1.append ih
      · exact False.elim h2
    | _ => exact False.elim h
  | _ => exact False.elim h
theorem op_fdivW' : OpR X (binaryOp .FloorDiv) (r2 Z (binW .fdiv)) := by
  intro pins s σ H x y v u Q I rx ry h
  obtain ⟨ι, M, a, b, R, wa, wb, h⟩ := h
  cases wa with
  | int i =>
    cases wb with
    | int j =>
      obtain ⟨c, h⟩ := h.chk
      rw [Bool.and_eq_true, decide_eq_true_eq, decide_eq_true_eq] at c
      have hj : j.natAbs < 2 ^ 200 := by omega
      exact op_fdivW pins s σ H _ _ v u Q I rx ry ⟨i, j, rfl, rfl, wide_div c.1 hj (by decide) (by decide), h.val R (.int _)⟩
    | _ => exact False.elim h
  | _ => exact False.elim h
theorem op_modW : OpR X (binaryOp .Mod) (r2 Z (binW .mod)) := by
  intro pins s σ H x y v u Q I rx ry h
  obtain ⟨ι, M, a, b, R, wa, wb, h⟩ := h
  cases wa with
  | int i =>
    cases wb with
    | int j =>
      obtain ⟨c, h⟩ := h.chk
      exact op_mod pins s σ H _ _ v u Q I rx ry ⟨i, j, rfl, rfl, of_decide_eq_true c, h.val R (.int _)⟩
    | _ => exact False.elim h
  | _ => exact False.elim h
theorem op_powW : OpR X (binaryOp .Pow) (r2 Z (binW .pow)) := by
  intro pins s σ H x y v u Q I rx ry h
  obtain ⟨ι, M, a, b, R, wa, wb, h⟩ := h
  cases wa with
  | int i =>
    cases wb with
    | int j =>
      obtain ⟨c, h⟩ := h.chk
      rw [Bool.and_eq_true, Bool.and_eq_true, decide_eq_true_eq, decide_eq_true_eq, decide_eq_true_eq] at c
      exact op_pow pins s σ H _ _ v u Q I rx ry ⟨i, j, rfl, rfl, ⟨c.1.1, by omega, by omega⟩, h.val R (.int _)⟩
    | _ => exact False.elim h
  | _ => exact False.elim h
def opOf : Op → Operator
  | .add => .Add
  | .sub => .Sub
  | .mul => .Mult
  | .fdiv => .FloorDiv
  | .mod => .Mod
  | .pow => .Pow
theorem op_binW (k : XOk X Z) (o : Op) : OpR X (binaryOp (opOf o)) (r2 Z (binW o)) := by
  cases o
  · exact op_addW k
  · exact op_subW
  · exact op_mulW'
  · exact op_fdivW'
  · exact op_modW
  · exact op_powW
mutual
theorem toD_dp {ι : List Addr} {H : Hp} {M : Mem} (hS : Z.S = G.S) (R : RM Z ι M H) : ∀ (n : Nat) {w : Wv} {v : V} {d : PyData}, WR Z ι H w v → toD G.S M n w = some d → Dp Z.K H v d
  | _, _, _, _, .non, e => by simp only [toD] at e; cases e; exact .non
  | _, _, _, _, .bl b, e => by simp only [toD] at e; cases e; exact .bl b
  | _, _, _, _, .int i, e => by simp only [toD] at e; cases e; exact .int i
  | _, _, _, _, .str x, e => by simp only [toD] at e; cases e; exact .str x
  | 0, _, _, _, .tup _ _, e => by simp only [toD] at e; cases e
  | n + 1, _, _, _, .tup h t, e => by
    simp only [toD] at e
    obtain ⟨ds, e1, rfl⟩ := Option.map_eq_some_iff.mp e
    exact .tup h (toDs_dp hS R n t e1)
  | 0, _, _, _, .ref _, e => by simp only [toD] at e; cases e
  | n + 1, _, _, _, .ref h, e => by
    simp only [toD] at e
    split at e
    · rename_i ws hw
      obtain ⟨ds, e1, rfl⟩ := Option.map_eq_some_iff.mp e
      obtain ⟨vs, h1, h2⟩ := R.ob _ _ _ hw h
      exact .lst (SqL.of h1) (toDs_dp hS R n h2 e1)
    · cases e
  | _, _, _, _, .scr h, e => by
    simp only [toD] at e
    cases e
    refine .lst h.sq ?_
    rw [← hS]
    exact ints_dp _
theorem toDs_dp {ι : List Addr} {H : Hp} {M : Mem} (hS : Z.S = G.S) (R : RM Z ι M H) : ∀ (n : Nat) {ws : List Wv} {vs : List V} {ds : List PyData}, WsR Z ι H ws vs → toDs G.S M n ws = some ds → DpAll Z.K H vs ds
  | _, _, _, _, .nil, e => by simp only [toDs] at e; cases e; exact .nil
  | n, _, _, _, .cons h t, e => by
    simp only [toDs] at e
    split at e
    · rename_i d ds e1 e2
      cases e
      exact .cons (toD_dp hS R n h e1) (toDs_dp hS R n t e2)
    · cases e
theorem ints_dp {H : Hp} : ∀ ns : List Int, DpAll Z.K H (ns.map V.int) (ns.map PyData.int)
  | [] => .nil
  | n :: ns => .cons (.int n) (ints_dp ns)
end
theorem flat_dp {ι : List Addr} {H : Hp} {w : Wv} {v : V} (r : WR Z ι H w v) (f : flatW w = true) : flatV v = true ∧ ∀ w' v', WR Z ι H w' v' → flatW w' = true → eqV v v' = PyData.eqv (flatD w) (flatD w') := by
  cases r with
  | non =>
    refine ⟨rfl, fun w' v' r' f' => ?_⟩
    cases r' <;> first | rfl | cases f'
  | bl b =>
    refine ⟨rfl, fun w' v' r' f' => ?_⟩
    cases r' <;> first | rfl | cases f'
  | int i =>
    refine ⟨rfl, fun w' v' r' f' => ?_⟩
    cases r' <;> first | rfl | cases f'
  | str x =>
    refine ⟨rfl, fun w' v' r' f' => ?_⟩
    cases r' <;> first | rfl | cases f'
  | _ => cases f
theorem flats_dp {ι : List Addr} {H : Hp} {w : Wv} {v : V} (r : WR Z ι H w v) (f : flatW w = true) : ∀ {ws : List Wv} {vs : List V}, WsR Z ι H ws vs → ws.all flatW = true → vs.all flatV = true ∧ inV v vs = ws.any fun e => PyData.eqv (flatD e) (flatD w)
  | _, _, .nil, _ => ⟨rfl, rfl⟩
  | _, _, .cons h t, g => by
    rw [List.all_cons, Bool.and_eq_true] at g
    obtain ⟨h1, h2⟩ := flats_dp r f t g.2
    obtain ⟨h3, h4⟩ := flat_dp h g.1
    refine ⟨by rw [List.all_cons, h3, h1]; rfl, ?_⟩
    unfold inV at h2 ⊢
    rw [List.any_cons, List.any_cons, h2, h4 _ _ r f]
theorem prim_cmp (c : Cm) (x y : Wv) (M : Mem) : Prim (cmpW G c x y M) := Prim.ofO.bind fun _ _ => Prim.ok
theorem cmp_ok {ι : List Addr} {H : Hp} {M : Mem} {Q : VK} {o : Option Bool} (R : RM Z ι M H) (h : rOut Z ι H ((Out.ofO o M).bind fun b M => .ok (.bl b) M) Q) : ∃ b, o = some b ∧ Q (.bl b) H := by
  obtain ⟨b, e, h⟩ := h.ofOb
  exact ⟨b, e, h.val R (.bl b)⟩
theorem notO_some {o : Option Bool} {b : Bool} (h : notO o = some b) : o = some (!b) := by
  cases o with
  | none => cases h
  | some c => cases h; simp
theorem eqW_dp {ι : List Addr} {H : Hp} {M : Mem} {a b : Wv} {x y : V} {r : Bool} (hS : Z.S = G.S) (R : RM Z ι M H) (wa : WR Z ι H a x) (wb : WR Z ι H b y) (e : eqW G a b M = some r) :
    ∃ d f, Dp Z.K H x d ∧ Dp Z.K H y f ∧ SeqAt.shaped d = true ∧ SeqAt.shaped f = true ∧ PyData.eqv d f = r := by
  unfold eqW at e
  split at e
  · rename_i d f e1 e2
    split at e
    · rename_i c
      rw [Bool.and_eq_true] at c
      cases e
      exact ⟨d, f, toD_dp hS R _ wa e1, toD_dp hS R _ wb e2, c.1, c.2, rfl⟩
    · cases e
  · cases e
theorem op_eqW (k : XOk X Z) (hS : Z.S = G.S) : OpR X (compareOp .Eq) (r2 Z (cmpW G .eq)) := by
  intro pins s σ H x y v u Q I rx ry h
  obtain ⟨ι, M, a, b, R, wa, wb, h⟩ := h
  obtain ⟨r, e, q⟩ := cmp_ok R h
  obtain ⟨d, f, h1, h2, h3, h4, rfl⟩ := eqW_dp hS R wa wb e
  exact op_eqD (by have := k.un; omega) pins s σ H _ _ v u Q I rx ry ⟨d, f, by rw [k.K]; exact h1, by rw [k.K]; exact h2, h3, h4, q⟩
theorem op_neW (k : XOk X Z) (hS : Z.S = G.S) : OpR X (compareOp .NotEq) (r2 Z (cmpW G .ne)) := by
  intro pins s σ H x y v u Q I rx ry h
  obtain ⟨ι, M, a, b, R, wa, wb, h⟩ := h
  obtain ⟨r, e, q⟩ := cmp_ok R h
  obtain ⟨d, f, h1, h2, h3, h4, e2⟩ := eqW_dp hS R wa wb (notO_some e)
  exact op_neD (by have := k.un; omega) pins s σ H _ _ v u Q I rx ry ⟨d, f, by rw [k.K]; exact h1, by rw [k.K]; exact h2, h3, h4, by rw [e2, Bool.not_not]; exact q⟩
theorem ltW_int {a b : Wv} {r : Bool} (e : ltW a b = some r) : (∃ i j, a = .int i ∧ b = .int j ∧ r = decide (i < j)) ∨ ∃ i j, a = .str i ∧ b = .str j ∧ r = decide (i.cps.toList < j.cps.toList) := by
  unfold ltW at e
  split at e
  · cases e; exact .inl ⟨_, _, rfl, rfl, rfl⟩
  · cases e; exact .inr ⟨_, _, rfl, rfl, rfl⟩
  · cases e
theorem leW_int {a b : Wv} {r : Bool} (e : leW a b = some r) : ∃ i j, a = .int i ∧ b = .int j ∧ r = decide (i ≤ j) := by
  unfold leW at e
  split at e
  · cases e; exact ⟨_, _, rfl, rfl, rfl⟩
  · cases e
theorem op_ltW : OpR X (compareOp .Lt) (r2 Z (cmpW G .lt)) := by
  intro pins s σ H x y v u Q I rx ry h
  obtain ⟨ι, M, a, b, R, wa, wb, h⟩ := h
  obtain ⟨r, e, q⟩ := cmp_ok R h
  rcases ltW_int e with ⟨i, j, rfl, rfl, rfl⟩ | ⟨i, j, rfl, rfl, rfl⟩
  · cases wa; cases wb
    exact op_lt pins s σ H _ _ v u Q I rx ry ⟨i, j, rfl, rfl, q⟩
  · cases wa; cases wb
    exact op_lt_str pins s σ H _ _ v u Q I rx ry ⟨i, j, rfl, rfl, q⟩
theorem op_gtW : OpR X (compareOp .Gt) (r2 Z (cmpW G .gt)) := by
  intro pins s σ H x y v u Q I rx ry h
  obtain ⟨ι, M, a, b, R, wa, wb, h⟩ := h
  obtain ⟨r, e, q⟩ := cmp_ok R h
  rcases ltW_int e with ⟨i, j, rfl, rfl, rfl⟩ | ⟨i, j, rfl, rfl, rfl⟩
  · cases wa; cases wb
    exact op_gt pins s σ H _ _ v u Q I rx ry ⟨j, i, rfl, rfl, q⟩
  · cases wa; cases wb
    exact op_gt_str pins s σ H _ _ v u Q I rx ry ⟨j, i, rfl, rfl, q⟩
theorem op_leW : OpR X (compareOp .LtE) (r2 Z (cmpW G .le)) := by
  intro pins s σ H x y v u Q I rx ry h
  obtain ⟨ι, M, a, b, R, wa, wb, h⟩ := h
  obtain ⟨r, e, q⟩ := cmp_ok R h
  obtain ⟨i, j, rfl, rfl, rfl⟩ := leW_int e
  cases wa; cases wb
  exact op_le pins s σ H _ _ v u Q I rx ry ⟨i, j, rfl, rfl, q⟩
theorem op_geW : OpR X (compareOp .GtE) (r2 Z (cmpW G .ge)) := by
  intro pins s σ H x y v u Q I rx ry h
  obtain ⟨ι, M, a, b, R, wa, wb, h⟩ := h
  obtain ⟨r, e, q⟩ := cmp_ok R h
  obtain ⟨i, j, rfl, rfl, rfl⟩ := leW_int e
  cases wa; cases wb
  exact op_ge pins s σ H _ _ v u Q I rx ry ⟨j, i, rfl, rfl, q⟩
theorem non_dec {ι : List Addr} {H : Hp} {a : Wv} {x : V} (wa : WR Z ι H a x) : decide (a = .non) = decide (x = .non) := by
  cases wa <;> simp
theorem op_isW : OpR X (compareOp .Is) (r2 Z (cmpW G .is_)) := by
  intro pins s σ H x y v u Q I rx ry h
  obtain ⟨ι, M, a, b, R, wa, wb, h⟩ := h
  obtain ⟨r, e, q⟩ := cmp_ok R h
  have e : isW a b = some r := e
  unfold isW at e
  cases wb with
  | non =>
    cases e
    exact op_isN pins s σ H _ _ v u Q I rx ry ⟨rfl, by rw [← non_dec wa]; exact q⟩
  | bl b =>
    cases wa with
    | bl c =>
      cases e
      exact op_isBl pins s σ H _ _ v u Q I rx ry ⟨c, b, rfl, rfl, q⟩
    | _ => cases e
  | _ => cases e
theorem op_isnW : OpR X (compareOp .IsNot) (r2 Z (cmpW G .isn)) := by
  intro pins s σ H x y v u Q I rx ry h
  obtain ⟨ι, M, a, b, R, wa, wb, h⟩ := h
  obtain ⟨r, e, q⟩ := cmp_ok R h
  have e : isW a b = some (!r) := notO_some e
  unfold isW at e
  cases wb with
  | non =>
    have e2 : decide (a = .non) = !r := Option.some.inj e
    exact op_notN pins s σ H _ _ v u Q I rx ry ⟨rfl, by rw [← non_dec wa, e2, Bool.not_not]; exact q⟩
  | bl b =>
    cases wa with
    | bl c =>
      have e2 : decide (c = b) = !r := Option.some.inj e
      exact op_notBl pins s σ H _ _ v u Q I rx ry ⟨c, b, rfl, rfl, by rw [e2, Bool.not_not]; exact q⟩
    | _ => cases e
  | _ => cases e
end
end MP
end
section
set_option Elab.async false
set_option linter.all false
set_option maxRecDepth 100000
namespace MP
open PySem PySem.Spec PyProof.Rows L2
def keyW : Wv → Key
  | .int i => .inl i
  | .str x => .inr x
  | _ => .inl 0
section
variable {Z : Zt} {ι : List Addr} {H : Hp} {kvs : List (Wv × Wv)} {k v : Wv}
theorem keyA_rel {w : Wv} {x : V} (h : keyA w = true) (r : WR Z ι H w x) : x = kV (keyW w) := by
  cases r <;> first | rfl | cases h
theorem keyW_inj {a b : Wv} (ha : keyA a = true) (hb : keyA b = true) (e : keyW a = keyW b) : a = b := by
  cases a with
  | int i =>
    cases b with
    | int j => rw [Sum.inl.inj (show (Sum.inl i : Key) = Sum.inl j from e)]
    | str y => exact absurd (show (Sum.inl i : Key) = Sum.inr y from e) (by simp)
    | _ => cases hb
  | str x =>
    cases b with
    | int j => exact absurd (show (Sum.inr x : Key) = Sum.inl j from e) (by simp)
    | str y => rw [Sum.inr.inj (show (Sum.inr x : Key) = Sum.inr y from e)]
    | _ => cases hb
  | _ => cases ha
def PvR (Z : Zt) (ι : List Addr) (H : Hp) : List (Wv × Wv) → List (Key × Value) → Prop := Paired fun p q => q.1 = keyW p.1 ∧ keyA p.1 = true ∧ ∃ x, RelV x q.2 ∧ WR Z ι H p.2 x
theorem PvR.get (ka : keyA k = true) : ∀ {kvs : List (Wv × Wv)} {vs : List (Key × Value)}, PvR Z ι H kvs vs → match dget kvs k with
    | some y => ∃ u, valueAt vs (keyW k) = some u ∧ ∃ x, RelV x u ∧ WR Z ι H y x
    | none => valueAt vs (keyW k) = none
  | [], _, .nil => rfl
  | p :: r, q :: vs, .cons h t => by
    have ih := PvR.get ka t
    obtain ⟨h1, h2, x, h3, h4⟩ := h
    unfold dget
    by_cases e : p.1 = k
    · rw [if_pos e]
      refine ⟨q.2, ?_, x, h3, h4⟩
      have : q.1 = keyW k := by rw [h1, e]
      simp [valueAt, this]
    · rw [if_neg e]
      have ne : q.1 ≠ keyW k := fun z => e (keyW_inj h2 ka (by rw [← h1]; exact z))
      have ev : valueAt (q :: vs) (keyW k) = valueAt vs (keyW k) := by simp [valueAt, List.find?_cons, ne]
      rw [ev]
      exact ih
theorem dput_len (kvs : List (Wv × Wv)) (k v : Wv) : (dput kvs k v).length ≤ kvs.length + 1 := by
  induction kvs with
  | nil => simp [dput]
  | cons p r ih =>
    unfold dput
    split
    · simp
    · simp; omega
theorem dput_keys (kvs : List (Wv × Wv)) (k v : Wv) : (dput kvs k v).map (·.1) = if k ∈ kvs.map (·.1) then kvs.map (·.1) else kvs.map (·.1) ++ [k] := by
  induction kvs with
  | nil => simp [dput]
  | cons p r ih =>
    unfold dput
    by_cases e : p.1 = k
    · rw [if_pos e]; simp [e]
    · rw [if_neg e]
      simp only [List.map_cons, ih, List.mem_cons]
      by_cases m : k ∈ r.map (·.1)
      · rw [if_pos m, if_pos (Or.inr m)]
      · rw [if_neg m, if_neg (by rintro (z | z); exact e z.symm; exact m z)]
        simp
theorem dput_nodup (h : (kvs.map (·.1)).Nodup) : ((dput kvs k v).map (·.1)).Nodup := by
  rw [dput_keys]
  split
  · exact h
  · rename_i hn
    rw [List.nodup_append]
    exact ⟨h, by simp, fun x hx y hy => by rw [List.mem_singleton.mp hy]; exact fun e => hn (e ▸ hx)⟩
theorem dput_all {f : Wv → Bool} (h : (kvs.all fun p => f p.1) = true) (hk : f k = true) : ((dput kvs k v).all fun p => f p.1) = true := by
  induction kvs with
  | nil => simp [dput, hk]
  | cons p r ih =>
    rw [List.all_cons, Bool.and_eq_true] at h
    unfold dput
    split
    · rw [List.all_cons, Bool.and_eq_true]; exact h
    · rw [List.all_cons, Bool.and_eq_true]; exact ⟨h.1, ih h.2⟩
theorem PvR.mem_keys (ka : keyA k = true) : ∀ {kvs : List (Wv × Wv)} {vs : List (Key × Value)}, PvR Z ι H kvs vs → ((vs.any fun kv => decide (kv.1 = keyW k)) = (dget kvs k).isSome)
  | [], _, .nil => rfl
  | p :: r, q :: vs, .cons h t => by
    have ih := PvR.mem_keys ka t
    obtain ⟨h1, h2, _⟩ := h
    unfold dget
    rw [List.any_cons]
    by_cases e : p.1 = k
    · have : q.1 = keyW k := by rw [h1, e]
      simp [e, this]
    · have ne : q.1 ≠ keyW k := fun z => e (keyW_inj h2 ka (by rw [← h1]; exact z))
      simp [e, ne, ih]
theorem dput_there : ∀ {kvs : List (Wv × Wv)}, (kvs.map (·.1)).Nodup → (dget kvs k).isSome = true → dput kvs k v = kvs.map fun p => if p.1 = k then (p.1, v) else p
  | [], _, h => by simp [dget] at h
  | p :: r, nd, h => by
    rw [List.map_cons, List.nodup_cons] at nd
    unfold dput
    unfold dget at h
    by_cases e : p.1 = k
    · rw [if_pos e, List.map_cons, if_pos e]
      congr 1
      have : ∀ q ∈ r, q.1 ≠ k := fun q hq z => nd.1 (by rw [e, ← z]; exact List.mem_map.mpr ⟨q, hq, rfl⟩)
      have e2 : r.map (fun p => if p.1 = k then (p.1, v) else p) = r.map id := List.map_congr_left fun q hq => by rw [if_neg (this q hq)]; rfl
      rw [e2, List.map_id]
    · rw [if_neg e, List.map_cons, if_neg e, dput_there nd.2 (by rw [if_neg e] at h; exact h)]
theorem dput_new : ∀ {kvs : List (Wv × Wv)}, (dget kvs k).isSome = false → dput kvs k v = kvs ++ [(k, v)]
  | [], _ => rfl
  | p :: r, h => by
    unfold dput
    unfold dget at h
    by_cases e : p.1 = k
    · rw [if_pos e] at h; cases h
    · rw [if_neg e, dput_new (by rw [if_neg e] at h; exact h)]; rfl
theorem PvR.put (ka : keyA k = true) {vs : List (Key × Value)} {u : Value} {x : V} (nd : (kvs.map (·.1)).Nodup) (r : PvR Z ι H kvs vs) (rx : RelV x u) (wx : WR Z ι H v x) : PvR Z ι H (dput kvs k v) (stored vs (keyW k) u) := by
  unfold stored
  rw [r.mem_keys ka]
  by_cases h : (dget kvs k).isSome = true
  · rw [if_pos h, dput_there nd h]
    clear nd h
    induction r with
    | nil => exact .nil
    | @cons p q ps qs h t ih =>
      rw [List.map_cons, List.map_cons]
      refine .cons ?_ ih
      obtain ⟨h1, h2, h3⟩ := h
      by_cases e : p.1 = k
      · have : q.1 = keyW k := by rw [h1, e]
        rw [if_pos e, if_pos this]
        exact ⟨h1, h2, x, rx, wx⟩
      · have ne : q.1 ≠ keyW k := fun z => e (keyW_inj h2 ka (by rw [← h1]; exact z))
        rw [if_neg e, if_neg ne]
        exact ⟨h1, h2, h3⟩
  · rw [if_neg h, dput_new (by simpa using h)]
    clear nd h
    induction r with
    | nil => exact .cons ⟨rfl, ka, x, rx, wx⟩ .nil
    | cons h t ih => exact .cons h ih
def TvR (Z : Zt) (ι : List Addr) (H : Hp) : List (Wv × Wv) → List (NestedKey × Addr × Value) → Prop := Paired fun p q => q.1 = toNK p.1 ∧ keyT p.1 = true ∧ WR Z ι H p.1 (.ref q.2.1) ∧ ∃ x, RelV x q.2.2 ∧ WR Z ι H p.2 x
mutual
theorem toNK_inj : ∀ (n : Nat) (a b : Wv), keyIn n a = true → keyIn n b = true → toNK a = toNK b → a = b
  | n, .non, b, _, hb, e => by cases b <;> first | rfl | (simp [toNK] at e; done) | (simp [keyIn] at hb; done)
  | n, .int i, b, _, hb, e => by cases b <;> first | (simp [toNK] at e; rw [e]) | (simp [toNK] at e; done)
  | n, .str i, b, _, hb, e => by cases b <;> first | (simp [toNK] at e; rw [e]) | (simp [toNK] at e; done)
  | n + 1, .tup ws, b, ha, hb, e => by
    cases b with
    | tup us =>
      simp only [toNK, NestedKey.tup.injEq] at e
      simp only [keyIn] at ha hb
      rw [toNKs_inj n ws us ha hb e]
    | _ => simp [toNK] at e
  | 0, .tup ws, b, ha, _, _ => by simp [keyIn] at ha
  | n, .bl b, _, ha, _, _ => by simp [keyIn] at ha
  | n, .ref b, _, ha, _, _ => by simp [keyIn] at ha
  | n, .scr, _, ha, _, _ => by simp [keyIn] at ha
theorem toNKs_inj : ∀ (n : Nat) (a b : List Wv), keyTup n a = true → keyTup n b = true → toNKs a = toNKs b → a = b
  | n, [], b, _, _, e => by cases b with
    | nil => rfl
    | cons _ _ => simp [toNKs] at e
  | n, a :: as, b, ha, hb, e => by
    cases b with
    | nil => simp [toNKs] at e
    | cons b bs =>
      simp only [toNKs, List.cons.injEq] at e
      simp only [keyTup, Bool.and_eq_true] at ha hb
      rw [toNK_inj n a b ha.1 hb.1 e.1, toNKs_inj n as bs ha.2 hb.2 e.2]
end
theorem keyT_inj {a b : Wv} (ha : keyT a = true) (hb : keyT b = true) (e : toNK a = toNK b) : a = b := by
  cases a with
  | tup ws =>
    cases b with
    | tup us =>
      simp only [toNK, NestedKey.tup.injEq] at e
      rw [toNKs_inj 7 ws us ha hb e]
    | _ => cases hb
  | _ => cases ha
theorem TvR.get (ka : keyT k = true) : ∀ {kvs : List (Wv × Wv)} {xs : List (NestedKey × Addr × Value)}, TvR Z ι H kvs xs → match dget kvs k with
    | some y => ∃ p, atKey xs (toNK k) = some p ∧ ∃ x, RelV x p.2 ∧ WR Z ι H y x
    | none => atKey xs (toNK k) = none
  | [], _, .nil => rfl
  | p :: r, q :: vs, .cons h t => by
    have ih := TvR.get ka t
    obtain ⟨h1, h2, h3, x, h4, h5⟩ := h
    unfold dget
    by_cases e : p.1 = k
    · rw [if_pos e]
      refine ⟨q.2, ?_, x, h4, h5⟩
      have : q.1 = toNK k := by rw [h1, e]
      simp [atKey, this]
    · rw [if_neg e]
      have ne : q.1 ≠ toNK k := fun z => e (keyT_inj h2 ka (by rw [← h1]; exact z))
      have ev : atKey (q :: vs) (toNK k) = atKey vs (toNK k) := by simp [atKey, List.find?_cons, ne]
      rw [ev]
      exact ih
theorem TvR.put (ka : keyT k = true) {xs : List (NestedKey × Addr × Value)} {u : Value} {x : V} {b : Addr} (nd : (kvs.map (·.1)).Nodup) (r : TvR Z ι H kvs xs) (wk : WR Z ι H k (.ref b)) (rx : RelV x u) (wx : WR Z ι H v x) :
    TvR Z ι H (dput kvs k v) (storedH xs (toNK k) b u) := by
  have hm : (atKey xs (toNK k)).isSome = (dget kvs k).isSome := by
    have g := r.get ka
    cases e : dget kvs k with
    | none => rw [e] at g; simp only at g; rw [g]; rfl
    | some y => rw [e] at g; obtain ⟨p, g, _⟩ := g; rw [g]; rfl
  unfold storedH
  rw [hm]
  by_cases h : (dget kvs k).isSome = true
  · rw [if_pos h, dput_there nd h]
    clear nd h hm
    induction r with
    | nil => exact .nil
    | @cons p q ps qs h t ih =>
      rw [List.map_cons, List.map_cons]
      refine .cons ?_ ih
      obtain ⟨h1, h2, h3, h4⟩ := h
      by_cases e : p.1 = k
      · have : q.1 = toNK k := by rw [h1, e]
        rw [if_pos e, putAt, if_pos this]
        exact ⟨h1, h2, h3, x, rx, wx⟩
      · have ne : q.1 ≠ toNK k := fun z => e (keyT_inj h2 ka (by rw [← h1]; exact z))
        rw [if_neg e, putAt, if_neg ne]
        exact ⟨h1, h2, h3, h4⟩
  · rw [if_neg h, dput_new (by simpa using h)]
    clear nd h hm
    induction r with
    | nil => exact .cons ⟨rfl, ka, wk, x, rx, wx⟩ .nil
    | cons h t ih => exact .cons h ih
end
section
variable {Z : Zt} {X : Cx} {pins : List (Addr × Obj)} {σ : L2.St} {ι : List Addr} {H : Hp} {M : Mem} {s : Shared} {a : Addr} {z : Bool} {kvs : List (Wv × Wv)} {k v : Wv}
theorem Inv.dctO {o : Obj} (I : L2.Inv X pins σ H s) (h : H a = some (lkO z a o)) : s.heap.get? a = some o := by
  cases z with
  | true => exact (I.hok a _ h).1
  | false => exact (I.hok a _ h).1
theorem paired_keys {es : List DictEntry} (r : Paired (EnR Z ι H) kvs es) (ka : (kvs.all fun p => keyA p.1) = true) {P : Program} {w : World} (hw : Z.w = w) :
    (∀ e ∈ es, ∃ k, (mixKind P w).is k e.key = true ∧ e.hash = (mixKind P w).hash k) ∧ ∃ vs, Pairs (mixKind P w) es vs ∧ PvR Z ι H kvs vs := by
  induction r with
  | nil => exact ⟨fun _ h => by simp at h, [], .nil, .nil⟩
  | @cons p e ps es h t ih =>
    rw [List.all_cons, Bool.and_eq_true] at ka
    obtain ⟨i1, vs, i2, i3⟩ := ih ka.2
    obtain ⟨kv, vv, h1, h2, h3, h4, h5⟩ := h
    have ek := keyA_rel ka.1 h2
    subst ek
    have his : (mixKind P w).is (keyW p.1) e.key = true := kV_is h1
    refine ⟨fun f hf => ?_, (keyW p.1, e.val) :: vs, .cons his rfl i2, .cons ⟨rfl, ka.1, vv, h3, h4⟩ i3⟩
    rcases List.mem_cons.mp hf with z | z
    · subst z
      refine ⟨keyW p.1, his, ?_⟩
      rw [h5, hw]
      cases q : p.1 with
      | int i => rfl
      | str x => rfl
      | _ => rw [q] at ka; exact absurd ka.1 (by simp [keyA])
    · exact i1 f z
theorem pairs_back {es : List DictEntry} {vs : List (Key × Value)} {P : Program} {w : World} (hw : Z.w = w) (hk : ∀ e ∈ es, ∃ k, (mixKind P w).is k e.key = true ∧ e.hash = (mixKind P w).hash k) (hp : Pairs (mixKind P w) es vs) (r : PvR Z ι H kvs vs) : Paired (EnR Z ι H) kvs es := by
  induction hp generalizing kvs with
  | nil => cases r; exact .nil
  | @cons e q es vs h1 h2 _ ih =>
    cases r with
    | @cons p _ ps _ h t =>
      refine .cons ?_ (ih (fun f hf => hk f (List.mem_cons_of_mem _ hf)) t)
      obtain ⟨e1, ka, x, rx, wx⟩ := h
      obtain ⟨k2, hk2, hh⟩ := hk e List.mem_cons_self
      have ek : k2 = q.1 := (mixKind P w).inj _ _ _ hk2 h1
      subst ek
      rw [e1] at h1 hh
      rw [← h2] at rx
      unfold EnR
      rw [hh, ← hw]
      cases hq : p.1 with
      | int i =>
        rw [hq] at h1
        exact ⟨.int i, x, relV_key (show keyIs (.inl i) e.key = true from h1), .int i, rx, wx, rfl⟩
      | str y =>
        rw [hq] at h1
        exact ⟨.str y, x, relV_key (show keyIs (.inr y) e.key = true from h1), .str y, rx, wx, rfl⟩
      | _ => rw [hq] at ka; exact absurd ka (by simp [keyA])
theorem keysW_nodup {vs : List (Key × Value)} (r : PvR Z ι H kvs vs) (nd : (kvs.map (·.1)).Nodup) : (vs.map (·.1)).Nodup := by
  induction r with
  | nil => exact List.nodup_nil
  | @cons p q ps qs h t ih =>
    rw [List.map_cons, List.nodup_cons] at nd ⊢
    refine ⟨fun hm => nd.1 ?_, ih nd.2⟩
    obtain ⟨q2, hq2, e⟩ := List.mem_map.mp hm
    clear ih nd hm
    induction t with
    | nil => cases hq2
    | @cons p2 q3 ps qs h2 t ih =>
      rcases List.mem_cons.mp hq2 with z | z
      · subst z
        rw [List.map_cons]
        refine List.mem_cons.mpr (.inl ?_)
        exact keyW_inj h.2.1 h2.2.1 (by rw [← h.1, ← h2.1, e])
      · exact List.mem_cons_of_mem _ (ih z)
theorem DctR.dictOf (I : L2.Inv X pins σ H s) (k : XOk X Z) (D : DctR Z ι H a z kvs) (ka : (kvs.all fun p => keyA p.1) = true) : ∃ vs, s.heap.DictOf (mixKind X.prog X.w) a vs ∧ PvR Z ι H kvs vs ∧ (a == sysModules) = false := by
  obtain ⟨o, es, ep, h1, h2, h3, h4, h5, h6, h7, h8⟩ := D
  obtain ⟨i1, vs, i2, i3⟩ := paired_keys (P := X.prog) h8 ka k.w.symm
  exact ⟨vs, ⟨o, es, ep, MP.Inv.dctO I h1, h2, h3, fun e he => i1 e (Array.mem_toList_iff.mpr he), i2, keysW_nodup i3 h6⟩, i3, h4⟩
mutual
theorem nested_of (I : L2.Inv X pins σ H s) (hK : X.K = Z.K) : ∀ (n : Nat) {w : Wv} {x : V} {u : Value}, keyIn n w = true → WR Z ι H w x → RelV x u → NestedIs s.heap (toNK w) u ∧ (toNK w).depth ≤ n
  | n, _, _, _, _, .non, r => by cases r; exact ⟨.none, by simp [toNK, NestedKey.depth]⟩
  | n, _, _, _, _, .int i, r => by obtain ⟨t, rfl⟩ := r; exact ⟨.int i t, by simp [toNK, NestedKey.depth]⟩
  | n, _, _, _, _, .str x, r => by obtain ⟨t, rfl⟩ := r; exact ⟨.text x t, by simp [toNK, NestedKey.depth]⟩
  | 0, _, _, _, h, .tup _ _, r => by simp [keyIn] at h
  | n + 1, _, _, _, h, .tup hs hw, r => by
    simp only [keyIn] at h
    cases r
    obtain ⟨its, rv, ⟨o, e1, e2, m, e3⟩, _⟩ := I.tuple (by rw [hK]; exact hs)
    obtain ⟨h1, h2⟩ := nesteds_of I hK n h hw rv
    refine ⟨.tup e1 e2 e3 (by simpa using h1), ?_⟩
    simp only [toNK, NestedKey.depth]
    omega
  | n, _, _, _, h, .bl _, r => by simp [keyIn] at h
  | n, _, _, _, h, .ref _, r => by simp [keyIn] at h
  | n, _, _, _, h, .scr _, r => by simp [keyIn] at h
theorem nesteds_of (I : L2.Inv X pins σ H s) (hK : X.K = Z.K) : ∀ (n : Nat) {ws : List Wv} {xs : List V} {us : List Value}, keyTup n ws = true → WsR Z ι H ws xs → Vals xs us → NestedAll s.heap (toNKs ws) us ∧ NestedKey.depthAll (toNKs ws) ≤ n
  | n, _, _, _, _, .nil, r => by cases r; exact ⟨.nil, by simp [toNKs, NestedKey.depthAll]⟩
  | n, _, _, _, h, .cons h1 t1, r => by
    simp only [keyTup, Bool.and_eq_true] at h
    cases r with
    | cons r rr =>
      obtain ⟨a1, a2⟩ := nested_of I hK n h.1 h1 r
      obtain ⟨b1, b2⟩ := nesteds_of I hK n h.2 t1 rr
      refine ⟨.cons a1 b1, ?_⟩
      simp only [toNKs, NestedKey.depthAll]
      omega
end
theorem keyT_is (I : L2.Inv X pins σ H s) (hK : X.K = Z.K) {b : Addr} (ka : keyT k = true) (r : WR Z ι H k (.ref b)) : (nestedKind X.prog X.w).is s.heap (toNK k) b := by
  cases k with
  | tup ws =>
    obtain ⟨h1, h2⟩ := nested_of I hK 8 (show keyIn 8 (.tup ws) = true from ka) r (show RelV (.ref b) (.ref b) from rfl)
    exact ⟨h1, h2⟩
  | _ => cases ka
theorem keyT_ref {x : V} (ka : keyT k = true) (r : WR Z ι H k x) : ∃ b, x = .ref b := by
  cases k with
  | tup ws => cases r; exact ⟨_, rfl⟩
  | _ => cases ka
theorem paired_keysT {es : List DictEntry} (r : Paired (EnR Z ι H) kvs es) (ka : (kvs.all fun p => keyT p.1) = true) {P : Program} {w : World} (hw : Z.w = w) :
    ∃ xs, es = xs.map (entryOfKey (nestedKind P w)) ∧ TvR Z ι H kvs xs := by
  induction r with
  | nil => exact ⟨[], rfl, .nil⟩
  | @cons p e ps es h t ih =>
    rw [List.all_cons, Bool.and_eq_true] at ka
    obtain ⟨xs, i2, i3⟩ := ih ka.2
    obtain ⟨kv, vv, h1, h2, h3, h4, h5⟩ := h
    obtain ⟨b, rfl⟩ := keyT_ref ka.1 h2
    refine ⟨(toNK p.1, b, e.val) :: xs, ?_, .cons ⟨rfl, ka.1, h2, vv, h3, h4⟩ i3⟩
    rw [List.map_cons, ← i2]
    congr 1
    obtain ⟨eh, ek, ev⟩ := e
    have e1 : ek = Value.ref b := h1
    have e2 : eh = (toNK p.1).hash Z.w := h5
    rw [e1, e2, hw]
    rfl
theorem pairs_backT {es : List DictEntry} {xs : List (NestedKey × Addr × Value)} {P : Program} {w : World} (hw : Z.w = w) (he : es = xs.map (entryOfKey (nestedKind P w))) (r : TvR Z ι H kvs xs) : Paired (EnR Z ι H) kvs es := by
  subst he
  induction r with
  | nil => exact .nil
  | @cons p q ps qs h t ih =>
    rw [List.map_cons]
    refine .cons ?_ ih
    obtain ⟨e1, ka, wk, x, rx, wx⟩ := h
    refine ⟨.ref q.2.1, x, rfl, wk, rx, wx, ?_⟩
    show (nestedKind P w).hash q.1 = _
    rw [e1, hw]
    rfl
theorem keysT_nodup {xs : List (NestedKey × Addr × Value)} (r : TvR Z ι H kvs xs) (nd : (kvs.map (·.1)).Nodup) : (xs.map (·.1)).Nodup := by
  induction r with
  | nil => exact List.nodup_nil
  | @cons p q ps qs h t ih =>
    rw [List.map_cons, List.nodup_cons] at nd ⊢
    refine ⟨fun hm => nd.1 ?_, ih nd.2⟩
    obtain ⟨q2, hq2, e⟩ := List.mem_map.mp hm
    clear ih nd hm
    induction t with
    | nil => cases hq2
    | @cons p2 q3 ps qs h2 t ih =>
      rcases List.mem_cons.mp hq2 with z | z
      · subst z
        rw [List.map_cons]
        refine List.mem_cons.mpr (.inl ?_)
        exact keyT_inj h.2.1 h2.2.1 (by rw [← h.1, ← h2.1, e])
      · exact List.mem_cons_of_mem _ (ih z)
theorem DctR.dictOfH (I : L2.Inv X pins σ H s) (k : XOk X Z) (D : DctR Z ι H a z kvs) (ka : (kvs.all fun p => keyT p.1) = true) : ∃ xs, s.heap.DictOfH (nestedKind X.prog X.w) a xs ∧ TvR Z ι H kvs xs ∧ (a == sysModules) = false := by
  obtain ⟨o, es, ep, h1, h2, h3, h4, h5, h6, h7, h8⟩ := D
  obtain ⟨xs, i2, i3⟩ := paired_keysT (P := X.prog) h8 ka k.w.symm
  refine ⟨xs, ⟨o, es, ep, MP.Inv.dctO I h1, h2, h3, i2, fun x hx => ?_, keysT_nodup i3 h6⟩, i3, h4⟩
  clear i2 h8 h6 h7
  induction i3 with
  | nil => cases hx
  | cons h t ih =>
    rw [List.all_cons, Bool.and_eq_true] at ka
    rcases List.mem_cons.mp hx with z | z
    · subst z
      rw [h.1]
      exact keyT_is I k.K h.2.1 h.2.2.1
    · exact ih ka.2 (by simp only [List.length_cons] at h5; omega) z
end
end MP
end
section
set_option Elab.async false
set_option linter.all false
set_option maxRecDepth 100000
namespace MP
open PySem PySem.Spec PyProof.Rows L2
section
variable {Z : Zt} {X : Cx} {G : Pg} {pins : List (Addr × Obj)} {σ : L2.St} {ι : List Addr} {H : Hp} {M : Mem} {s : Shared} {a : Addr} {z : Bool} {kvs : List (Wv × Wv)} {kk vv : Wv}
theorem room8 (k : XOk X Z) : (nestedKind X.prog X.w).room X.A.in1 := by
  show X.A.units + 1 + 8 < cLine
  have := k.un
  omega
theorem keyOk_cases (h : keyOk kvs kk = true) : (keyA kk = true ∧ (kvs.all fun p => keyA p.1) = true) ∨ (keyT kk = true ∧ (kvs.all fun p => keyT p.1) = true) := by
  unfold keyOk at h
  rw [Bool.or_eq_true, Bool.and_eq_true, Bool.and_eq_true] at h
  exact h
theorem DctR.in_ {neg : Bool} {x : V} {u : Value} {Q : VK} (I : L2.Inv X pins σ H s) (k : XOk X Z) (D : DctR Z ι H a z kvs) (h : keyOk kvs kk = true) (r : WR Z ι H kk x) (ru : RelV x u) (q : Q (.bl (if neg then !(dget kvs kk).isSome else (dget kvs kk).isSome)) H) :
    wpAny (model X.prog X.w) X.A (compareOp (if neg then .NotIn else .In) u (.ref a)) (EP X pins σ Q) X.xe s := by
  rcases keyOk_cases h with ⟨k1, k2⟩ | ⟨k1, k2⟩
  · obtain ⟨vs, dd, pv, hd⟩ := D.dictOf I k k2
    have ex := keyA_rel k1 r
    subst ex
    have e : (valueAt vs (keyW kk)).isSome = (dget kvs kk).isSome := by
      have g := pv.get k1
      cases e : dget kvs kk with
      | none => rw [e] at g; simp only at g; rw [g]; rfl
      | some y => rw [e] at g; obtain ⟨p, g, _⟩ := g; rw [g]; rfl
    cases neg with
    | false => exact wpAny_in_of (kV_is ru) hd dd.mapOf ⟨.bl _, H, I.tok _, rfl, by rw [e]; exact q⟩
    | true => exact wpAny_notIn_of (kV_is ru) hd dd.mapOf ⟨.bl _, H, I.tok _, rfl, by rw [e]; exact q⟩
  · obtain ⟨xs, dd, pv, hd⟩ := D.dictOfH I k k2
    obtain ⟨b, rfl⟩ := keyT_ref k1 r
    cases ru
    have e : (atKey xs (toNK kk)).isSome = (dget kvs kk).isSome := by
      have g := pv.get k1
      cases e : dget kvs kk with
      | none => rw [e] at g; simp only at g; rw [g]; rfl
      | some y => rw [e] at g; obtain ⟨p, g, _⟩ := g; rw [g]; rfl
    cases neg with
    | false => exact wpAny_in_heap (room8 k) (keyT_is I k.K k1 r) hd dd ⟨.bl _, H, I.tok _, rfl, by rw [e]; exact q⟩
    | true => exact wpAny_notIn_heap (room8 k) (keyT_is I k.K k1 r) hd dd ⟨.bl _, H, I.tok _, rfl, by rw [e]; exact q⟩
theorem DctR.typeIs (I : L2.Inv X pins σ H s) (D : DctR Z ι H a z kvs) : s.TypeIs (.ref a) "dict" := by
  obtain ⟨o, es, ep, h1, h2, h3, h4⟩ := D
  exact ⟨o, MP.Inv.dctO I h1, h2.1⟩
theorem DctR.noDict (I : L2.Inv X pins σ H s) (D : DctR Z ι H a z kvs) : ∀ b, Value.ref a = .ref b → ∃ ob, s.heap.get? b = some ob ∧ ob.dict = none := fun b q => by
  obtain ⟨o, es, ep, h1, h2, h3, h4⟩ := D
  cases q
  exact ⟨o, MP.Inv.dctO I h1, h2.2.1⟩
theorem DctR.getItem {x : V} {u : Value} {Q : Value → Shared → Prop} {E : Value → Shared → Prop} (I : L2.Inv X pins σ H s) (k : XOk X Z) (D : DctR Z ι H a z kvs) (h : keyOk kvs kk = true) (hg : dget kvs kk = some vv) (r : WR Z ι H kk x) (ru : RelV x u)
    (q : ∀ w' s' y, L2.Inv X pins σ H s' → RelV y w' → WR Z ι H vv y → Q w' s') : wpAny (model X.prog X.w) X.A (PySem.getItem (.ref a) u) Q E s := by
  rcases keyOk_cases h with ⟨k1, k2⟩ | ⟨k1, k2⟩
  · obtain ⟨vs, dd, pv, hd⟩ := D.dictOf I k k2
    have ex := keyA_rel k1 r
    subst ex
    have g := pv.get k1
    rw [hg] at g
    obtain ⟨w', g, y, ry, wy⟩ := g
    exact wpAny_getItem_of (kV_is ru) dd.mapOf g (q w' _ y (I.tok _) ry wy)
  · obtain ⟨xs, dd, pv, hd⟩ := D.dictOfH I k k2
    obtain ⟨b, rfl⟩ := keyT_ref k1 r
    cases ru
    have g := pv.get k1
    rw [hg] at g
    obtain ⟨p, g, y, ry, wy⟩ := g
    exact wpAny_getItem_heap (room8 k) (keyT_is I k.K k1 r) dd g (q p.2 _ y (I.tok _) ry wy)
theorem DctR.ok_new {P : Program} {w : World} {h' : Heap} {o : Obj} {H' : Hp} (e : h'.get? a = some o) : ObjOk P w H' h' a (DctO a o) := ⟨e, ⟨o, e⟩, fun h1 h2 p st => st _ p⟩
theorem DctR.setItem {x y : V} {u w' : Value} {Q : Unit → Shared → Prop} {E : Value → Shared → Prop} {l : Nat} (I : L2.Inv X pins σ H s) (k : XOk X Z) (R : RM Z ι M H) (hl : ι[l]? = some a) (D : DctR Z ι H a false kvs) (h : keyOk kvs kk = true) (hz : kvs.length + 1 ≤ sizeLine)
    (r : WR Z ι H kk x) (ru : RelV x u) (ry : WR Z ι H vv y) (rw' : RelV y w')
    (q : ∀ s' o', L2.Inv X pins σ (upd H a (DctO a o')) s' → DctR Z ι (upd H a (DctO a o')) a false (dput kvs kk vv) → Ext ι ι H (upd H a (DctO a o')) → Q () s') : wpAny (model X.prog X.w) X.A (PySem.setItem (.ref a) u w') Q E s := by
  obtain ⟨o, es, ep, h1, h2, h3, h4, h5, h6, h7, h8⟩ := id D
  have hlen : (dput kvs kk vv).length ≤ sizeLine := by have := dput_len kvs kk vv; omega
  have hmut : Mut (H a) := by rw [h1]; exact True.intro
  rcases keyOk_cases h with ⟨k1, k2⟩ | ⟨k1, k2⟩
  · obtain ⟨vs, dd, pv, hd⟩ := D.dictOf I k k2
    have ex := keyA_rel k1 r
    subst ex
    have hz2 : vs.length ≤ sizeLine := by rw [← Paired.length pv]; omega
    refine wpAny_setItem_pairs (hsz := hz2) (kV_is ru) dd fun h' dd' hs => ?_
    obtain ⟨o', es', ep', e1, e2, e3, e4, e5, e6⟩ := dd'
    have ex : Ext ι ι H (upd H a (DctO a o')) := Ext.write R hl (fun ob φ e => by rw [h1] at e; cases e)
    refine q _ o' (d_write I hmut hs ⟨o', e1⟩ (DctR.ok_new e1)) ⟨o', es', ep', upd_same, e2, e3, hd, hlen, dput_nodup h6, .inl (dput_all k2 k1), ?_⟩ ex
    refine pairs_back (P := X.prog) k.w.symm (fun e he => e4 e (Array.mem_toList_iff.mp he)) e5 ?_
    exact L2.Paired.mapP (pv.put k1 h6 rw' ry) fun p q z => ⟨z.1, z.2.1, let ⟨x, z1, z2⟩ := z.2.2; ⟨x, z1, z2.mono ex.le⟩⟩
  · obtain ⟨xs, dd, pv, hd⟩ := D.dictOfH I k k2
    obtain ⟨b, rfl⟩ := keyT_ref k1 r
    cases ru
    have hz2 : xs.length ≤ sizeLine := by rw [← Paired.length pv]; omega
    refine wpAny_setItem_heap (hsz := hz2) (room8 k) (keyT_is I k.K k1 r) dd fun h' dd' hs => ?_
    obtain ⟨o', es', ep', e1, e2, e3, e4, e5, e6⟩ := dd'
    have ex : Ext ι ι H (upd H a (DctO a o')) := Ext.write R hl (fun ob φ e => by rw [h1] at e; cases e)
    refine q _ o' (d_write I hmut hs ⟨o', e1⟩ (DctR.ok_new e1)) ⟨o', es', ep', upd_same, e2, e3, hd, hlen, dput_nodup h6, .inr (dput_all k2 k1), ?_⟩ ex
    refine pairs_backT (P := X.prog) k.w.symm e4 ?_
    exact L2.Paired.mapP (pv.put k1 h6 r rw' ry) fun p q z => ⟨z.1, z.2.1, z.2.2.1.mono ex.le, let ⟨x, z1, z2⟩ := z.2.2.2; ⟨x, z1, z2.mono ex.le⟩⟩
theorem dctO_noC (o : Obj) (c : Addr) (q : Str) (hd : ∃ es ep, o.data = .dict es ep) : DctO c o ≠ LamX.CodeO c q := fun e => by
  unfold DctO LamX.CodeO at e
  injection e with e
  obtain ⟨es, ep, hd⟩ := hd
  have hg : (⟨Array.replicate (c + 1) o, {}⟩ : Heap).get? c = some o := by
    obtain ⟨oc, od, dt, sl⟩ := o
    simp only at hd
    subst hd
    simp [Heap.get?]
  have e2 := congrFun e (⟨Array.replicate (c + 1) o, {}⟩ : Heap)
  have e3 : ∃ (oc : Obj) (vs : Array Value) (t : Tok), (⟨Array.replicate (c + 1) o, {}⟩ : Heap).get? c = some oc ∧ oc.data = .fields vs ∧ vs[1]? = some (.str q t) := by
    rw [← e2]; exact hg
  obtain ⟨oc, vs, t, a1, a2, _⟩ := e3
  rw [hg] at a1
  cases a1
  rw [hd] at a2
  cases a2
theorem inLst_dp {x : Wv} {vx : V} {ws : List Wv} {r : Bool} {l : Nat} {b : Addr} (hS : Z.S = G.S) (R : RM Z ι M H) (wx : WR Z ι H x vx) (hM : M[l]? = some (.lst ws)) (hl : ι[l]? = some b) (e : inLst G x ws M = some r) :
    ∃ d ds, Dp Z.K H vx d ∧ Dp Z.K H (.ref b) (.list ds) ∧ SeqAt.shaped d = true ∧ SeqAt.shaped (.list ds) = true ∧ (ds.any fun z => PyData.eqv z d) = r := by
  unfold inLst at e
  split at e
  · rename_i d ds e1 e2
    split at e
    · rename_i c
      rw [Bool.and_eq_true] at c
      cases e
      obtain ⟨vs, h1, h2⟩ := R.ob _ _ _ hM hl
      exact ⟨d, ds, toD_dp hS R _ wx e1, .lst (SqL.of h1) (toDs_dp hS R _ h2 e2), c.1, c.2, rfl⟩
    · cases e
  · cases e
theorem op_inW (k : XOk X Z) (hS : Z.S = G.S) : OpR X (compareOp .In) (r2 Z (cmpW G .in_)) := by
  intro pins s σ H x y v u Q I rx ry h
  obtain ⟨ι, M, a, b, R, wa, wb, h⟩ := h
  obtain ⟨r, e, q⟩ := cmp_ok R h
  have e : inW G a b M = some r := e
  cases wb with
  | tup hs ht =>
    simp only [inW] at e
    split at e
    · rename_i c
      rw [Bool.and_eq_true] at c
      cases e
      obtain ⟨f1, f2⟩ := flats_dp wa c.1 ht c.2
      obtain ⟨f3, _⟩ := flat_dp wa c.1
      exact op_in_seq pins s σ H _ _ v u Q I rx ry ⟨_, _, rfl, .inr (by rw [k.K]; exact hs), f3, f1, by rw [f2]; exact q⟩
    · cases e
  | str z =>
    cases wa with
    | str t => cases e; exact op_in_str pins s σ H _ _ v u Q I rx ry ⟨t, z, rfl, rfl, q⟩
    | _ => cases e
  | ref hl =>
    simp only [inW] at e
    split at e
    · rename_i ws hM
      obtain ⟨d, ds, h1, h2, h3, h4, rfl⟩ := inLst_dp hS R wa hM hl e
      exact op_inD (by have := k.un; omega) pins s σ H _ _ v u Q I rx ry ⟨d, ds, by rw [k.K]; exact h1, by rw [k.K]; exact h2, h3, h4, q⟩
    · rename_i kvs hM
      split at e
      · rename_i hk
        cases e
        cases ry
        exact DctR.in_ (neg := false) I k (R.ob _ _ _ hM hl) hk wa rx q
      · cases e
    · cases e
  | _ => cases e
theorem op_ninW (k : XOk X Z) (hS : Z.S = G.S) : OpR X (compareOp .NotIn) (r2 Z (cmpW G .nin)) := by
  intro pins s σ H x y v u Q I rx ry h
  obtain ⟨ι, M, a, b, R, wa, wb, h⟩ := h
  obtain ⟨r, e, q⟩ := cmp_ok R h
  have e : inW G a b M = some (!r) := notO_some e
  cases wb with
  | tup hs ht =>
    simp only [inW] at e
    split at e
    · rename_i c
      rw [Bool.and_eq_true] at c
      have e := Option.some.inj e
      obtain ⟨f1, f2⟩ := flats_dp wa c.1 ht c.2
      obtain ⟨f3, _⟩ := flat_dp wa c.1
      exact op_notIn_seq pins s σ H _ _ v u Q I rx ry ⟨_, _, rfl, .inr (by rw [k.K]; exact hs), f3, f1, by rw [if_pos rfl, f2, e, Bool.not_not]; exact q⟩
    · cases e
  | str z =>
    cases wa with
    | str t =>
      have e := Option.some.inj e
      exact op_notin_str pins s σ H _ _ v u Q I rx ry ⟨t, z, rfl, rfl, by rw [e, Bool.not_not]; exact q⟩
    | _ => cases e
  | ref hl =>
    simp only [inW] at e
    split at e
    · rename_i ws hM
      obtain ⟨d, ds, h1, h2, h3, h4, e2⟩ := inLst_dp hS R wa hM hl e
      exact op_notInD (by have := k.un; omega) pins s σ H _ _ v u Q I rx ry ⟨d, ds, by rw [k.K]; exact h1, by rw [k.K]; exact h2, h3, h4, by rw [e2, Bool.not_not]; exact q⟩
    · rename_i kvs hM
      split at e
      · rename_i hk
        have e := Option.some.inj e
        cases ry
        exact DctR.in_ (neg := true) I k (R.ob _ _ _ hM hl) hk wa rx (by rw [if_pos rfl, e, Bool.not_not]; exact q)
      · cases e
    · cases e
  | _ => cases e
theorem op_neLW (k : XOk X Z) : OpR X (compareOp .NotEq) (r2 Z (cmpW G .neL)) := by
  intro pins s σ H x y v u Q I rx ry h
  obtain ⟨ι, M, a, b, R, wa, wb, h⟩ := h
  obtain ⟨r, e, q⟩ := cmp_ok R h
  have hu : X.A.units < cLine := by have := k.un; omega
  simp only [neLW] at e
  split at e
  · rename_i l m
    split at e
    · rename_i ws h1 h2
      cases e
      obtain ⟨la, rfl, _, vs, e1, w1⟩ := R.at_ref h1 wa
      obtain ⟨lb, rfl, _, us, e2, w2⟩ := R.at_ref h2 wb
      obtain ⟨its, r1, p1, _⟩ := I.list (SqL.of (K := X.K) e1)
      obtain ⟨its2, r2, p2, _⟩ := I.list (SqL.of (K := X.K) e2)
      cases rx
      cases ry
      have hl1 := Vals.length r1
      have hl2 := Vals.length r2
      have hl3 := w1.length
      have hl4 := w2.length
      have q' : EP X pins σ Q (.bool (!ws.isEmpty)) s := ⟨.bl _, H, I, rfl, q⟩
      by_cases c : ws = []
      · subst c
        have z1 : its.toArray.size = 0 := by rw [List.size_toArray, ← hl1, ← hl3]; rfl
        have z2 : its2.toArray.size = 0 := by rw [List.size_toArray, ← hl2, ← hl4]; rfl
        have := SeqAt.RcNeAt.lists (A := X.A) (e := fun _ => true) p1.isList p2.isList (by rw [z1, z2]) hu (fun j h1 h2 => by omega) X.prog X.w X.xe (EP X pins σ Q)
        refine this ?_
        rw [z1]
        exact q'
      · have z1 : ¬ its.toArray.size = 0 := by
          intro z
          rw [List.size_toArray, ← hl1, ← hl3] at z
          exact c (List.eq_nil_of_length_eq_zero z)
        have z2 : its2.toArray.size = 0 := by rw [List.size_toArray, ← hl2, ← hl4]; rfl
        refine SeqAt.RcNeAt.lists_lengths (A := X.A) p1.isList p2.isList (by rw [z2]; simpa using z1) hu X.prog X.w X.xe (EP X pins σ Q) ?_
        have : (!ws.isEmpty) = true := by simpa using c
        rw [this] at q'
        exact q'
    · cases e
  · cases e
def cmOf : Cm → CmpOp
  | .eq => .Eq
  | .ne => .NotEq
  | .lt => .Lt
  | .le => .LtE
  | .gt => .Gt
  | .ge => .GtE
  | .is_ => .Is
  | .isn => .IsNot
  | .in_ => .In
  | .nin => .NotIn
  | .neL => .NotEq
theorem op_cmpW (k : XOk X Z) (hS : Z.S = G.S) (c : Cm) : OpR X (compareOp (cmOf c)) (r2 Z (cmpW G c)) := by
  cases c
  · exact op_eqW k hS
  · exact op_neW k hS
  · exact op_ltW
  · exact op_leW
  · exact op_gtW
  · exact op_geW
  · exact op_isW
  · exact op_isnW
  · exact op_inW k hS
  · exact op_ninW k hS
  · exact op_neLW k
theorem atI_rel {ws : List Wv} {vs : List V} {j : Int} {w : Wv} (r : WsR Z ι H ws vs) (e : atI ws j = some w) : ∃ v, L2.atI vs j = some v ∧ WR Z ι H w v := by
  unfold atI at e
  have hl := r.length
  by_cases h0 : 0 ≤ j
  · rw [if_pos h0] at e
    obtain ⟨v, h1, h2⟩ := r.get e
    refine ⟨v, ?_, h2⟩
    have hlt := (List.getElem?_eq_some_iff.mp h1).1
    unfold L2.atI L2.ixN
    rw [if_pos h0, if_pos (by omega)]
    exact h1
  · rw [if_neg h0] at e
    split at e
    · rename_i h2
      obtain ⟨v, h3, h4⟩ := r.get e
      refine ⟨v, ?_, h4⟩
      unfold L2.atI L2.ixN
      rw [if_neg h0, if_pos (by rw [← hl]; exact h2), ← hl]
      exact h3
    · cases e
theorem atI_str {cs : List Nat} {j : Int} {c : Nat} (e : atI cs j = some c) : L2.atI cs j = some c := by
  unfold atI at e
  unfold L2.atI L2.ixN
  by_cases h0 : 0 ≤ j
  · rw [if_pos h0] at e ⊢
    have hlt := (List.getElem?_eq_some_iff.mp e).1
    rw [if_pos (by omega)]
    exact e
  · rw [if_neg h0] at e ⊢
    split at e
    · rename_i h2
      rw [if_pos h2]
      exact e
    · cases e
theorem prim_sub (x y : Wv) (M : Mem) : Prim (subW G x y M) := by
  unfold subW
  split <;> try (split <;> first | exact Prim.ofO | exact Prim.bad | (split <;> first | exact Prim.ofO | exact Prim.bad | exact Prim.ofO.chk) | exact Prim.ofO.chk)
  all_goals exact Prim.bad
theorem sub_tail {prog : Program} {w : World} {A : Around} {E : Value → Shared → Prop} {s : Shared} {value slice : Expr} {o i : Value} {T id : String} {Q : Value → Shared → Prop}
    (hT : s.TypeIs o T) (hl : typeLookup (.type T) "__getitem__" = pure (some (.builtin id))) (hs : subscripted slice false o i = operate [o, i] (PySem.getItem o i)) (h : wpAny (model prog w) A (PySem.getItem o i) Q E s) :
    wpAny (model prog w) A (subscriptTail value slice o i) Q E s := by
  unfold subscriptTail
  refine wpAny_bind ?_
  rw [getitemInPython_of_ne hT.not_modules]
  refine wpAny_bind (wpAny_specialOf hT hl ?_)
  have fin : wpAny (model prog w) A (subscripted slice false o i) (fun r s₃ => wpAny (model prog w) A (letTemporaryGo value o r >>= fun _ => pure r) Q E s₃) E s := by
    rw [hs]
    exact wpAny_operating (wpAny_mono h (fun r s₃ h₃ => wpAny_bind (wpAny_letTemporaryGo (wpAny_pure h₃))) fun _ _ x => x)
  first
    | exact wpAny_pure (wpAny_bind fin)
    | exact wpAny_bind (wpAny_pure (wpAny_bind fin))
    | exact wpAny_bind fin
theorem ix_subW (k : XOk X Z) (hS : Z.S = G.S) : IxR X (r2 Z (subW G)) := by
  intro value slice pins s σ H x y v u Q I rx ry h hs
  obtain ⟨ι, M, a, b, R, wa, wb, h⟩ := h
  cases wa with
  | tup ha ta =>
    cases wb with
    | int j =>
      obtain ⟨w, e, h⟩ := rOut.ofO h
      obtain ⟨z, e1, e2⟩ := atI_rel ta e
      exact ix_tup value slice pins s σ H _ _ v u Q I rx ry ⟨_, _, j, z, rfl, rfl, by rw [k.K]; exact ha, e1, h.val R e2⟩ hs
    | _ => exact False.elim h
  | str z =>
    cases wb with
    | int j =>
      simp only [subW] at h
      split at h
      · rename_i hz
        obtain ⟨w, e, h⟩ := h.ofO
        obtain ⟨c, e1, rfl⟩ := Option.map_eq_some_iff.mp e
        exact ix_str value slice pins s σ H _ _ v u Q I rx ry ⟨z, j, c, rfl, rfl, hz, atI_str e1, h.val R (.str _)⟩ hs
      · exact False.elim h
    | _ => exact False.elim h
  | scr ha =>
    cases wb with
    | int j =>
      obtain ⟨w, e, h⟩ := rOut.ofO h
      obtain ⟨i, e1, rfl⟩ := Option.map_eq_some_iff.mp e
      have e3 : atI (G.S.map Wv.int) j = some (.int i) := by
        unfold atI at e1 ⊢
        rw [List.length_map]
        split
        · rename_i h0; rw [if_pos h0] at e1; rw [List.getElem?_map, e1]; rfl
        · rename_i h0
          rw [if_neg h0] at e1
          split
          · rename_i h2; rw [if_pos h2] at e1; rw [List.getElem?_map, e1]; rfl
          · rename_i h2; rw [if_neg h2] at e1; cases e1
      obtain ⟨z, e4, e5⟩ := atI_rel (Z := Z) (ι := ι) (H := H) (WsR.ints G.S) e3
      exact ix_list value slice pins s σ H _ _ v u Q I rx ry ⟨_, _, j, z, rfl, rfl, by rw [k.K]; exact ha.sq, by rw [hS]; exact e4, h.val R e5⟩ hs
    | _ => exact False.elim h
  | ref ha =>
    simp only [subW] at h
    split at h
    · rename_i ws hM
      obtain ⟨vs, h1, h2⟩ := R.ob _ _ _ hM ha
      cases wb with
      | int j =>
        obtain ⟨w, e, h⟩ := rOut.ofO h
        obtain ⟨z, e1, e2⟩ := atI_rel h2 e
        exact ix_list value slice pins s σ H _ _ v u Q I rx ry ⟨_, _, j, z, rfl, rfl, SqL.of h1, e1, h.val R e2⟩ hs
      | _ => exact False.elim h
    · rename_i kvs hM
      obtain ⟨c, h⟩ := h.chk
      obtain ⟨w, e, h⟩ := h.ofO
      have D : DctR Z ι H _ _ kvs := R.ob _ _ _ hM ha
      cases rx
      exact sub_tail (D.typeIs I) slot_dict_getitem.lookup hs (D.getItem I k c e wb ry fun w' s' y I' r' q' => ⟨y, H, I', r', h.val R q'⟩)
    · exact False.elim h
  | _ => exact False.elim h
end
end MP
end
section
set_option Elab.async false
set_option linter.all false
set_option maxRecDepth 100000
namespace MP
open PySem PySem.Spec PyProof.Rows L2
def oOut (Z : Zt) (Wx : Wish) (σ : L2.St) (ι : List Addr) (H : Hp) (r : Out (Option Int)) (Q : Option Int → Hp → Prop) : Prop := match r with
  | .ok b M => ∀ H' ι', Ext ι ι' H H' → RM Z ι' M H' → Q b H'
  | .exc c M => ∀ H' ι', Ext ι ι' H H' → RM Z ι' M H' → Wx c σ H'
  | .bad => False
def tO (Z : Zt) (Wx : Wish) (f : Sw → Mem → Out (Option Int)) : TO := fun σ H Q => ∃ ι sw M, SR Z ι H sw σ ∧ RM Z ι M H ∧ oOut Z Wx σ ι H (f sw M) Q
theorem _root_.L2.PO.weak {X : Cx} {e : Option Expr} {t t' : TO} (h : PO X e t) (w : ∀ σ H Q, t' σ H Q → t σ H Q) : PO X e t' := ⟨fun pins s σ H Q I q => h.run pins s σ H Q I (w σ H Q q)⟩
section
variable {Z : Zt} {Wx : Wish} {X : Cx} {G : Pg} {σ : L2.St} {ι ι1 : List Addr} {H H1 : Hp} {sw : Sw} {M : Mem}
theorem oOut.shift {r : Out (Option Int)} {Q : Option Int → Hp → Prop} (e : Ext ι ι1 H H1) (h : oOut Z Wx σ ι H r Q) : oOut Z Wx σ ι1 H1 r Q := by
  cases r with
  | ok w M' => exact fun H' ι' x R => h H' ι' (e.trans x) R
  | exc c M' => exact fun H' ι' x R => h H' ι' (e.trans x) R
  | bad => exact h
theorem tE.seqO {f : Fv} {g : Wv → Mem → Out (Option Int)} {Q : Option Int → Hp → Prop} {R : VK} (s : SR Z ι H sw σ) (R0 : RM Z ι M H) (h : oOut Z Wx σ ι H ((f sw M).bind g) Q)
    (hk : ∀ w M1 v H1 ι1, Ext ι ι1 H H1 → RM Z ι1 M1 H1 → WR Z ι1 H1 w v → SR Z ι1 H1 sw σ → oOut Z Wx σ ι1 H1 (g w M1) Q → R v H1) : tE Z Wx f σ H R := by
  refine ⟨ι, sw, M, s, R0, ?_⟩
  cases e : f sw M with
  | ok w M1 =>
    rw [e] at h
    exact fun v H' ι' x R q => hk w M1 v H' ι' x R q (s.mono x.le) (h.shift x)
  | exc c M1 => rw [e] at h; exact h
  | bad => rw [e] at h; exact h
theorem tO.seqE {f : Sw → Mem → Out (Option Int)} {g : Option Int → Mem → Out Wv} {Q : VK} {R : Option Int → Hp → Prop} (s : SR Z ι H sw σ) (R0 : RM Z ι M H) (h : eOut Z Wx σ ι H ((f sw M).bind g) Q)
    (hk : ∀ b M1 H1 ι1, Ext ι ι1 H H1 → RM Z ι1 M1 H1 → SR Z ι1 H1 sw σ → eOut Z Wx σ ι1 H1 (g b M1) Q → R b H1) : tO Z Wx f σ H R := by
  refine ⟨ι, sw, M, s, R0, ?_⟩
  cases e : f sw M with
  | ok w M1 =>
    rw [e] at h
    exact fun H' ι' x R => hk w M1 H' ι' x R (s.mono x.le) (h.shift x)
  | exc c M1 => rw [e] at h; exact h
  | bad => rw [e] at h; exact h
theorem so_none : PO X none (tO Z Wx fun _ M => .ok none M) := po_none.weak fun σ H Q ⟨ι, sw, M, s, R, h⟩ => h H ι (Ext.refl ι H) R
theorem so_some {e : Expr} {f : Fv} (he : PE X e (tE Z Wx f)) : PO X (some e) (tO Z Wx fun sw M => (f sw M).bind fun y M => .ofO ((toI y).map some) M) :=
  (po_some he).weak fun σ H Q ⟨ι, sw, M, s, R, h⟩ => tE.seqO s R h fun w M1 v H1 ι1 e1 R1 q1 s1 h1 => by
    cases q1 with
    | int i => exact ⟨i, rfl, h1 H1 ι1 (Ext.refl _ _) R1⟩
    | _ => exact False.elim h1
theorem prim_slc (x : Wv) (l h : Option Int) (M : Mem) : Prim (slcW x l h M) := by
  unfold slcW
  split <;> first
    | exact Prim.ok
    | exact Prim.ok.chk
    | exact Prim.bad
    | (split <;> first | exact Prim.ok | exact Prim.bad)
theorem sIx_eq (n d : Nat) (o : Option Int) : sIx n d o = HT.sIx n d o := by
  cases o <;> rfl
theorem cut_rel {ws : List Wv} {vs : List V} (r : WsR Z ι H ws vs) (lo hi : Option Int) : WsR Z ι H (cut ws lo hi) (cutV vs lo hi) := by
  unfold cut cutV
  rw [r.length, sIx_eq, sIx_eq]
  exact (r.drop _).take _
theorem sl_slcW (k : XOk X Z) : SlR X (fun x lo hi H Q => ∃ ι M w, RM Z ι M H ∧ WR Z ι H w x ∧ rOut Z ι H (slcW w lo hi M) Q) := by
  intro pins s σ H x v vl vu lo hi sl Q I rx hs pl pu h
  obtain ⟨ι, M, w, R, wr, h⟩ := h
  cases wr with
  | tup ha ta =>
    refine sl_tupA pins s σ H _ v vl vu lo hi sl Q I rx hs pl pu ⟨_, _, rfl, by rw [k.K]; exact ha, fun hw => ?_, fun _ p hp => h.tup R (cut_rel ta lo hi) hp⟩
    refine h.val R (.tup ha ?_)
    have e := cut_rel ta lo hi
    have e2 : ∀ {vs : List V}, (HT.sIx vs.length 0 lo = 0 ∧ HT.sIx vs.length vs.length hi = vs.length) → cutV vs lo hi = vs := fun {vs} hw => by
      unfold cutV
      rw [hw.1, hw.2]
      simp
    rw [e2 hw] at e
    exact e
  | str z =>
    obtain ⟨c, h⟩ := h.chk
    exact sl_str pins s σ H _ v vl vu lo hi sl Q I rx hs pl pu ⟨z, rfl, of_decide_eq_true c, by
      have e : cutS z lo hi = ⟨(cut z.cps.toList lo hi).toArray⟩ := by
        unfold cutS cut
        rw [sIx_eq, sIx_eq, Array.length_toList]
        rfl
      rw [e]
      exact h.val R (.str _)⟩
  | ref ha =>
    simp only [slcW] at h
    split at h
    · rename_i ws hM
      obtain ⟨vs, h1, h2⟩ := R.ob _ _ _ hM ha
      exact sl_list pins s σ H _ v vl vu lo hi sl Q I rx hs pl pu ⟨_, vs, rfl, SqL.of h1, fun p hp => h.lst R (cut_rel h2 lo hi) hp⟩
    · exact False.elim h
  | _ => exact False.elim h
theorem se_slc (k : XOk X Z) {a : Expr} {lo hi : Option Expr} {f : Fv} {fl fh : Sw → Mem → Out (Option Int)} {pos p2 : Pos} (ha : PE X a (tE Z Wx f)) (hl : PO X lo (tO Z Wx fl)) (hh : PO X hi (tO Z Wx fh)) :
    PE X (.Subscript a (.Slice lo hi none p2) pos) (tE Z Wx fun sw M => (f sw M).bind fun x M => (fl sw M).bind fun l M => (fh sw M).bind fun h M => slcW x l h M) :=
  (pe_slice (sl_slcW k) ha hl hh).weak fun σ H Q ⟨ι, sw, M, s, R, h⟩ => tE.seqE s R h fun x M1 v H1 ι1 e1 R1 q1 s1 h1 => tO.seqE s1 R1 h1 fun l M2 H2 ι2 e2 R2 s2 h2 => tO.seqE s2 R2 h2 fun u M3 H3 ι3 e3 R3 s3 h3 =>
    ⟨ι3, M3, x, R3, (q1.mono e2.le).mono e3.le, (prim_slc x l u M3).out h3⟩
theorem prim_rev (z : Bool) (x : Wv) (M : Mem) : Prim (revW z x M) := by
  unfold revW
  split
  · split
    · exact Prim.ok
    · exact Prim.bad
  · exact Prim.bad
theorem se_rev (k : XOk X Z) {a : Expr} {f : Fv} {kk : Nat} {p1 p2 p3 pos : Pos} (ha : PE X a (tE Z Wx f)) :
    PE X (.Subscript a (.Slice none none (some (.UnaryOp .USub (.Constant (.int 1) kk p1) p2)) p3) pos) (tE Z Wx fun sw M => (f sw M).bind fun x M => revW false x M) :=
  (pe_revL ha).weak fun σ H Q ⟨ι, sw, M, s, R, h⟩ => tE.seqE s R h fun x M1 v H1 ι1 e1 R1 q1 s1 h1 => by
    cases q1 with
    | ref hr =>
      have h2 := (prim_rev _ _ _).out h1
      simp only [revW] at h2
      split at h2
      · rename_i ws hM
        obtain ⟨vs, e1, e2⟩ := R1.ob _ _ _ hM hr
        exact ⟨_, vs, rfl, SqL.of e1, fun p hp => rOut.lst h2 R1 e2.rev hp⟩
      · exact False.elim h2
    | _ => exact False.elim h1
theorem down_range (n : Nat) : (List.range (n - 1)).map (fun k => n - 1 - k) = ((List.range (n - 1)).map (1 + ·)).reverse := by
  apply List.ext_getElem
  · simp
  · intro i h1 h2
    simp at h1 h2
    rw [List.getElem_map, List.getElem_reverse, List.getElem_map]
    simp
    omega
theorem down_sliceRange (n : Nat) : sliceRange ((n : Int) - 1) (max (-1) (min 0 ((n : Int) - 1))) (-1) = (List.range (n - 1)).map fun k => n - 1 - k := by
  unfold sliceRange
  have h1 : ¬ ((-1 : Int) > 0) := by decide
  cases n with
  | zero => decide
  | succ m =>
    have e0 : max (-1) (min 0 (((m + 1 : Nat) : Int) - 1)) = 0 := by omega
    rw [e0]
    by_cases h : ((m + 1 : Nat) : Int) - 1 > 0
    · have e : (((m + 1 : Nat) : Int) - 1 - 0 - -1 - 1) / (- -1) = (m : Int) := by
        rw [show (- -1 : Int) = 1 by decide, Int.ediv_one]
        omega
      simp only [h1, if_false, h, if_true, e, Int.toNat_natCast]
      show _ = (List.range m).map _
      apply List.map_congr_left
      intro k hk
      have := List.mem_range.mp hk
      omega
    · have e : m = 0 := by omega
      subst e
      simp
theorem pick_down (its : List Value) : slicePick its.toArray none (some 0) (some (-1)) = its.tail.reverse.toArray := by
  unfold slicePick
  have e : sliceBounds none (some 0) (some (-1)) its.toArray.size = ((its.toArray.size : Int) - 1, max (-1) (min 0 ((its.toArray.size : Int) - 1)), -1) := by
    first | rfl | simp [sliceBounds]
  rw [e]
  show ((sliceRange ((its.toArray.size : Int) - 1) (max (-1) (min 0 ((its.toArray.size : Int) - 1))) (-1)).filterMap (its.toArray[·]?)).toArray = _
  rw [down_sliceRange, down_range, List.filterMap_reverse]
  have h := pick_run its.toArray 1 (its.toArray.size - 1)
  rw [h]
  have : (its.toArray.toList.drop 1).take (its.toArray.size - 1) = its.tail := by
    cases its with
    | nil => rfl
    | cons x xs => simp
  rw [this]
theorem pe_downL {e : Expr} {te : TE} {k k2 : Nat} {p0 p1 p2 p3 pos : Pos} (he : PE X e te) : PE X (.Subscript e (.Slice none (some (.Constant (.int 0) k2 p0)) (some (.UnaryOp .USub (.Constant (.int 1) k p1) p2)) p3) pos)
    (fun σ H Q => te σ H fun x H1 => ∃ a xs, x = .ref a ∧ SqL X.K H1 a xs ∧ ∀ p, H1 p = none → Q (.ref p) (upd H1 p (.lst xs.tail.reverse))) := by
  refine ⟨fun pins s σ H Q I h => ?_⟩
  refine Subscript_ (thn (he.run pins s σ H _ I h) fun v s1 ⟨x, H1, I1, r1, q1⟩ => ?_)
  obtain ⟨a, xs, ex, hx, q⟩ := q1
  subst ex
  cases r1
  have hst : PO X (some (.UnaryOp .USub (.Constant (.int 1) k p1) p2)) (tPart (tUn (rU fun i => .int (-i)) (tC (.int 1)))) := po_some (pe_un un_neg pe_int)
  have hup : PO X (some (.Constant (.int 0) k2 p0)) (tPart (tC (.int 0))) := po_some pe_int
  refine wpAny_Slice (thn (po_none.run pins s1 σ H1 (fun o H2 => o = none ∧ H2 = H1) I1 ⟨rfl, rfl⟩) fun vl s2 ⟨l, H2, I2, pl, el, e2⟩ => ?_)
  subst el e2
  refine thn (hup.run pins s2 σ H2 (fun o H3 => o = some 0 ∧ H3 = H2) I2 ⟨0, rfl, rfl, rfl⟩) fun vu s3 ⟨u, H3, I3, pu, eu, e3⟩ => ?_
  subst eu e3
  refine thn (hst.run pins s3 σ H3 (fun o H4 => o = some (-1) ∧ H4 = H3) I3 ⟨1, rfl, -1, rfl, rfl, rfl⟩) fun vs s4 ⟨o, H4, I4, ps, eo, e4⟩ => ?_
  subst eo e4
  have I5 : L2.Inv X pins σ H4 { s4 with heap := s4.heap.push { cls := .type "slice", data := .fields #[vl, vu, vs] } } := I4.kept (t' := s4.toks) fun b ob q => Heap.get?_push_of_some _ q
  obtain ⟨its, r, ht, hz⟩ := I5.list hx
  have hlen := r.length
  show wpAny (model X.prog X.w) X.A (subscriptTail e (.Slice none (some (.Constant (.int 0) k2 p0)) (some (.UnaryOp .USub (.Constant (.int 1) k p1) p2)) p3) (.ref a) (.ref s4.heap.objs.size)) (EP X pins σ Q) X.xe { s4 with heap := s4.heap.push { cls := .type "slice", data := .fields #[vl, vu, vs] } }
  refine tail_any (ops := [.ref a, .ref s4.heap.objs.size]) ht.isList.typeIs (PySem.slot_list_getitem.lookup) ?_ (by with_unfolding_all rfl)
  refine wpAny_getItem_list_slice ht.isList (Heap.IsSliceOf.new _ vl vu vs) pl pu ps (by decide) ?_ (by rw [List.size_toArray]; omega)
  rw [pick_down]
  have rt : Vals xs.tail its.tail := by
    cases r with
    | nil => exact .nil
    | cons _ t => exact t
  refine ⟨.ref _, _, I5.laid (t' := s4.toks) (o := .lst xs.tail.reverse) (fun b ob q => Heap.get?_push_of_some _ q) (Nat.le_refl _) ?_, rfl, q _ (I5.hok.fresh (Nat.le_refl _))⟩
  exact ⟨by rw [List.length_reverse, List.length_tail]; omega, _, 0, rt.reverse, Heap.get?_push_size _ rfl⟩
theorem WsR.tail {ws : List Wv} {vs : List V} (r : WsR Z ι H ws vs) : WsR Z ι H ws.tail vs.tail := by
  cases r with
  | nil => exact .nil
  | cons _ t => exact t
theorem se_down (k : XOk X Z) {a : Expr} {f : Fv} {kk k2 : Nat} {p0 p1 p2 p3 pos : Pos} (ha : PE X a (tE Z Wx f)) :
    PE X (.Subscript a (.Slice none (some (.Constant (.int 0) k2 p0)) (some (.UnaryOp .USub (.Constant (.int 1) kk p1) p2)) p3) pos) (tE Z Wx fun sw M => (f sw M).bind fun x M => revW true x M) :=
  (pe_downL ha).weak fun σ H Q ⟨ι, sw, M, s, R, h⟩ => tE.seqE s R h fun x M1 v H1 ι1 e1 R1 q1 s1 h1 => by
    cases q1 with
    | ref hr =>
      have h2 := (prim_rev _ _ _).out h1
      simp only [revW] at h2
      split at h2
      · rename_i ws hM
        obtain ⟨vs, e1, e2⟩ := R1.ob _ _ _ hM hr
        exact ⟨_, vs, rfl, SqL.of e1, fun p hp => rOut.lst h2 R1 e2.tail.rev hp⟩
      · exact False.elim h2
    | _ => exact False.elim h1
theorem se_dict0 {pos : Pos} : PE X (.Dict [] [] pos) (tE Z Wx fun _ M => .ok (.ref M.length) (M ++ [.dct false []])) := by
  refine ⟨fun pins s σ H Q I ⟨ι, sw, M, sr, R, h⟩ => wpAny_Dict_empty ?_⟩
  have hp : H s.heap.objs.size = none := I.hok.fresh (Nat.le_refl _)
  have e1 : (s.heap.push { cls := .type "dict", data := .dict #[] }).get? s.heap.objs.size = some { cls := .type "dict", data := .dict #[] } := Heap.get?_push_size _ rfl
  refine ⟨.ref s.heap.objs.size, _, I.laid (a := s.heap.objs.size) (o := DctO s.heap.objs.size { cls := .type "dict", data := .dict #[] }) (t' := s.toks) (fun _ _ q => Heap.get?_push_of_some _ q) (Nat.le_refl _) (DctR.ok_new e1), rfl, ?_⟩
  have ex := Ext.alloc (ho := DctO s.heap.objs.size { cls := .type "dict", data := .dict #[] }) ι hp
  refine h (.ref s.heap.objs.size) _ (ι ++ [s.heap.objs.size]) ex (R.alloc hp ?_) (.ref (snoc_ix R _))
  exact ⟨_, #[], 0, upd_same, ⟨rfl, rfl, rfl⟩, rfl, beq_eq_false_iff_ne.mpr (Ne.symm (Nat.ne_of_lt I.big)), Nat.zero_le _, List.nodup_nil, .inl rfl, .nil⟩
end
end MP
end
section
set_option Elab.async false
set_option linter.all false
set_option maxRecDepth 100000
namespace MP
open PySem PySem.Spec PyProof.Rows L2
section
variable {Z : Zt} {X : Cx} {G : Pg} {ι : List Addr} {H : Hp} {M : Mem}
theorem WsR.one {w : Wv} {xs : List V} (r : WsR Z ι H [w] xs) : ∃ x, xs = [x] ∧ WR Z ι H w x := by
  cases r with
  | cons h t => cases t; exact ⟨_, rfl, h⟩
theorem WsR.two {w u : Wv} {xs : List V} (r : WsR Z ι H [w, u] xs) : ∃ x y, xs = [x, y] ∧ WR Z ι H w x ∧ WR Z ι H u y := by
  cases r with
  | cons h t =>
    obtain ⟨y, rfl, hy⟩ := t.one
    exact ⟨_, _, rfl, h, hy⟩
theorem lstOf_at {x : Wv} {ws : List Wv} {v : V} (R : RM Z ι M H) (wx : WR Z ι H x v) (e : lstOf x M = some ws) : ∃ a vs, v = .ref a ∧ H a = some (.lst vs) ∧ WsR Z ι H ws vs := by
  unfold lstOf at e
  cases wx with
  | ref h =>
    simp only at e
    split at e
    · rename_i us hM
      cases e
      obtain ⟨vs, h1, h2⟩ := R.ob _ _ _ hM h
      exact ⟨_, vs, rfl, h1, h2⟩
    · cases e
  | _ => cases e
theorem bls_rel : ∀ {ws : List Wv} {vs : List V} {bs : List Bool}, WsR Z ι H ws vs → bls ws = some bs → vs = bs.map V.bl
  | _, _, _, .nil, e => by cases e; rfl
  | _, _, _, .cons h t, e => by
    unfold bls mapO at e
    split at e
    · rename_i b bs' e1 e2
      cases e
      have ih := bls_rel t (show bls _ = some bs' from e2)
      cases h <;> first | (cases e1; rw [ih]; rfl) | (cases e1)
    · cases e
theorem ints_rel : ∀ {ws : List Wv} {vs : List V} {ns : List Int}, WsR Z ι H ws vs → intsW ws = some ns → vs = ns.map V.int
  | _, _, _, .nil, e => by cases e; rfl
  | _, _, _, .cons h t, e => by
    unfold intsW mapO at e
    split at e
    · rename_i b bs' e1 e2
      cases e
      have ih := ints_rel t (show intsW _ = some bs' from e2)
      cases h <;> first | (cases e1; rw [ih]; rfl) | (cases e1)
    · cases e
theorem cb_len (k : XOk X Z) (hS : Z.S = G.S) : CallR X (.builtin "len") (rN Z (biW G .len)) := by
  intro pins s σ H xs us Q I r h
  obtain ⟨ι, M, ws, R, wr, h⟩ := h
  cases wr with
  | nil => exact False.elim h
  | cons h1 t1 =>
    cases t1 with
    | cons _ _ => cases h1 <;> exact False.elim h
    | nil =>
      cases h1 with
      | str z =>
        obtain ⟨c, h⟩ := h.chk
        exact call_len pins s σ H _ us Q I r ⟨_, z.length, rfl, ⟨of_decide_eq_true c, rfl⟩, h.val R (.int _)⟩
      | tup ha ta => exact call_len pins s σ H _ us Q I r ⟨_, _, rfl, .inr ⟨_, by rw [k.K]; exact ha, rfl⟩, by rw [← ta.length]; exact rOut.val h R (.int _)⟩
      | scr ha => exact call_len pins s σ H _ us Q I r ⟨_, _, rfl, .inl ⟨_, by rw [k.K]; exact ha.sq, rfl⟩, by rw [List.length_map, hS]; exact rOut.val h R (.int _)⟩
      | ref ha =>
        simp only [biW] at h
        split at h
        · rename_i us' hM
          obtain ⟨vs, e1, e2⟩ := R.ob _ _ _ hM ha
          exact call_len pins s σ H _ us Q I r ⟨_, _, rfl, .inl ⟨vs, SqL.of e1, rfl⟩, by rw [← e2.length]; exact rOut.val h R (.int _)⟩
        · rename_i zb kvs hM
          have D : DctR Z ι H _ zb kvs := R.ob _ _ _ hM ha
          obtain ⟨u, rfl, rx⟩ := vals1 r
          cases rx
          have hq := rOut.val h R (.int _)
          obtain ⟨o, es, ep, h1, h2, h3, h4, h5, h6, h7, h8⟩ := id D
          rcases h7 with ka | ka
          · obtain ⟨vs, hd, hp, hs⟩ := D.dictOf I k ka
            have hl : kvs.length = vs.length := Paired.length hp
            refine call_len_dict hs hd (by rw [← hl]; rw [sizeLine_eq] at h5; omega) ?_
            rw [← hl]
            exact ⟨.int ((kvs.length : Nat) : Int), H, I.tok _, ⟨_, rfl⟩, hq⟩
          · obtain ⟨vs, hd, hp, hs⟩ := D.dictOfH I k ka
            have hl : kvs.length = vs.length := Paired.length hp
            refine call_len_dictH hs hd (by rw [← hl]; rw [sizeLine_eq] at h5; omega) ?_
            rw [← hl]
            exact ⟨.int ((kvs.length : Nat) : Int), H, I.tok _, ⟨_, rfl⟩, hq⟩
        · exact False.elim h
      | _ => exact False.elim h
theorem one_arg {F : List Wv → Mem → Out Wv} {xs : List V} {Q : VK} {ws : List Wv} (hF : ∀ ws M, (∀ x, ws ≠ [x]) → F ws M = .bad) (wr : WsR Z ι H ws xs) (h : rOut Z ι H (F ws M) Q) : ∃ w v, ws = [w] ∧ xs = [v] ∧ WR Z ι H w v := by
  cases wr with
  | nil => rw [hF [] M (by simp)] at h; exact False.elim h
  | cons h1 t1 =>
    cases t1 with
    | nil => exact ⟨_, _, rfl, rfl, h1⟩
    | cons h2 t2 => rw [hF _ M (by simp)] at h; exact False.elim h
theorem cb_all (k : XOk X Z) : CallR X (.builtin "all") (rN Z (biW G .all)) := by
  intro pins s σ H xs us Q I r h
  obtain ⟨ι, M, ws, R, wr, h⟩ := h
  obtain ⟨w, v, rfl, rfl, hw⟩ := one_arg (fun ws M hn => by unfold biW; split <;> first | rfl | (rename_i z; simp_all) | simp_all) wr h
  obtain ⟨bs, e, h⟩ := rOut.ofOb h
  obtain ⟨zs, e1, e2⟩ := Option.bind_eq_some_iff.mp e
  obtain ⟨a, vs, rfl, h1, h2⟩ := lstOf_at R hw e1
  have := bls_rel h2 e2
  subst this
  exact cr_all k.calm pins s σ H _ us Q I r ⟨a, bs, rfl, SqL.of h1, h.val R (.bl _)⟩
theorem cb_any (k : XOk X Z) : CallR X (.builtin "any") (rN Z (biW G .any)) := by
  intro pins s σ H xs us Q I r h
  obtain ⟨ι, M, ws, R, wr, h⟩ := h
  obtain ⟨w, v, rfl, rfl, hw⟩ := one_arg (fun ws M hn => by unfold biW; split <;> first | rfl | (rename_i z; simp_all) | simp_all) wr h
  obtain ⟨bs, e, h⟩ := rOut.ofOb h
  obtain ⟨zs, e1, e2⟩ := Option.bind_eq_some_iff.mp e
  obtain ⟨a, vs, rfl, h1, h2⟩ := lstOf_at R hw e1
  have := bls_rel h2 e2
  subst this
  exact cr_any k.calm pins s σ H _ us Q I r ⟨a, bs, rfl, SqL.of h1, h.val R (.bl _)⟩
theorem cb_sum (k : XOk X Z) : CallR X (.builtin "sum") (rN Z (biW G .sum)) := by
  intro pins s σ H xs us Q I r h
  obtain ⟨ι, M, ws, R, wr, h⟩ := h
  obtain ⟨w, v, rfl, rfl, hw⟩ := one_arg (fun ws M hn => by unfold biW; split <;> first | rfl | (rename_i z; simp_all) | simp_all) wr h
  obtain ⟨bs, e, h⟩ := rOut.ofOb h
  obtain ⟨zs, e1, e2⟩ := Option.bind_eq_some_iff.mp e
  obtain ⟨a, vs, rfl, h1, h2⟩ := lstOf_at R hw e1
  have := ints_rel h2 e2
  subst this
  exact cr_sum k.calm pins s σ H _ us Q I r ⟨a, bs, rfl, SqL.of h1, h.val R (.int _)⟩
theorem cb_abs : CallR X (.builtin "abs") (rN Z (biW G .abs)) := by
  intro pins s σ H xs us Q I r h
  obtain ⟨ι, M, ws, R, wr, h⟩ := h
  obtain ⟨w, v, rfl, rfl, hw⟩ := one_arg (fun ws M hn => by unfold biW; split <;> first | rfl | (rename_i z; simp_all) | simp_all) wr h
  cases hw with
  | int i => exact call_abs pins s σ H _ us Q I r ⟨i, rfl, rOut.val h R (.int _)⟩
  | _ => exact False.elim h
end
end MP
end
section
set_option Elab.async false
set_option linter.all false
set_option maxRecDepth 100000
namespace MP
open PySem PySem.Spec PyProof.Rows L2
section
variable {Z : Zt} {X : Cx} {G : Pg} {ι : List Addr} {H : Hp} {M : Mem} {pins : List (Addr × Obj)} {σ : L2.St} {s : Shared}
theorem mapO_dp {ws : List Wv} {vs : List V} {ds : List PyData} (hS : Z.S = G.S) (R : RM Z ι M H) (r : WsR Z ι H ws vs) (e : mapO (toD G.S M deepD) ws = some ds) : DpAll Z.K H vs ds ∧ ds.length = ws.length := by
  induction ws generalizing vs ds with
  | nil => cases r; cases e; exact ⟨.nil, rfl⟩
  | cons w ws ih =>
    cases r with
    | cons h t =>
      simp only [mapO] at e
      split at e
      · rename_i d ds' e1 e2
        cases e
        obtain ⟨i1, i2⟩ := ih t e2
        exact ⟨.cons (toD_dp hS R _ h e1) i1, by simp [i2]⟩
      · cases e
abbrev Tri := PyData × Wv × V
theorem tri_each {ws : List Wv} {vs : List V} {us : List Value} {ds : List PyData} (r : WsR Z ι H ws vs) (rv : Vals vs us) (hl : ds.length = ws.length) (rd : W.EachIs (fun u d => ∃ as, Reads s.heap u d as) us ds) :
    ∃ bs : List Tri, bs.map (·.1) = ds ∧ bs.map (·.2.1) = ws ∧ bs.map (fun b => (b.1, b.2.1)) = ds.zip ws ∧ (∀ b ∈ bs, WR Z ι H b.2.1 b.2.2) ∧ W.EachIs (fun u (b : Tri) => RelV b.2.2 u) us bs ∧ W.EachIs (fun u (b : Tri) => ∃ as, Reads s.heap u b.1 as) us bs := by
  induction ws generalizing vs us ds with
  | nil =>
    cases r; cases rv
    cases rd
    exact ⟨[], rfl, rfl, rfl, by simp, .nil, .nil⟩
  | cons w ws ih =>
    cases r with
    | cons h t =>
      cases rv with
      | cons h2 t2 =>
        cases rd with
        | cons h3 t3 =>
          obtain ⟨bs, e1, e2, e3, e4, e5, e6⟩ := ih t t2 (by simpa using hl) t3
          refine ⟨(_, w, _) :: bs, by simp [e1], by simp [e2], by simp [e3], fun b hb => ?_, .cons h2 e5, .cons h3 e6⟩
          rcases List.mem_cons.mp hb with z | z
          · subst z; exact h
          · exact e4 b z
theorem readsAll_each' {h : Heap} : ∀ {us : List Value} {ds : List PyData} {as : List Addr}, ReadsAll h us ds as → W.EachIs (fun u d => ∃ as, Reads h u d as) us ds
  | _, [], _, r => by cases r; exact .nil
  | _, d :: ds, _, r => by
    cases r with
    | cons h1 h2 => exact .cons ⟨_, h1⟩ (readsAll_each' h2)
theorem alikeAll_of {ds : List PyData} (h : alikeAllB ds = true) : W.AllAlike ds := fun d hd d' hd' => by
  unfold alikeAllB at h
  rw [List.all_eq_true] at h
  have := h d hd
  rw [List.all_eq_true] at this
  exact this d' hd'
theorem sortable_of {ds : List PyData} (h : sortableB ds = true) : W.Sortable ds := by
  unfold sortableB at h
  rw [Bool.or_eq_true, List.all_eq_true, List.all_eq_true] at h
  rcases h with h | h
  · refine .inl fun d hd => ?_
    have := h d hd
    split at this
    · exact ⟨_, _, rfl⟩
    · cases this
  · refine .inr fun d hd => ?_
    have := h d hd
    refine ⟨fun e => ?_, fun xs e => ?_⟩
    · rw [e] at this; cases this
    · rw [e] at this; cases this
theorem dcap_le {ds : List PyData} (h : ds.all dcap = true) {d : PyData} (hd : d ∈ ds) : d.depth ≤ 32 := by
  rw [List.all_eq_true] at h
  exact of_decide_eq_true (h d hd)
theorem ws_sorted {bs : List Tri} (hw : ∀ b ∈ bs, WR Z ι H b.2.1 b.2.2) : WsR Z ι H (bs.map (·.2.1)) (bs.map (·.2.2)) := by
  induction bs with
  | nil => exact .nil
  | cons b bs ih => exact .cons (hw b List.mem_cons_self) (ih fun c hc => hw c (List.mem_cons_of_mem _ hc))
theorem each_vals {bs : List Tri} : ∀ {us : List Value}, W.EachIs (fun u (b : Tri) => RelV b.2.2 u) us bs → Vals (bs.map (·.2.2)) us := by
  induction bs with
  | nil => intro us h; cases h; exact .nil
  | cons b bs ih =>
    intro us h
    cases h with
    | cons h1 t1 => exact .cons h1 (ih t1)
theorem sortBy_tri {bs : List Tri} {out : List Wv} (e : sortBy (bs.map (·.1)) (bs.map (·.2.1)) = some out) :
    alikeAllB (bs.map (·.1)) = true ∧ sortableB (bs.map (·.1)) = true ∧ (bs.map (·.1)).all dcap = true ∧ out = (bs.mergeSort (W.dataLe false fun b : Tri => b.1)).map (·.2.1) := by
  unfold sortBy at e
  split at e
  · rename_i c
    rw [Bool.and_eq_true, Bool.and_eq_true] at c
    refine ⟨c.1.1, c.1.2, c.2, ?_⟩
    cases e
    have ez : (bs.map (·.1)).zip (bs.map (·.2.1)) = bs.map fun b => (b.1, b.2.1) := by
      rw [List.zip_map']
    rw [ez]
    have := W.sort_maps (r := W.dataLe false fun b : Tri => b.1) (s := fun a b => W.dataLe false (fun p : PyData × Wv => p.1) a b) (fun b : Tri => (b.1, b.2.1)) (l := bs) (fun _ _ _ _ => rfl)
    rw [← this, List.map_map]
    rfl
  · cases e
theorem depth_cap (k : XOk X Z) {bs : List Tri} (h : (bs.map (·.1)).all dcap = true) : ∀ b, b ∈ bs → X.A.units + 2 + b.1.depth < cLine := fun b hb => by
  have := dcap_le h (List.mem_map.mpr ⟨b, hb, rfl⟩)
  have := k.un
  omega
theorem newL_ok {o : Option (List Wv)} {Q : VK} (h : rOut Z ι H (newL o M) Q) : ∃ ws, o = some ws ∧ ws.length ≤ sizeLine ∧ rOut Z ι H (.ok (.ref M.length) (M ++ [.lst ws])) Q := by
  unfold newL at h
  cases o with
  | none => exact False.elim h
  | some ws =>
    obtain ⟨c, h⟩ := rOut.chk h
    exact ⟨ws, rfl, of_decide_eq_true c, h⟩
theorem prim_newL (o : Option (List Wv)) (M : Mem) : Prim (newL o M) := by
  unfold newL
  split
  · exact Prim.ok.chk
  · exact Prim.bad
theorem DctR.raw {a : Addr} {z : Bool} {kvs : List (Wv × Wv)} (I : L2.Inv X pins σ H s) (D : DctR Z ι H a z kvs) : ∃ es ep, s.heap.DictRaw a es ep ∧ (a == sysModules) = false ∧ es.size ≤ sizeLine ∧ Paired (EnR Z ι H) kvs es.toList := by
  obtain ⟨o, es, ep, h1, h2, h3, h4, h5, h6, h7, h8⟩ := D
  refine ⟨es, ep, ⟨o, MP.Inv.dctO I h1, h2, h3⟩, h4, ?_, h8⟩
  have := Paired.length h8
  have h9 : es.toList.length = es.size := Array.length_toList
  omega
theorem keys_items {kvs : List (Wv × Wv)} {es : Array DictEntry} {acc : Array Value} (r : Paired (EnR Z ι H) kvs es.toList) (h : ItemsOf (fun i v => ∃ hi : i < es.size, v = es[i].key) acc es.size) : ∃ vs, WsR Z ι H (kvs.map (·.1)) vs ∧ Vals vs acc.toList := by
  have e : acc.toList = es.toList.map (·.key) := by
    apply List.ext_getElem
    · rw [Array.length_toList, List.length_map, Array.length_toList]; exact h.1
    · intro i h1 h2
      have hi : i < acc.size := by simpa using h1
      obtain ⟨hi2, q⟩ := h.2 i acc[i] (by simp [hi])
      simpa using q
  rw [e]
  clear e h
  generalize es.toList = el at r
  induction r with
  | nil => exact ⟨[], .nil, .nil⟩
  | cons h t ih =>
    obtain ⟨vs, i1, i2⟩ := ih
    obtain ⟨kv, vv, h1, h2, h3, h4, h5⟩ := h
    exact ⟨kv :: vs, .cons h2 i1, .cons h1 i2⟩
theorem cb_list (k : XOk X Z) (hS : Z.S = G.S) : CallR X (.type "list") (rN Z (biW G .list)) := by
  intro pins s σ H xs us Q I r h
  obtain ⟨ι, M, ws, R, wr, h⟩ := h
  obtain ⟨w, v, rfl, rfl, hw⟩ := one_arg (fun ws M hn => by unfold biW; split <;> first | rfl | (rename_i z; simp_all) | simp_all) wr h
  obtain ⟨ys, e, hz, h2⟩ := newL_ok h
  unfold itemsOf at e
  cases hw with
  | tup ha ta => cases e; exact call_list_of pins s σ H _ us Q I r ⟨_, _, rfl, .inr (by rw [k.K]; exact ha), fun p hp => h2.lst R ta hp⟩
  | scr ha => cases e; exact call_list_of pins s σ H _ us Q I r ⟨_, _, rfl, .inl (by rw [k.K]; exact ha.sq), fun p hp => h2.lst R (by rw [hS]; exact WsR.ints _) hp⟩
  | ref ha =>
    simp only at e
    split at e
    · rename_i zs hM
      cases e
      obtain ⟨vs, e1, e2⟩ := R.ob _ _ _ hM ha
      exact call_list_of pins s σ H _ us Q I r ⟨_, _, rfl, .inl (SqL.of e1), fun p hp => h2.lst R e2 hp⟩
    · rename_i kvs hM
      cases e
      obtain ⟨es, ep, d1, d2, d3, d4⟩ := DctR.raw I (R.ob _ _ _ hM ha)
      obtain ⟨u, rfl, rx⟩ := vals1 r
      cases rx
      refine PySem.W.kdl_call (KdlSrc.rawDict d2) (I.ok.hd k.calm) d1 d3 fun h' tk acc c' hk hg hit => ?_
      obtain ⟨vs, v1, v2⟩ := keys_items d4 hit
      have hl : vs.length ≤ sizeLine := by rw [← v1.length]; exact hz
      exact ⟨.ref s.heap.objs.size, _, I.laid (t' := tk) hk (Nat.le_refl _) (show ObjOk X.prog X.w _ h' _ (.lst vs) from ⟨hl, acc.toList, c', v2, by simpa using hg⟩), rfl, h2.lst R v1 (I.hok.fresh (Nat.le_refl _))⟩
    · cases e
  | _ => cases e
theorem sort_fin {Q : VK} {ws : List Wv} {vs : List V} {out : List Wv} {us : List Value} {ds : List PyData} (k : XOk X Z) (hS : Z.S = G.S) (I : L2.Inv X pins σ H s) (R : RM Z ι M H) (r : WsR Z ι H ws vs) (rv : Vals vs us) (ed : mapO (toD G.S M deepD) ws = some ds) (es : sortBy ds ws = some out) :
    ∃ bs : List Tri, W.EachIs (fun u (b : Tri) => RelV b.2.2 u) us bs ∧ W.EachIs (fun u (b : Tri) => ∃ as, Reads s.heap u b.1 as) us bs ∧ W.AllAlike (bs.map (·.1)) ∧ W.Sortable (bs.map (·.1)) ∧ bs.length = ws.length ∧ (∀ b, b ∈ bs → X.A.units + 2 + b.1.depth < cLine) ∧
      ∀ o : List Value, W.EachIs (fun u (b : Tri) => RelV b.2.2 u) o (bs.mergeSort (W.dataLe false fun b : Tri => b.1)) → ∃ vs', WsR Z ι H out vs' ∧ Vals vs' o := by
  obtain ⟨dp, hl⟩ := mapO_dp hS R r ed
  obtain ⟨as, ra⟩ := Dp.readsAll I ds vs us (by rw [k.K]; exact dp) rv
  obtain ⟨bs, e1, e2, e3, e4, e5, e6⟩ := tri_each r rv hl (readsAll_each' ra)
  obtain ⟨a1, a2, a3, a4⟩ := sortBy_tri (bs := bs) (out := out) (by rw [e1, e2]; exact es)
  refine ⟨bs, e5, e6, alikeAll_of a1, sortable_of a2, by rw [← e2, List.length_map], depth_cap k a3, fun o ho => ⟨_, ?_, each_vals ho⟩⟩
  rw [a4]
  exact ws_sorted fun b hb => e4 b ((List.mergeSort_perm _ _).mem_iff.mp hb)
theorem cb_sorted (k : XOk X Z) (hS : Z.S = G.S) : CallR X (.builtin "sorted") (rN Z (biW G .sorted)) := by
  intro pins s σ H xs us Q I r h
  obtain ⟨ι, M, ws, R, wr, h⟩ := h
  obtain ⟨w, v, rfl, rfl, hw⟩ := one_arg (fun ws M hn => by unfold biW; split <;> first | rfl | (rename_i z; simp_all) | simp_all) wr h
  obtain ⟨out, e, hz, h2⟩ := newL_ok h
  obtain ⟨ys, e0, e⟩ := Option.bind_eq_some_iff.mp e
  obtain ⟨ds, ed, es⟩ := Option.bind_eq_some_iff.mp e
  obtain ⟨u, rfl, rx⟩ := vals1 r
  have lst : ∀ (a : Addr) (vs : List V), v = .ref a → SqL X.K H a vs → WsR Z ι H ys vs → wpAny (model X.prog X.w) X.A (call (.builtin "sorted") [u]) (EP X pins σ Q) X.xe s := by
    intro a vs ev hsq hws
    subst ev
    cases rx
    obtain ⟨its, rv, hl, hzz⟩ := I.list hsq
    obtain ⟨bs, b1, b2, b3, b4, b5, b6, b7⟩ := sort_fin (Q := Q) k hS I R hws rv ed es
    refine PySem.W.sorted_data (enc := fun b : Tri => b.1) hl.isList b1 b2 b3 b4 (by rw [b5, hws.length]; exact hzz) b6 fun o ho eo => ?_
    obtain ⟨vs', w1, w2⟩ := b7 o eo
    obtain ⟨ep, he'⟩ := PyProof.Rows.sortedAll_at s.heap its o.toArray
    exact ⟨.ref _, _, I.laid (t' := s.toks) (fun _ _ => PyProof.Rows.sortedAll_old) (Nat.le_succ _) (show ObjOk X.prog X.w _ _ _ (.lst vs') from ⟨by rw [← w1.length]; exact hz, o, ep, w2, he'⟩), rfl, h2.lst R w1 (I.hok.fresh (Nat.le_succ _))⟩
  unfold itemsS itemsOf at e0
  cases hw with
  | scr ha => cases e0; exact lst _ _ rfl (by rw [k.K]; exact ha.sq) (by rw [hS]; exact WsR.ints _)
  | ref ha =>
    simp only at e0
    split at e0
    · rename_i zs hM
      cases e0
      obtain ⟨vs, e1, e2⟩ := R.ob _ _ _ hM ha
      exact lst _ vs rfl (SqL.of e1) e2
    · rename_i kvs hM
      cases e0
      obtain ⟨es', ep, d1, d2, d3, d4⟩ := DctR.raw I (R.ob _ _ _ hM ha)
      cases rx
      refine PySem.Calls.call_function_entry kind_sorted plain_sorted entry_sorted (args_sorted1 _) ?_
      unfold Builtin.«sorted»
      refine wpAny_bind (m := checkCount "sorted" 1 1 _) (wpAny_pure ?_)
      refine wpAny_bind (PySem.W.kdu_collect (A := X.A.in1) (KdlSrc.rawDict d2) (I.ok.hd k.calm) d1 d3 fun h' tk acc hk hacc => ?_)
      obtain ⟨vs, v1, v2⟩ := keys_items d4 hacc
      have hl : acc.toList.length ≤ sizeLine := by rw [Array.length_toList, hacc.1]; exact d3
      refine wpAny_bind (wpAny_newList ?_ hl)
      have I1 : L2.Inv X pins σ H { s with heap := h'.push { cls := .type "list", data := .seq acc.toList.toArray }, toks := tk } := I.kept (t' := tk) fun b o q => Heap.get?_push_of_some _ (hk b o q)
      have I0 : L2.Inv X pins σ H { s with heap := h', toks := tk } := I.kept (t' := tk) hk
      obtain ⟨bs, b1, b2, b3, b4, b5, b6, b7⟩ := sort_fin (Q := Q) k hS I0 R v1 v2 ed es
      have ho : (h'.push { cls := .type "list", data := .seq acc.toList.toArray }).get? h'.objs.size = some (seqObj "list" acc.toList.toArray 0) := Heap.get?_push_size _ rfl
      have b2' : W.EachIs (fun u (b : Tri) => ∃ as, Reads (h'.push { cls := .type "list", data := .seq acc.toList.toArray }) u b.1 as ∧ h'.objs.size ∉ as) acc.toList bs := by
        refine b2.mono fun u b ⟨as, q⟩ => ⟨as, PyProof.Rows.Reads.keeps (fun _ _ z => Heap.get?_push_of_some _ z) q, fun hm => ?_⟩
        obtain ⟨ob, q⟩ := PyProof.On.reads_mem_get q _ hm
        exact absurd (Heap.lt_size q) (Nat.lt_irrefl _)
      have hb6 : ∀ b, b ∈ bs → X.A.in1.units + 1 + b.1.depth < cLine := fun b hb => by
        have := b6 b hb
        show X.A.units + 1 + 1 + _ < _
        omega
      refine wpAny_bind (wpAny_holding (PySem.W.list_sort_data (s := { s with heap := h'.push { cls := .type "list", data := .seq acc.toList.toArray }, toks := tk }) (A := X.A.in1) (enc := fun b : Tri => b.1) ho b1 b2' b3 b4 (by rw [b5, v1.length, v2.length]; exact hl) hb6 fun o hol eo => wpAny_pure ⟨_, rfl, ?_⟩))
      obtain ⟨vs', w1, w2⟩ := b7 o eo
      obtain ⟨ep2, he'⟩ := PyProof.Rows.sortedHeap_at (out := o.toArray) ho
      have hsz : h'.objs.size < (h'.push { cls := .type "list", data := .seq acc.toList.toArray }).objs.size := Heap.lt_size ho
      refine ⟨.ref h'.objs.size, _, I0.laid (t' := tk) (a := h'.objs.size) (o := .lst vs') (fun b ob q => ?_) (Nat.le_refl _) ⟨by rw [← w1.length]; exact hz, o, ep2, w2, he'⟩, rfl, h2.lst R w1 (I0.hok.fresh (Nat.le_refl _))⟩
      have hb := Heap.lt_size q
      rw [PyProof.Rows.sortedHeap_old (Nat.ne_of_lt hb) (Nat.lt_trans hb hsz)]
      exact Heap.get?_push_of_some _ q
    · cases e0
  | _ => cases e0
mutual
theorem ofD_toD {S : List Int} : ∀ (n : Nat) {w w' : Wv} {d : PyData}, toD S M n w = some d → ofD d = some w' → w' = w
  | n, .non, _, _, e, f => by simp only [toD] at e; cases e; cases f; rfl
  | n, .bl b, _, _, e, f => by simp only [toD] at e; cases e; cases f; rfl
  | n, .int b, _, _, e, f => by simp only [toD] at e; cases e; cases f; rfl
  | n, .str b, _, _, e, f => by simp only [toD] at e; cases e; cases f; rfl
  | n, .scr, _, _, e, f => by simp only [toD] at e; cases e; cases f
  | 0, .tup ws, _, _, e, f => by simp only [toD] at e; cases e
  | n + 1, .tup ws, _, _, e, f => by
    simp only [toD] at e
    obtain ⟨ds, e1, rfl⟩ := Option.map_eq_some_iff.mp e
    simp only [ofD] at f
    obtain ⟨us, f1, rfl⟩ := Option.map_eq_some_iff.mp f
    rw [ofDs_toDs n e1 f1]
  | 0, .ref l, _, _, e, f => by simp only [toD] at e; cases e
  | n + 1, .ref l, _, _, e, f => by
    simp only [toD] at e
    split at e
    · obtain ⟨ds, e1, rfl⟩ := Option.map_eq_some_iff.mp e
      cases f
    · cases e
theorem ofDs_toDs {S : List Int} : ∀ (n : Nat) {ws ws' : List Wv} {ds : List PyData}, toDs S M n ws = some ds → ofDs ds = some ws' → ws' = ws
  | n, [], _, _, e, f => by simp only [toDs] at e; cases e; cases f; rfl
  | n, w :: ws, _, _, e, f => by
    simp only [toDs] at e
    split at e
    · rename_i d ds e1 e2
      cases e
      simp only [ofDs] at f
      split at f
      · rename_i u us f1 f2
        cases f
        rw [ofD_toD n e1 f1, ofDs_toDs n e2 f2]
      · cases f
    · cases e
end
theorem mapO_at {ws : List Wv} {ds : List PyData} {f : Wv → Option PyData} (e : mapO f ws = some ds) : ∀ {i : Nat} {w : Wv}, ws[i]? = some w → ∃ d, ds[i]? = some d ∧ f w = some d := by
  induction ws generalizing ds with
  | nil => intro i w h; simp at h
  | cons a as ih =>
    intro i w h
    simp only [mapO] at e
    split at e
    · rename_i d ds' e1 e2
      cases e
      cases i with
      | zero => simp at h; subst h; exact ⟨d, rfl, e1⟩
      | succ i => obtain ⟨d', h1, h2⟩ := ih e2 (by simpa using h); exact ⟨d', by simpa using h1, h2⟩
    · cases e
theorem best_ok {mx : Bool} {ds : List PyData} {w : Wv} (h : bestOf mx ds = some w) : ∃ d r, ds = d :: r ∧ W.AlikeAll (d :: r) ∧ PyData.depthAll (d :: r) ≤ 32 ∧ ofD (if mx then W.maxD d r else W.minD d r) = some w := by
  unfold bestOf at h
  split at h
  · cases h
  · rename_i d r
    split at h
    · rename_i c
      rw [Bool.and_eq_true, Bool.and_eq_true] at c
      refine ⟨d, r, rfl, ⟨fun x hx y hy => alikeAll_of c.1.1 x hx y hy, fun x hx e => ?_⟩, ?_, h⟩
      · have := c.1.2
        rw [List.all_eq_true] at this
        have := this x hx
        rw [e] at this
        cases this
      · have hd : ∀ x ∈ d :: r, x.depth ≤ 32 := fun x hx => dcap_le c.2 hx
        clear c h
        generalize d :: r = l at hd
        induction l with
        | nil => simp [PyData.depthAll]
        | cons x xs ih =>
          have h1 := hd x List.mem_cons_self
          have h2 := ih fun y hy => hd y (List.mem_cons_of_mem _ hy)
          simp only [PyData.depthAll]
          omega
    · cases h
theorem best_rel {ws : List Wv} {vs : List V} {us : List Value} {ds : List PyData} {w : Wv} {d : PyData} {i : Nat} {u : Value} {bs : List Addr} {h' : Heap} (hS : Z.S = G.S) (k : XOk X Z) (I : L2.Inv X pins σ H s) (R : RM Z ι M H) (r : WsR Z ι H ws vs) (rv : Vals vs us) (ed : mapO (toD G.S M deepD) ws = some ds) (hu : us[i]? = some u)
    (hr : Reads h' u d bs) (hk : ∀ b o, s.heap.get? b = some o → h'.get? b = some o) (hw : ofD d = some w) : ∃ v, RelV v u ∧ WR Z ι H w v := by
  obtain ⟨v, hv, ru⟩ : ∃ v, vs[i]? = some v ∧ RelV v u := by
    clear ed r
    induction rv generalizing i with
    | nil => simp at hu
    | cons h t ih =>
      cases i with
      | zero => simp at hu; subst hu; exact ⟨_, rfl, h⟩
      | succ i => obtain ⟨v, h1, h2⟩ := ih (by simpa using hu); exact ⟨v, by simpa using h1, h2⟩
  obtain ⟨x, hx, wx⟩ := r.get2 hv
  obtain ⟨d', hd', td⟩ := mapO_at ed hx
  obtain ⟨as, r2⟩ := Dp.reads I d' v u (by rw [k.K]; exact toD_dp hS R _ wx td) ru
  have r3 : Reads h' u d' as := PyProof.Rows.Reads.keeps hk r2
  obtain ⟨e, _⟩ := PySem.Reads.unique r3 d bs hr
  subst e
  rw [ofD_toD _ td hw]
  exact ⟨v, ru, wx⟩
theorem max_two_data {A : Around} {E : Value → Shared → Prop} {P : Program} {w : World} {a b : Value} {x y : PyData} {as : List Addr} {Q : Value → Shared → Prop} (hh : A.handled = none) (hr : ReadsAll s.heap [a, b] [x, y] as) (ha : W.AlikeAll [x, y]) (hu : A.units + 1 + PyData.depthAll [x, y] < cLine)
    (h : ∀ (i : Nat) v h' tk bs, [a, b][i]? = some v → Reads h' v (W.maxD x [y]) bs → (∀ b o, s.heap.get? b = some o → h'.get? b = some o) → Q v { s with heap := h', toks := tk }) :
    wpAny (model P w) A (call (.builtin "max") [a, b]) Q E s := by
  have hname : (toString "max" ++ toString ".loop" : String) = "max.loop" := by decide
  refine call_function_tree F.kind_max F.plain_max F.entry_max (F.args_max2 _ _) ?_
  show wpAny _ A.in1 (Builtin.Builtins.bindParams "max" ["key", "default"] 0 ⟨[], []⟩ >>= _) _ _ s
  refine wpAny_bind (wpAny_of_eq (show Builtin.Builtins.bindParams "max" ["key", "default"] 0 ⟨[], []⟩ = pure [none, none] from rfl) ?_)
  show wpAny _ A.in1 (newTuple [a, b] >>= _) _ _ s
  refine wpAny_bind (wpAny_newObj_type ?_)
  have hT : (s.heap.push { cls := .type "tuple", data := .seq #[a, b] }).IsTuple s.heap.objs.size #[a, b] := ⟨_, Heap.get?_push_size _ rfl, rfl, 0, rfl⟩
  have kp : ∀ c o, s.heap.get? c = some o → (s.heap.push { cls := .type "tuple", data := .seq #[a, b] }).get? c = some o := fun _ _ e => Heap.get?_push_of_some _ e
  have hr2 : ReadsAll (s.heap.push { cls := .type "tuple", data := .seq #[a, b] }) (#[a, b] : Array Value).toList [x, y] as := PyProof.Rows.ReadsAll.keeps kp hr
  refine wpAny_bind (W.iter_tupleW (A := A.in1) (s := { s with heap := s.heap.push { cls := .type "tuple", data := .seq #[a, b] } }) hh hT fun s₂ e Wk st hfp hw hk => ?_)
  refine wpAny_bind (wpAny_newObj_type ?_)
  have hSf : s₂.heap.objs.size ∉ [(s.heap.push { cls := .type "tuple", data := .seq #[a, b] }).objs.size, s.heap.objs.size] := fun hm => Nat.lt_irrefl _ (hfp _ hm)
  rw [hname]
  have cmp := PySem.W.cmpIn_gt (prog := P) (w := w) (A := A.in1) (s := { s with heap := s.heap.push { cls := .type "tuple", data := .seq #[a, b] } }) hr2 ha (show A.units + 1 + _ < _ from hu)
  refine wpAny_pure ⟨plainId_quiet F.plain_max_loop _, PySem.codeAny_max_loop_firstH Wk _ hw _ cmp s₂.heap.objs.size hSf (PySem.fresh_in hk) _ (show 0 < 2 by decide) (fun b o e => Heap.get?_push_of_some _ (hk b o e)) (Wk.frame 0 s₂ _ s₂.toks st (Nat.le_refl _) fun b _ o e => Heap.get?_push_of_some _ e) (Heap.get?_push_size _ rfl) fun v s' hP hm => ?_⟩
  have hm2 := PySem.Moved.drop_new (tk := s₂.toks) hm (Nat.le_refl _)
  obtain ⟨h', tk, rfl, hk'⟩ := W.moved_old e rfl hm2
  obtain ⟨bs, r, _, _, _⟩ := W.readsAll_atA hr2 _ v hP
  have e2 := (W.argBest_fold (fun p q => W.dataLt q p) PyData.none x [y] 1 (Nat.le_refl _)).2
  exact h _ v h' tk bs (by simpa using hP) (PyProof.Rows.Reads.keeps hk' (by unfold W.maxD; have e3 : List.take 1 [y] = [y] := rfl; rw [e3] at e2; rw [← e2]; exact r)) fun b o e => hk' b o (kp b o e)
theorem prim_bi (b : Bi) (ws : List Wv) (M : Mem) : Prim (biW G b ws M) := by
  unfold biW
  split <;> first
    | exact Prim.ok
    | exact Prim.ok.chk
    | exact Prim.bad
    | exact Prim.ofO
    | exact prim_newL _ _
    | (split <;> first | exact Prim.ok.chk | exact Prim.bad)
    | exact Prim.ofO.bind fun _ _ => Prim.ok
    | (split <;> first | exact Prim.ok | exact Prim.bad | exact Prim.ok.chk)
theorem biW_min1 (x : Wv) (M : Mem) : biW G .min [x] M = .ofO ((lstOf x M).bind fun ws => (mapO (toD G.S M deepD) ws).bind (bestOf false)) M := by cases x <;> rfl
theorem biW_max1 (x : Wv) (M : Mem) : biW G .max [x] M = .ofO ((lstOf x M).bind fun ws => (mapO (toD G.S M deepD) ws).bind (bestOf true)) M := by cases x <;> rfl
theorem best_list (k : XOk X Z) (hS : Z.S = G.S) {mx : Bool} {v : V} {u : Value} {w : Wv} {x : Wv} {Q : VK} (I : L2.Inv X pins σ H s) (R : RM Z ι M H) (hx : WR Z ι H x v) (ru : RelV v u)
    (e : ((lstOf x M).bind fun ws => (mapO (toD G.S M deepD) ws).bind (bestOf mx)) = some w) (h : rOut Z ι H (.ok w M) Q) : wpAny (model X.prog X.w) X.A (call (.builtin (if mx then "max" else "min")) [u]) (EP X pins σ Q) X.xe s := by
  obtain ⟨ws, e1, e⟩ := Option.bind_eq_some_iff.mp e
  obtain ⟨ds, e2, e⟩ := Option.bind_eq_some_iff.mp e
  obtain ⟨a, vs, rfl, h1, h2⟩ := lstOf_at R hx e1
  cases ru
  obtain ⟨its, rv, hl, hzz⟩ := I.list (SqL.of (K := X.K) h1)
  obtain ⟨d, r, rfl, b1, b2, b3⟩ := best_ok e
  obtain ⟨dp, hlen⟩ := mapO_dp hS R h2 e2
  obtain ⟨as, ra⟩ := Dp.readsAll I _ vs its (by rw [k.K]; exact dp) rv
  have hu : X.A.units + 1 + PyData.depthAll (d :: r) < cLine := by have := k.un; omega
  have fin : ∀ (i : Nat) v' h' tk bs, its.toArray[i]? = some v' → Reads h' v' (if mx then PySem.W.maxD d r else PySem.W.minD d r) bs → (∀ b o, s.heap.get? b = some o → h'.get? b = some o) → EP X pins σ Q v' { s with heap := h', toks := tk } := by
    intro i v' h' tk bs hv hr hk
    obtain ⟨y, ry, wy⟩ := best_rel hS k I R h2 rv e2 (by simpa using hv) hr hk b3
    exact ⟨y, H, I.kept hk, ry, h.val R wy⟩
  cases mx with
  | true => exact PySem.W.max_list_data (I.ok.hd k.calm) hl.isList (by simpa using ra) b1 hu fin
  | false => exact PySem.W.min_list_data (I.ok.hd k.calm) hl.isList (by simpa using ra) b1 hu fin
theorem cb_min (k : XOk X Z) (hS : Z.S = G.S) : CallR X (.builtin "min") (rN Z (biW G .min)) := by
  intro pins s σ H xs us Q I r h
  obtain ⟨ι, M, ws, R, wr, h⟩ := h
  cases wr with
  | nil => exact False.elim h
  | cons h1 t1 =>
    cases t1 with
    | nil =>
      rw [biW_min1] at h
      obtain ⟨w, e, h⟩ := rOut.ofO h
      obtain ⟨u, rfl, ru⟩ := vals1 r
      exact best_list (mx := false) k hS I R h1 ru e h
    | cons h2 t2 =>
      cases t2 with
      | cons h3 t3 =>
        cases t3 with
        | cons h4 t4 => cases h1 <;> cases h2 <;> cases h3 <;> exact False.elim h
        | nil =>
          cases h1 with
          | int i =>
            cases h2 with
            | int j =>
              cases h3 with
              | int l =>
                refine call_min3Nu k.calm pins s σ H _ us Q I r ⟨.int i, .int j, .int l, .int (if l < (if j < i then j else i) then l else (if j < i then j else i)), rfl, ?_, rOut.val h R (.int _)⟩
                have e : ∀ a b : Int, nuLt (.int a) (.int b) = some (decide (a < b)) := fun _ _ => rfl
                simp only [nuMin3, nuMin2, e, Option.map_some, Option.bind_some, decide_eq_true_eq]
                by_cases c1 : j < i
                · by_cases c2 : l < j <;> simp [c1, c2, e]
                · by_cases c2 : l < i <;> simp [c1, c2, e]
              | _ => exact False.elim h
            | _ => exact False.elim h
          | _ => exact False.elim h
      | nil =>
        cases h1 with
        | int i =>
          cases h2 with
          | int j => exact call_min2 k.calm pins s σ H _ us Q I r ⟨i, j, rfl, rOut.val h R (.int _)⟩
          | _ => exact False.elim h
        | _ => exact False.elim h
theorem cb_max (k : XOk X Z) (hS : Z.S = G.S) : CallR X (.builtin "max") (rN Z (biW G .max)) := by
  intro pins s σ H xs us Q I r h
  obtain ⟨ι, M, ws, R, wr, h⟩ := h
  cases wr with
  | nil => exact False.elim h
  | cons h1 t1 =>
    cases t1 with
    | nil =>
      rw [biW_max1] at h
      obtain ⟨w, e, h⟩ := rOut.ofO h
      obtain ⟨u, rfl, ru⟩ := vals1 r
      exact best_list (mx := true) k hS I R h1 ru e h
    | cons h2 t2 =>
      cases t2 with
      | cons h3 t3 => cases h1 <;> cases h2 <;> exact False.elim h
      | nil =>
        cases h1 with
        | int i =>
          cases h2 with
          | int j => exact call_max2 k.calm pins s σ H _ us Q I r ⟨i, j, rfl, rOut.val h R (.int _)⟩
          | _ => exact False.elim h
        | tup ha ta =>
          cases h2 with
          | tup hb tb =>
            obtain ⟨w, e, hq⟩ := rOut.ofO h
            obtain ⟨ds, e2, e⟩ := Option.bind_eq_some_iff.mp e
            obtain ⟨d, rr, rfl, b1, b2, b3⟩ := best_ok e
            have wr2 := WsR.cons (WR.tup ha ta) (WsR.cons (WR.tup hb tb) WsR.nil)
            obtain ⟨dp, hlen⟩ := mapO_dp hS R wr2 e2
            obtain ⟨as, ra⟩ := Dp.readsAll I _ _ us (by rw [k.K]; exact dp) r
            have hu : X.A.units + 1 + PyData.depthAll (d :: rr) < cLine := by have := k.un; omega
            obtain ⟨u1, u2, rfl, r1, r2⟩ := vals2 r
            match rr, hlen with
            | [y], _ =>
              refine max_two_data (I.ok.hd k.calm) ra b1 hu fun i v' h' tk bs hv hr hk => ?_
              obtain ⟨y, ry, wy⟩ := best_rel hS k I R wr2 r e2 hv hr hk b3
              exact ⟨y, H, I.kept hk, ry, hq.val R wy⟩
            | [], hl => simp at hl
            | _ :: _ :: _, hl => simp at hl
          | _ => exact False.elim h
        | _ => exact False.elim h
end
end MP
end
section
set_option Elab.async false
set_option linter.all false
set_option maxRecDepth 100000
namespace MP
open PySem PySem.Spec PyProof.Rows L2
section
variable {Z : Zt} {X : Cx} {G : Pg} {ι : List Addr} {H : Hp} {M : Mem} {pins : List (Addr × Obj)} {σ : L2.St} {s : Shared} {Wx : Wish}
theorem pairs_rel (I : L2.Inv X pins σ H s) (k : XOk X Z) : ∀ {ws : List Wv} {vs : List V} {us : List Value} {ps : List (Wv × Wv)}, WsR Z ι H ws vs → Vals vs us → MP.pairs ws = some ps → (ps.all fun p => keyA p.1) = true →
    ∃ prs : List (Key × Value), PvR Z ι H ps prs ∧ us.length = prs.length ∧ ∀ (j : Nat) (q : Key × Value), prs[j]? = some q → ∃ (b : Addr) (u : Value), us[j]? = some (.ref b) ∧ IsTup s.heap b #[u, q.2] ∧ keyIs q.1 u = true
  | _, _, _, _, .nil, r, e, _ => by cases r; cases e; exact ⟨[], .nil, rfl, fun j q h => by simp at h⟩
  | _, _, _, _, .cons (w := w) h t, r, e, ka => by
    unfold MP.pairs mapO at e
    split at e
    · rename_i p ps' e1 e2
      cases e
      cases r with
      | cons r1 r2 =>
        rw [List.all_cons, Bool.and_eq_true] at ka
        obtain ⟨prs, i1, i2, i3⟩ := pairs_rel I k t r2 (show MP.pairs _ = some ps' from e2) ka.2
        cases h with
        | tup hs ht =>
          split at e1
          · rename_i a b heq
            cases heq
            cases e1
            obtain ⟨x, y, rfl, hx, hy⟩ := ht.two
            cases r1
            obtain ⟨its, rv, htu, _⟩ := I.tuple (by rw [k.K]; exact hs)
            obtain ⟨u1, u2, rfl, q1, q2⟩ := vals2 rv
            have ek := keyA_rel ka.1 hx
            subst ek
            refine ⟨(keyW a, u2) :: prs, .cons ⟨rfl, ka.1, y, q2, hy⟩ i1, by simp [i2], fun j q hj => ?_⟩
            cases j with
            | zero => simp at hj; subst hj; exact ⟨_, u1, rfl, by simpa using htu, kV_is (P := X.prog) (w := X.w) q1⟩
            | succ j =>
              obtain ⟨b', u', h1, h2, h3⟩ := i3 j q (by simpa using hj)
              exact ⟨b', u', by simpa using h1, h2, h3⟩
          · cases e1
        | _ => cases e1
    · cases e
theorem PvR.merged {ps : List (Wv × Wv)} {prs : List (Key × Value)} (h : PvR Z ι H ps prs) : ∀ {kvs : List (Wv × Wv)} {vs : List (Key × Value)}, PvR Z ι H kvs vs → (kvs.map (·.1)).Nodup → (kvs.all fun p => keyA p.1) = true →
    PvR Z ι H (dputs kvs ps) (merged vs prs) ∧ ((dputs kvs ps).map (·.1)).Nodup ∧ ((dputs kvs ps).all fun p => keyA p.1) = true ∧ (dputs kvs ps).length ≤ kvs.length + ps.length := by
  induction h with
  | nil => intro kvs vs h nd ka; exact ⟨h, nd, ka, Nat.le_refl _⟩
  | @cons p q ps prs h t ih =>
    intro kvs vs h2 nd ka
    obtain ⟨e1, k1, x, rx, wx⟩ := h
    have hp := h2.put k1 (u := q.2) nd rx wx
    rw [← e1] at hp
    obtain ⟨i1, i2, i3, i4⟩ := ih hp (dput_nodup nd) (dput_all ka k1)
    refine ⟨i1, i2, i3, ?_⟩
    have := dput_len kvs p.1 p.2
    simp only [List.length_cons]
    unfold dputs
    omega
theorem cb_dict (k : XOk X Z) : CallR X (.type "dict") (rN Z (biW G .dict)) := by
  intro pins s σ H xs us Q I r h
  obtain ⟨ι, M, ws, R, wr, h⟩ := h
  obtain ⟨w, v, rfl, rfl, hw⟩ := one_arg (fun ws M hn => by unfold biW; split <;> first | rfl | (rename_i z; simp_all) | simp_all) wr h
  have h2 : rOut Z ι H (match (lstOf w M).bind MP.pairs with
    | some ps => .chk ((ps.all fun p => keyA p.1) && lenOk ps.length) (.ok (.ref M.length) (M ++ [.dct false (dputs [] ps)]))
    | none => .bad) Q := h
  split at h2
  · rename_i ps e
    obtain ⟨c, h2⟩ := h2.chk
    rw [Bool.and_eq_true] at c
    obtain ⟨zs, e1, e2⟩ := Option.bind_eq_some_iff.mp e
    obtain ⟨a, vs, rfl, h1, h3⟩ := lstOf_at R hw e1
    obtain ⟨u, rfl, ru⟩ := vals1 r
    cases ru
    obtain ⟨its, rv, ⟨o, n, g1, g2, g3, g4⟩, hz⟩ := I.list (SqL.of (K := X.K) h1)
    obtain ⟨prs, p1, p2, p3⟩ := pairs_rel I k h3 rv e2 c.1
    have hl : prs.length ≤ sizeLine := by rw [← Paired.length p1]; exact of_decide_eq_true c.2
    refine L2.call_dict_pairs (I.ok.hd k.calm) g1 g2 g3 g4 (by simpa using p2) hl (fun j q hq => by simpa using p3 j q hq) fun h' tk dd hk => ?_
    obtain ⟨m1, m2, m3, m4⟩ := p1.merged (kvs := []) (vs := []) .nil List.nodup_nil rfl
    obtain ⟨o', es', ep', e1, e2, e3, e4, e5, e6⟩ := dd
    have hp : H s.heap.objs.size = none := I.hok.fresh (Nat.le_refl _)
    have ex := Ext.alloc (ho := DctO s.heap.objs.size o') ι hp
    refine ⟨.ref s.heap.objs.size, _, I.laid (a := s.heap.objs.size) (o := DctO s.heap.objs.size o') (t' := tk) hk (Nat.le_refl _) (DctR.ok_new e1), rfl, ?_⟩
    refine h2 (.ref s.heap.objs.size) _ (ι ++ [s.heap.objs.size]) ex (R.alloc hp ?_) (.ref (snoc_ix R _))
    refine ⟨_, es', ep', upd_same, e2, e3, beq_eq_false_iff_ne.mpr (Ne.symm (Nat.ne_of_lt I.big)), ?_, m2, .inl m3, ?_⟩
    · have := of_decide_eq_true c.2
      simp only [List.length_nil] at m4
      omega
    · refine pairs_back (P := X.prog) k.w.symm (fun e he => e4 e (Array.mem_toList_iff.mp he)) e5 ?_
      exact L2.Paired.mapP m1 fun p q z => ⟨z.1, z.2.1, let ⟨x, z1, z2⟩ := z.2.2; ⟨x, z1, z2.mono ex.le⟩⟩
  · exact False.elim h2
theorem cb_str (k : XOk X Z) (hS : Z.S = G.S) : CallR X (.type "str") (rN Z (biW G .str)) := by
  intro pins s σ H xs us Q I r h
  obtain ⟨ι, M, ws, R, wr, h⟩ := h
  obtain ⟨w, v, rfl, rfl, hw⟩ := one_arg (fun ws M hn => by unfold biW; split <;> first | rfl | (rename_i z; simp_all) | simp_all) wr h
  obtain ⟨u, rfl, ru⟩ := vals1 r
  have hw0 := hw
  cases hw with
  | tup hq ht =>
    rename_i a vs zs
    simp only [biW] at h
    split at h
    · rename_i d ed
      obtain ⟨c, h⟩ := h.chk
      rw [Bool.and_eq_true, Bool.and_eq_true, Bool.and_eq_true] at c
      obtain ⟨⟨⟨c1, c2⟩, c3⟩, c4⟩ := c
      obtain ⟨as, ra⟩ := Dp.reads I d _ _ (by rw [k.K]; exact toD_dp hS R _ hw0 ed) ru
      cases ru
      have hdd : d.depth ≤ 32 := of_decide_eq_true c3
      refine str_of_reads ra c1 (PyData.noDict_hsm (by simpa using c2)) k.gd (by have := k.un; omega) (fun _ _ e => e) (fun h' t tk hk => ?_) (of_decide_eq_true c4)
      exact ⟨.str d.shown, H, I.kept (t' := tk) hk, ⟨t, rfl⟩, h.val R (.str _)⟩
    · exact False.elim h
  | _ => exact False.elim h
def bmTy : Bm → String
  | .append => "list"
  | .get => "dict"
  | .scount => "str"
  | .lcount => "list"
  | .extend => "list"
  | .insert => "list"
  | .pop => "dict"
  | .lpop => "list"
  | .split => "str"
def bmId : Bm → String
  | .append => "list.append"
  | .get => "dict.get"
  | .scount => "str.count"
  | .lcount => "list.count"
  | .extend => "list.extend"
  | .insert => "list.insert"
  | .pop => "dict.pop"
  | .lpop => "list.pop"
  | .split => "str.split"
def bmNm : Bm → Str
  | .append => "append"
  | .get => "get"
  | .scount => "count"
  | .lcount => "count"
  | .extend => "extend"
  | .insert => "insert"
  | .pop => "pop"
  | .lpop => "pop"
  | .split => "split"
theorem bm_type (I : L2.Inv X pins σ H s) (R : RM Z ι M H) {m : Bm} {w : Wv} {v : V} {u : Value} (hw : WR Z ι H w v) (ru : RelV v u) (e : bmT m w M = true) : s.TypeIs u (bmTy m) ∧ ∀ a, u = .ref a → ∃ ob, s.heap.get? a = some ob ∧ ob.dict = none := by
  cases hw with
  | ref hl =>
    rename_i l a
    cases ru
    cases m with
    | append =>
      simp only [bmT] at e
      split at e
      · rename_i ws hM
        obtain ⟨vs, e1, e2⟩ := R.ob _ _ _ hM hl
        exact tyV_is (X := X) I (show RelV (.ref a) (.ref a) from rfl) (.inl ⟨rfl, vs, SqL.of e1⟩)
      · cases e
    | get =>
      simp only [bmT] at e
      split at e
      · rename_i kvs hM
        have D := R.ob _ _ _ hM hl
        exact ⟨DctR.typeIs I D, DctR.noDict I D⟩
      · cases e
    | scount => cases e
    | lcount =>
      simp only [bmT] at e
      split at e
      · rename_i ws hM
        obtain ⟨vs, e1, e2⟩ := R.ob _ _ _ hM hl
        exact tyV_is (X := X) I (show RelV (.ref a) (.ref a) from rfl) (.inl ⟨rfl, vs, SqL.of e1⟩)
      · cases e
    | extend =>
      simp only [bmT] at e
      split at e
      · rename_i ws hM
        obtain ⟨vs, e1, e2⟩ := R.ob _ _ _ hM hl
        exact tyV_is (X := X) I (show RelV (.ref a) (.ref a) from rfl) (.inl ⟨rfl, vs, SqL.of e1⟩)
      · cases e
    | insert =>
      simp only [bmT] at e
      split at e
      · rename_i ws hM
        obtain ⟨vs, e1, e2⟩ := R.ob _ _ _ hM hl
        exact tyV_is (X := X) I (show RelV (.ref a) (.ref a) from rfl) (.inl ⟨rfl, vs, SqL.of e1⟩)
      · cases e
    | pop =>
      simp only [bmT] at e
      split at e
      · rename_i kvs hM
        have D := R.ob _ _ _ hM hl
        exact ⟨DctR.typeIs I D, DctR.noDict I D⟩
      · cases e
    | lpop =>
      simp only [bmT] at e
      split at e
      · rename_i ws hM
        obtain ⟨vs, e1, e2⟩ := R.ob _ _ _ hM hl
        exact tyV_is (X := X) I (show RelV (.ref a) (.ref a) from rfl) (.inl ⟨rfl, vs, SqL.of e1⟩)
      · cases e
    | split => cases e
  | str z =>
    obtain ⟨t, rfl⟩ := ru
    cases m with
    | scount => exact ⟨typeIs_str _ _ _, fun a q => by cases q⟩
    | split => exact ⟨typeIs_str _ _ _, fun a q => by cases q⟩
    | _ => cases e
  | _ => cases m <;> cases e
theorem prim_bm (m : Bm) (x : Wv) (xs : List Wv) (M : Mem) : Prim (bmW m x xs M) := by
  unfold bmW
  split
  · split
    · split
      · exact Prim.ok.chk
      · exact Prim.bad
    · exact Prim.bad
  · split
    · split
      · exact Prim.ok.chk
      · exact Prim.ok.chk
      · exact Prim.bad
    · exact Prim.bad
  · split
    · exact Prim.ok
    · exact Prim.bad
  · split
    · split
      · exact Prim.ofO
      · exact Prim.bad
    · exact Prim.bad
  · split
    · split
      · split
        · exact Prim.ok.chk
        · exact Prim.bad
      · exact Prim.bad
    · exact Prim.bad
  · split
    · split
      · exact Prim.ok.chk
      · exact Prim.bad
    · exact Prim.bad
  · split
    · split
      · exact (Prim.ofO.bind fun _ _ => Prim.ok).chk
      · exact Prim.bad
    · exact Prim.bad
  · split
    · split
      · exact (Prim.ofO.bind fun _ _ => Prim.ok).chk
      · exact Prim.bad
    · exact Prim.bad
  · split
    · exact (prim_newL _ _).chk
    · exact Prim.bad
  · exact Prim.bad
theorem getD_rel {o : Option Wv} {ov : Option Value} {dw : Wv} {d : V} {u : Value} (h : match o with | some y => ∃ p, ov = some p ∧ ∃ x, RelV x p ∧ WR Z ι H y x | none => ov = none) (rd : RelV d u) (wd : WR Z ι H dw d) : ∃ x, RelV x (ov.getD u) ∧ WR Z ι H (o.getD dw) x := by
  cases o with
  | none => simp only at h; subst h; exact ⟨d, rd, wd⟩
  | some y => obtain ⟨p, rfl, x, h1, h2⟩ := h; exact ⟨x, h1, h2⟩
theorem DctR.get1 {a : Addr} {z : Bool} {kvs : List (Wv × Wv)} {kk : Wv} {x : V} {u : Value} {Q : Value → Shared → Prop} {E : Value → Shared → Prop} (I : L2.Inv X pins σ H s) (k : XOk X Z) (D : DctR Z ι H a z kvs) (h : keyOk kvs kk = true) (r : WR Z ι H kk x) (ru : RelV x u)
    (q : ∀ s' w' y, L2.Inv X pins σ H s' → RelV y w' → WR Z ι H ((dget kvs kk).getD .non) y → Q w' s') : wpAny (model X.prog X.w) X.A (call (.builtin "dict.get") [.ref a, u]) Q E s := by
  rcases keyOk_cases h with ⟨k1, k2⟩ | ⟨k1, k2⟩
  · obtain ⟨vs, dd, pv, hd⟩ := D.dictOf I k k2
    have ex := keyA_rel k1 r
    subst ex
    obtain ⟨y, g1, g2⟩ := getD_rel (u := .none) (pv.get k1) (show RelV .non .none from rfl) WR.non
    exact call_meetsIn PySem.F.slot_dict_get dd.typeIs PySem.F.entry_dict_get (PySem.F.args_dict_get_2 _ _) (meets_dict_get (mixKind X.prog X.w) a (kV_is ru) hd) ⟨_, dd.mapOf, q _ _ y (I.tok _) g1 g2⟩
  · obtain ⟨xs, dd, pv, hd⟩ := D.dictOfH I k k2
    obtain ⟨b, rfl⟩ := keyT_ref k1 r
    cases ru
    have g := pv.get k1
    obtain ⟨y, g1, g2⟩ := getD_rel (ov := (atKey xs (toNK kk)).map (·.2)) (o := dget kvs kk) (u := .none) (by
      cases e : dget kvs kk with
      | none => rw [e] at g; simp only at g ⊢; rw [g]; rfl
      | some y => rw [e] at g; obtain ⟨p, g, x, g1, g2⟩ := g; exact ⟨p.2, by rw [g]; rfl, x, g1, g2⟩) (show RelV .non .none from rfl) WR.non
    exact call_meetsIn PySem.F.slot_dict_get dd.typeIs PySem.F.entry_dict_get (PySem.F.args_dict_get_2 _ _) (meetsH_dict_get (nestedKind X.prog X.w) a b hd) ⟨room8 k, _, xs, keyT_is I k.K k1 r, dd, q _ _ y (I.tok _) g1 g2⟩
theorem DctR.get2 {a : Addr} {z : Bool} {kvs : List (Wv × Wv)} {kk dw : Wv} {x d : V} {u du : Value} {Q : Value → Shared → Prop} {E : Value → Shared → Prop} (I : L2.Inv X pins σ H s) (k : XOk X Z) (D : DctR Z ι H a z kvs) (h : keyOk kvs kk = true) (r : WR Z ι H kk x) (ru : RelV x u) (rd : WR Z ι H dw d) (rdu : RelV d du)
    (q : ∀ s' w' y, L2.Inv X pins σ H s' → RelV y w' → WR Z ι H ((dget kvs kk).getD dw) y → Q w' s') : wpAny (model X.prog X.w) X.A (call (.builtin "dict.get") [.ref a, u, du]) Q E s := by
  rcases keyOk_cases h with ⟨k1, k2⟩ | ⟨k1, k2⟩
  · obtain ⟨vs, dd, pv, hd⟩ := D.dictOf I k k2
    have ex := keyA_rel k1 r
    subst ex
    obtain ⟨y, g1, g2⟩ := getD_rel (u := du) (pv.get k1) rdu rd
    exact call_meetsIn PySem.F.slot_dict_get dd.typeIs PySem.F.entry_dict_get (PySem.F.args_dict_get_3 _ _ _) (meets_dict_get_default (mixKind X.prog X.w) a (kV_is ru) hd du) ⟨_, dd.mapOf, q _ _ y (I.tok _) g1 g2⟩
  · obtain ⟨xs, dd, pv, hd⟩ := D.dictOfH I k k2
    obtain ⟨b, rfl⟩ := keyT_ref k1 r
    cases ru
    have g := pv.get k1
    obtain ⟨y, g1, g2⟩ := getD_rel (ov := (atKey xs (toNK kk)).map (·.2)) (o := dget kvs kk) (u := du) (by
      cases e : dget kvs kk with
      | none => rw [e] at g; simp only at g ⊢; rw [g]; rfl
      | some y => rw [e] at g; obtain ⟨p, g, x, g1, g2⟩ := g; exact ⟨p.2, by rw [g]; rfl, x, g1, g2⟩) rdu rd
    exact call_meetsIn PySem.F.slot_dict_get dd.typeIs PySem.F.entry_dict_get (PySem.F.args_dict_get_3 _ _ _) (meetsH_dict_get_default (nestedKind X.prog X.w) a b hd du) ⟨room8 k, _, xs, keyT_is I k.K k1 r, dd, q _ _ y (I.tok _) g1 g2⟩
theorem lst_write {l : Nat} {a : Addr} {ws ws' : List Wv} {vs vs' : List V} (R : RM Z ι M H) (hM : M[l]? = some (.lst ws)) (hl : ι[l]? = some a) (e1 : H a = some (.lst vs)) (r : WsR Z ι H ws' vs') : Ext ι ι H (upd H a (.lst vs')) ∧ RM Z ι (M.set l (.lst ws')) (upd H a (.lst vs')) := by
  have ex : Ext ι ι H (upd H a (.lst vs')) := Ext.write R hl (fun ob φ e => by rw [e1] at e; cases e)
  exact ⟨ex, R.write hM hl e1 (fun ps z => by cases z) (fun q z => by cases z) ⟨vs', upd_same, r.mono ex.le⟩⟩
def rM (Z : Zt) (F : Wv → List Wv → Mem → Out Wv) : V → List V → Hp → VK → Prop := fun x xs H Q => ∃ ι M w ws, RM Z ι M H ∧ WR Z ι H w x ∧ WsR Z ι H ws xs ∧ rOut Z ι H (F w ws M) Q
theorem reads_strs {h : Heap} : ∀ {zs : List Wv} {vs : List V} {its : List Value} {ss : List Str}, WsR Z ι H zs vs → Vals vs its → strsW zs = some ss → ReadsAll h its (ss.map PyData.str) []
  | [], _, _, _, .nil, .nil, e => by cases e; exact .nil
  | w :: zs, _, _, _, .cons g1 g2, .cons k1 k2, e => by
    unfold strsW at e
    simp only [mapO] at e
    split at e
    · rename_i b bs hb hbs
      cases e
      have rest := reads_strs (h := h) g2 k2 (show strsW zs = some bs from hbs)
      cases g1 with
      | str y =>
        cases hb
        obtain ⟨t2, rfl⟩ := k1
        exact .cons (as := []) (.str _ _) rest
      | _ => cases hb
    · cases e
theorem wsr_txts : ∀ xs : List Str, WsR Z ι H (xs.map Wv.str) (xs.map V.str)
  | [] => .nil
  | x :: xs => .cons (.str x) (wsr_txts xs)
theorem TvR.drop {kvs : List (Wv × Wv)} {kk : Wv} (ka : keyT kk = true) {xs : List (NestedKey × Addr × Value)} (r : TvR Z ι H kvs xs) : TvR Z ι H (ddrop kvs kk) (withoutH xs (toNK kk)) := by
  unfold ddrop withoutH
  induction r with
  | nil => exact .nil
  | @cons p q ps qs h t ih =>
    by_cases e : p.1 = kk
    · rw [List.filter_cons_of_neg (by simpa using e), List.filter_cons_of_neg (by simp [h.1, e])]
      exact ih
    · rw [List.filter_cons_of_pos (by simpa using e), List.filter_cons_of_pos (by simpa using fun z => e (keyT_inj h.2.1 ka (by rw [← h.1]; exact z)))]
      exact .cons h ih
theorem DctR.pop {a : Addr} {kvs : List (Wv × Wv)} {kk vv : Wv} {x : V} {u : Value} {Q : Value → Shared → Prop} {E : Value → Shared → Prop} {l : Nat} (I : L2.Inv X pins σ H s) (k : XOk X Z) (R : RM Z ι M H) (hl : ι[l]? = some a) (D : DctR Z ι H a false kvs) (k1 : keyT kk = true) (k2 : (kvs.all fun p => keyT p.1) = true) (hg : dget kvs kk = some vv) (r : WR Z ι H kk x) (ru : RelV x u)
    (q : ∀ s' o' w' y, L2.Inv X pins σ (upd H a (DctO a o')) s' → RelV y w' → WR Z ι H vv y → DctR Z ι (upd H a (DctO a o')) a false (ddrop kvs kk) → Ext ι ι H (upd H a (DctO a o')) → Q w' s') : wpAny (model X.prog X.w) X.A (call (.builtin "dict.pop") [.ref a, u]) Q E s := by
  obtain ⟨o, es, ep, h1, h2, h3, h4, h5, h6, h7, h8⟩ := id D
  have hmut : Mut (H a) := by rw [h1]; exact True.intro
  obtain ⟨xs, dd, pv, hd⟩ := D.dictOfH I k k2
  obtain ⟨b, rfl⟩ := keyT_ref k1 r
  cases ru
  have g := pv.get k1
  rw [hg] at g
  obtain ⟨p, g, y, ry, wy⟩ := g
  have hz2 : xs.length ≤ sizeLine := by rw [← Paired.length pv]; omega
  refine call_pop_heap (hsz := hz2) (.inl rfl) (PySem.F.args_dict_pop_2 _ _) (room8 k) (keyT_is I k.K k1 r) hd dd g fun h' dd' hs => ?_
  obtain ⟨o', es', ep', e1, e2, e3, e4, e5, e6⟩ := dd'
  have ex : Ext ι ι H (upd H a (DctO a o')) := Ext.write R hl (fun ob φ e => by rw [h1] at e; cases e)
  refine q _ o' p.2 y (d_write I hmut hs ⟨o', e1⟩ (DctR.ok_new e1)) ry wy ⟨o', es', ep', upd_same, e2, e3, hd, ?_, ?_, .inr ?_, ?_⟩ ex
  · exact Nat.le_trans (List.length_filter_le _ _) h5
  · exact h6.sublist (List.Sublist.map _ List.filter_sublist)
  · exact List.all_eq_true.mpr fun p hp => List.all_eq_true.mp k2 p (List.mem_filter.mp hp).1
  · refine pairs_backT (P := X.prog) k.w.symm e4 ?_
    exact L2.Paired.mapP (pv.drop k1) fun p q z => ⟨z.1, z.2.1, z.2.2.1.mono ex.le, let ⟨x, z1, z2⟩ := z.2.2.2; ⟨x, z1, z2.mono ex.le⟩⟩
theorem mt_bm (k : XOk X Z) (m : Bm) : MtR X (bmId m) (rM Z (bmW m)) := by
  intro pins s σ H x xs v us Q I rx rxs h
  obtain ⟨ι, M, w, ws, R, hw, hws, h⟩ := h
  cases hw with
  | ref hl =>
    rename_i l a
    cases m with
    | append =>
      simp only [bmW] at h
      split at h
      · rename_i zs hM
        obtain ⟨vs, e1, e2⟩ := R.ob _ _ _ hM hl
        split at h
        · rename_i y
          obtain ⟨x, rfl, hx⟩ := hws.one
          obtain ⟨c, h⟩ := h.chk
          have hz : vs.length < sizeLine := by
            have := of_decide_eq_true c
            rw [← e2.length]
            omega
          obtain ⟨ex, R2⟩ := lst_write R hM hl e1 (e2.append (.cons hx .nil))
          exact mt_append pins s σ H _ _ v us Q I rx rxs ⟨a, vs, x, rfl, rfl, e1, hz, h .non _ ι ex R2 .non⟩
        · exact False.elim h
      · exact False.elim h
    | get =>
      simp only [bmW] at h
      split at h
      · rename_i kvs hM
        have D := R.ob _ _ _ hM hl
        cases rx
        split at h
        · obtain ⟨x, rfl, hx⟩ := hws.one
          obtain ⟨c, h⟩ := h.chk
          obtain ⟨u, rfl, ru⟩ := vals1 rxs
          exact DctR.get1 I k D c hx ru fun s' w' y I' ry wy => ⟨y, H, I', ry, h.val R wy⟩
        · obtain ⟨x, y, rfl, hx, hy⟩ := hws.two
          obtain ⟨c, h⟩ := h.chk
          obtain ⟨u, u2, rfl, ru, ru2⟩ := vals2 rxs
          exact DctR.get2 I k D c hx ru hy ru2 fun s' w' y I' ry wy => ⟨y, H, I', ry, h.val R wy⟩
        · exact False.elim h
      · exact False.elim h
    | scount => exact False.elim h
    | lcount =>
      simp only [bmW] at h
      split at h
      · rename_i zs hM
        obtain ⟨vs, e1, e2⟩ := R.ob _ _ _ hM hl
        split at h
        · rename_i z
          obtain ⟨x, rfl, hx⟩ := hws.one
          obtain ⟨u, rfl, ru⟩ := vals1 rxs
          cases hx
          obtain ⟨t, rfl⟩ := ru
          cases hs : strsW zs with
          | none => rw [hs] at h; exact False.elim h
          | some ss =>
            rw [hs] at h
            cases rx
            obtain ⟨its, rv, pl, hzz⟩ := I.list (SqL.of (K := X.K) e1)
            have rr : ReadsAll s.heap its (ss.map PyData.str) [] := reads_strs e2 rv hs
            have hpa : PyData.plainAll (ss.map PyData.str) = true := by
              clear hs h rr
              induction ss with
              | nil => rfl
              | cons y ss ih => simp only [List.map_cons, PyData.plainAll, ih, PyData.plain, Bool.and_self]
            have hdp : PyData.depthAll (ss.map PyData.str) = 0 := by
              clear hs h rr hpa
              induction ss with
              | nil => rfl
              | cons y ss ih => simp only [List.map_cons, PyData.depthAll, ih, PyData.depth]; rfl
            refine PySem.SeqAt.count_list_data (xs := ss.map PyData.str) (d := .str z) (as := []) (bs := []) pl.isList (by simpa using rr) (.str _ _) hpa rfl (by rw [hdp]; have := k.un; simp; omega) ?_
            have ec : ((ss.map PyData.str).countP fun y => PyData.eqv y (.str z)) = ss.countP fun y => decide (y = z) := by
              rw [List.countP_map]
              refine congrArg (fun f => List.countP f ss) (funext fun y => ?_)
              show PyData.eqv (.str y) (.str z) = _
              simp only [PyData.eqv]
              by_cases c : y = z
              · subst c; simp
              · simp [c]
            rw [ec]
            exact ⟨.int _, H, I.tok _, ⟨_, rfl⟩, h.val R (.int _)⟩
        · exact False.elim h
      · exact False.elim h
    | extend =>
      simp only [bmW] at h
      split at h
      · rename_i zs hM
        obtain ⟨vs, e1, e2⟩ := R.ob _ _ _ hM hl
        split at h
        · rename_i y
          obtain ⟨x, rfl, hx⟩ := hws.one
          split at h
          · rename_i us' hM2
            cases hx with
            | ref hl2 =>
              obtain ⟨vs2, e3, e4⟩ := R.ob _ _ _ hM2 hl2
              obtain ⟨c, h⟩ := h.chk
              have hz : vs.length + vs2.length ≤ sizeLine := by
                have := of_decide_eq_true c
                rw [← e2.length, ← e4.length]
                exact this
              obtain ⟨ex, R2⟩ := lst_write R hM hl e1 (e2.append e4)
              exact mt_extend pins s σ H _ _ v us Q I rx rxs ⟨a, _, vs, vs2, rfl, rfl, e1, e3, hz, h .non _ ι ex R2 .non⟩
          · exact False.elim h
        · exact False.elim h
      · exact False.elim h
    | insert =>
      simp only [bmW] at h
      split at h
      · rename_i zs hM
        obtain ⟨vs, e1, e2⟩ := R.ob _ _ _ hM hl
        split at h
        · rename_i i y
          obtain ⟨x1, x, rfl, hx1, hx⟩ := hws.two
          cases hx1
          obtain ⟨c, h⟩ := h.chk
          rw [Bool.and_eq_true, Bool.and_eq_true] at c
          obtain ⟨⟨c1, c2⟩, c3⟩ := c
          have c2 := of_decide_eq_true c2
          have c3 := of_decide_eq_true c3
          have hz : vs.length < sizeLine := by
            have := of_decide_eq_true c1
            rw [← e2.length]
            omega
          obtain ⟨ex, R2⟩ := lst_write R hM hl e1 (((e2.take i.toNat).append (.cons hx .nil)).append (e2.drop i.toNat))
          exact mt_insert pins s σ H _ _ v us Q I rx rxs ⟨a, vs, i, x, rfl, rfl, e1, hz, c2, by omega, h .non _ ι ex R2 .non⟩
        · exact False.elim h
      · exact False.elim h
    | pop =>
      simp only [bmW] at h
      split at h
      · rename_i kvs hM
        have D := R.ob _ _ _ hM hl
        cases rx
        split at h
        · rename_i kk
          obtain ⟨x, rfl, hx⟩ := hws.one
          obtain ⟨c, h⟩ := h.chk
          rw [Bool.and_eq_true, Bool.and_eq_true] at c
          obtain ⟨u, rfl, ru⟩ := vals1 rxs
          cases hg : dget kvs kk with
          | none => rw [hg] at h; exact False.elim h
          | some vv =>
            rw [hg] at h
            refine DctR.pop I k R hl D c.1.1 c.1.2 hg hx ru fun s' o' w' y I' ry wy D' ex => ⟨y, _, I', ry, ?_⟩
            obtain ⟨o, es, ep, g1, g2, g3, _⟩ := id D
            exact h y _ ι ex (R.write hM hl g1 (lkO_noT false a o) (fun q => dctO_noC o a q ⟨es, ep, g3⟩) D') (wy.mono ex.le)
        · exact False.elim h
      · exact False.elim h
    | lpop =>
      simp only [bmW] at h
      split at h
      · rename_i zs hM
        obtain ⟨vs, e1, e2⟩ := R.ob _ _ _ hM hl
        split at h
        · rename_i i
          obtain ⟨x, rfl, hx⟩ := hws.one
          cases hx
          obtain ⟨c, h⟩ := h.chk
          rw [Bool.and_eq_true] at c
          have c1 := of_decide_eq_true c.1
          have c2 := of_decide_eq_true c.2
          cases hv : zs[i.toNat]? with
          | none => rw [hv] at h; exact False.elim h
          | some w =>
            rw [hv] at h
            obtain ⟨y, hy, wy⟩ := e2.get hv
            obtain ⟨ex, R2⟩ := lst_write R hM hl e1 (e2.erase i.toNat)
            have hlt : i.toNat < vs.length := (List.getElem?_eq_some_iff.mp hy).1
            have hix : seqIndex? i vs.length = some i.toNat := by
              unfold seqIndex?
              rw [if_neg (show ¬ i < 0 by omega)]
              rw [if_pos (by rw [Bool.and_eq_true]; exact ⟨decide_eq_true c1, decide_eq_true (by omega)⟩)]
            exact mt_popAt pins s σ H _ _ v us Q I rx rxs ⟨a, vs, i, i.toNat, y, rfl, rfl, e1, by omega, by omega, hix, hy, h y _ ι ex R2 (wy.mono ex.le)⟩
        · exact False.elim h
      · exact False.elim h
    | split => exact False.elim h
  | str z =>
    cases m with
    | split =>
      simp only [bmW] at h
      split at h
      · rename_i t
        obtain ⟨x, rfl, hx⟩ := hws.one
        cases hx
        obtain ⟨c, h⟩ := h.chk
        rw [Bool.and_eq_true] at c
        have c1 := of_decide_eq_true c.1
        obtain ⟨out, e, hz, h5⟩ := newL_ok h
        cases e
        exact mt_split pins s σ H _ _ v us Q I rx rxs ⟨z, t, rfl, rfl, by simpa using c.2, by rw [sizeLine_eq]; omega, fun p hp => (show rOut Z ι H (.ok (.ref M.length) (M ++ [.lst ((Txt.split z t).map Wv.str)])) Q from h5).lst R (wsr_txts _) hp⟩
      · exact False.elim h
    | scount =>
      simp only [bmW] at h
      split at h
      · rename_i t
        obtain ⟨x, rfl, hx⟩ := hws.one
        cases hx
        exact mt_count pins s σ H _ _ v us Q I rx rxs ⟨z, t, rfl, rfl, h.val R (.int _)⟩
      · exact False.elim h
    | _ => exact False.elim h
  | _ => cases m <;> exact False.elim h
theorem bm_pa (m : Bm) : PlainAttrs (bmTy m) := by
  cases m
  · exact PySem.F.plainAttrs_list
  · exact PySem.F.plainAttrs_dict
  · exact PySem.F.plainAttrs_str
  · exact PySem.F.plainAttrs_list
  · exact PySem.F.plainAttrs_list
  · exact PySem.F.plainAttrs_list
  · exact PySem.F.plainAttrs_dict
  · exact PySem.F.plainAttrs_list
  · exact PySem.F.plainAttrs_str
theorem bm_slot (m : Bm) : Slot (bmTy m) (bmNm m) (bmId m) := by
  cases m
  · exact PySem.F.slot_list_append
  · exact PySem.F.slot_dict_get
  · exact PySem.F.slot_str_count
  · exact PySem.F.slot_list_count
  · exact PySem.F.slot_list_extend
  · exact PySem.F.slot_list_insert
  · exact PySem.F.slot_dict_pop
  · exact PySem.F.slot_list_pop
  · exact PySem.F.slot_str_split
theorem bm_desc (m : Bm) : typeOf (.builtin (bmId m)) = pure (.type "method_descriptor") := by
  cases m
  · exact PySem.F.type_list_append
  · exact PySem.F.type_dict_get
  · exact PySem.F.type_str_count
  · exact PySem.F.type_list_count
  · exact PySem.F.type_list_extend
  · exact PySem.F.type_list_insert
  · exact PySem.F.type_dict_pop
  · exact PySem.F.type_list_pop
  · exact PySem.F.type_str_split
theorem se_bm (k : XOk X Z) {m : Bm} {o e : Expr} {es : List Expr} {f : Fv} {g : Sw → Mem → Out (List Wv)} {apos cpos : Pos} (ho : PE X o (tE Z Wx f)) (ha : PA X (e :: es) (tA Z Wx g))
    (hbase : attributeBase o (bmNm m) X.env (eval o X.env) = eval o X.env)
    (hfew : ((backTo cpos (starEach (e :: es) X.env)).all (fun x => !x.1) && (backToKw cpos (keywordEach [] X.env)).all (fun x => x.1.isSome)
      && decide ((e :: es).length + ([] : List Keyword).length + (if ([] : List Keyword).isEmpty then 0 else 1) < 30)) = true)
    (hline : (apos.endLine == cpos.line) = true) (hs : starEach (e :: es) X.env = (false, eval e X.env) :: starEach es X.env) (hplain : (backTo cpos (starEach es X.env)).any (·.1) = false) :
    PE X (.Call (.Attribute o (bmNm m) apos) (e :: es) [] cpos) (tE Z Wx fun sw M => (f sw M).bind fun x M => .chk (bmT m x M) ((g sw M).bind fun ws M => bmW m x ws M)) := by
  refine ⟨fun pins s σ H Q I ⟨ι, sw, M, sr, R, h⟩ => ?_⟩
  have ht : tE Z Wx f σ H fun v H1 => ∃ ι1 M1 w, RM Z ι1 M1 H1 ∧ SR Z ι1 H1 sw σ ∧ WR Z ι1 H1 w v ∧ bmT m w M1 = true ∧ eOut Z Wx σ ι1 H1 ((g sw M1).bind fun ws M => bmW m w ws M) Q := tE.seqE sr R h fun x M1 v H1 ι1 e1 R1 q1 s1 h1 => by
    obtain ⟨c, h1⟩ := h1.chk
    exact ⟨ι1, M1, x, R1, s1, q1, c, h1⟩
  refine wpAny_Call_method_late hbase hfew hline rfl (thn (ho.run pins s σ H _ I ht) fun v s1 ⟨x, H1, I1, r1, ι1, M1, w, R1, sr1, q1, ty, h1⟩ => ?_)
  obtain ⟨h3, h4⟩ := bm_type I1 R1 q1 r1 ty
  refine ⟨bmTy m, bmId m, bm_pa m, bm_slot m, bm_desc m, h3, h4, ?_⟩
  have hA := ha.run cpos pins s1 σ H1 (fun xs H2 => rM Z (bmW m) x xs H2 Q) I1 (tA.seqE sr1 R1 h1 fun ws M2 vs H2 ι2 e2 R2 q2 s2 h2 => ⟨ι2, M2, w, ws, R2, q1.mono e2.le, q2, (prim_bm _ _ _ _).out h2⟩)
  rw [hs] at hA ⊢
  refine Calls.callWith_builtin (by show (false || (backTo cpos (starEach es X.env)).any (·.1)) = false; rw [hplain] <;> rfl) (Calls.evalArgs_plain ?_)
  exact thn hA fun us s2 ⟨vs, H2, I2, r2, q2⟩ => mt_bm k m pins s2 σ H2 x vs v us Q I2 r1 r2 q2
end
end MP
end
section
set_option Elab.async false
set_option linter.all false
set_option maxRecDepth 100000
namespace MP
open PySem PySem.Spec PyProof.Rows L2
def wxO (Z : Zt) (Wx : Wish) : WX := fun cls d σ H => d = none ∧ ∃ c, cls = .ref (Z.exc c) ∧ Wx c σ H
structure Bx (X : Cx) (Z : Zt) (Wx : Wish) (G : Pg) : Prop extends XOk X Z where
  hS : Z.S = G.S
  nd : X.N.Nodup
  tk : Takes X (wxO Z Wx)
def evT (G : Pg) (C C1 : Nat → List Wv → Mem → Out Wv) (e : Ex) (σ : Sw) (M : Mem) : Out Bool := (evE G C C1 e σ M).bind fun x M => .ofO (truW G x M) M
abbrev TEx (Z : Zt) (Wx : Wish) (G : Pg) (C C1 : Nat → List Wv → Mem → Out Wv) (e : Ex) : TE := tE Z Wx (evE G C C1 e)
abbrev TAx (Z : Zt) (Wx : Wish) (G : Pg) (C C1 : Nat → List Wv → Mem → Out Wv) (e : El) : TA := tA Z Wx (evL G C C1 e)
abbrev TTx (Z : Zt) (Wx : Wish) (G : Pg) (C C1 : Nat → List Wv → Mem → Out Wv) (e : Ex) : TT := tT Z Wx (evT G C C1 e)
def visB (sc : Scope) (x : Str) : Bool := match sc.names.lookup x with
  | some .local => true
  | some .cell => true
  | some .free => true
  | _ => false
def varB (N : List Str) (sc : Scope) (i : Nat) (x : Str) : Bool := decide (N[i]? = some x) && visB sc x && !(x == ("__debug__" : Str)) && !(x == ("__classdict__" : Str))
theorem varB_ok {N : List Str} {sc : Scope} {i : Nat} {x : Str} (h : varB N sc i x = true) : N[i]? = some x ∧ Vis sc x ∧ (x == ("__debug__" : Str)) = false ∧ (x == ("__classdict__" : Str)) = false := by
  unfold varB at h
  rw [Bool.and_eq_true, Bool.and_eq_true, Bool.and_eq_true] at h
  obtain ⟨⟨⟨h1, h2⟩, h3⟩, h4⟩ := h
  refine ⟨of_decide_eq_true h1, ?_, by simpa using h3, by simpa using h4⟩
  unfold visB at h2
  split at h2
  · rename_i e; exact .inl e
  · rename_i e; exact .inr (.inl e)
  · rename_i e; exact .inr (.inr e)
  · cases h2
def gloB (env : Env) (x : Str) : Bool := decide (env.kindOf x = some .globalImplicit) && !(x == ("__debug__" : Str)) && decide (x ≠ "__name__")
theorem gloB_ok {X : Cx} {x : Str} (h : gloB X.env x = true) : Gl X x ∧ (x == ("__debug__" : Str)) = false ∧ x ≠ "__name__" := by
  unfold gloB at h
  rw [Bool.and_eq_true, Bool.and_eq_true] at h
  exact ⟨show X.env.kindOf x = some .globalImplicit from of_decide_eq_true h.1.1, by simpa using h.1.2, of_decide_eq_true h.2⟩
section
variable {X : Cx} {Z : Zt} {Wx : Wish} {G : Pg} {C C1 : Nat → List Wv → Mem → Out Wv} {a b c e : Expr} {es : List Expr} {ea eb ec : Ex} {el : El} {pos p p2 p3 : Pos}
theorem e_var (i : Nat) {x : Str} (h : varB X.N X.env.scope i x = true := by kernel_rfl) : PE X (.Name x pos) (TEx Z Wx G C C1 (.var i)) := by
  obtain ⟨h1, h2, h3, h4⟩ := varB_ok h
  have : evE G C C1 (.var i) = fun σ M => .ofO (getV i σ) M := by funext σ M; simp only [evE]
  rw [TEx, this]
  exact se_var h1 h2 h3 h4
theorem con_eq (w : Wv) : evE G C C1 (.con w) = fun _ M => .ok w M := by funext σ M; simp only [evE]
theorem e_int (i : Int) {j : Nat} : PE X (.Constant (.int i) j pos) (TEx Z Wx G C C1 (.con (.int i))) := by
  rw [TEx, con_eq]; exact se_con pe_int fun _ _ => .int i
theorem e_str (x : Str) {j : Nat} : PE X (.Constant (.str x) j pos) (TEx Z Wx G C C1 (.con (.str x))) := by
  rw [TEx, con_eq]; exact se_con pe_str fun _ _ => .str x
theorem e_bl (x : Bool) {j : Nat} : PE X (.Constant (.bool x) j pos) (TEx Z Wx G C C1 (.con (.bl x))) := by
  rw [TEx, con_eq]; exact se_con pe_bl fun _ _ => .bl x
theorem e_non {j : Nat} : PE X (.Constant .none j pos) (TEx Z Wx G C C1 (.con .non)) := by
  rw [TEx, con_eq]; exact se_con pe_non fun _ _ => .non
theorem e_glb {x : Str} {v : V} {u : Value} {w : Wv} (hc : G.con x = some w) (hm : X.mg x = some u) (r : RelV v u) (hw : ∀ ι H, WR Z ι H w v) (h : gloB X.env x = true := by kernel_rfl) : PE X (.Name x pos) (TEx Z Wx G C C1 (.glb x)) := by
  obtain ⟨h1, h2, h3⟩ := gloB_ok h
  have : evE G C C1 (.glb x) = fun _ M => .ok w M := by funext σ M; simp only [evE, hc]; rfl
  rw [TEx, this]
  exact se_con (pe_glob h1 hm r h2) hw
theorem a_nil : PA X [] (TAx Z Wx G C C1 .nil) := by
  have : evL G C C1 .nil = fun _ M => .ok [] M := by funext σ M; simp only [evL]
  rw [TAx, this]; exact sa_nil
theorem a_cons (ha : PE X a (TEx Z Wx G C C1 ea)) (hr : PA X es (TAx Z Wx G C C1 el)) (hs : starEach (a :: es) X.env = (false, eval a X.env) :: starEach es X.env := by rfl) : PA X (a :: es) (TAx Z Wx G C C1 (.cons ea el)) := by
  have : evL G C C1 (.cons ea el) = fun sw M => (evE G C C1 ea sw M).bind fun w M => (evL G C C1 el sw M).bind fun ws M => .ok (w :: ws) M := by funext σ M; simp only [evL]
  rw [TAx, this]; exact sa_cons ha hr hs
theorem e_tup {k : Nat} (ha : PA X es (TAx Z Wx G C C1 el)) : PE X (.Tuple es k pos) (TEx Z Wx G C C1 (.tup el)) := by
  have : evE G C C1 (.tup el) = fun sw M => (evL G C C1 el sw M).bind fun ws M => .chk (lenOk ws.length) (.ok (.tup ws) M) := by funext σ M; simp only [evE]
  rw [TEx, this]; exact se_tup ha
theorem e_lst (ha : PA X es (TAx Z Wx G C C1 el)) : PE X (.List es pos) (TEx Z Wx G C C1 (.lst el)) := by
  have : evE G C C1 (.lst el) = fun sw M => (evL G C C1 el sw M).bind fun ws M => .chk (lenOk ws.length) (.ok (.ref M.length) (M ++ [.lst ws])) := by funext σ M; simp only [evE]
  rw [TEx, this]; exact se_lst ha
theorem e_dict0 : PE X (.Dict [] [] pos) (TEx Z Wx G C C1 .dict0) := by
  have : evE G C C1 .dict0 = fun _ M => .ok (.ref M.length) (M ++ [.dct false []]) := by funext σ M; simp only [evE]
  rw [TEx, this]; exact se_dict0
theorem e_bin (k : Bx X Z Wx G) (o : Op) (ha : PE X a (TEx Z Wx G C C1 ea)) (hb : PE X b (TEx Z Wx G C C1 eb)) : PE X (.BinOp a (opOf o) b pos) (TEx Z Wx G C C1 (.bin o ea eb)) := by
  have : evE G C C1 (.bin o ea eb) = fun sw M => (evE G C C1 ea sw M).bind fun x M => (evE G C C1 eb sw M).bind fun y M => binW o x y M := by funext σ M; simp only [evE]
  rw [TEx, this]; exact se_bin (prim_bin o) (op_binW k.toXOk o) ha hb
theorem e_cmp (k : Bx X Z Wx G) (o : Cm) (ha : PE X a (TEx Z Wx G C C1 ea)) (hb : PE X b (TEx Z Wx G C C1 eb)) (hm : behindInMarks (cmOf o) b = false := by kernel_rfl) : PE X (.Compare a [cmOf o] [b] pos) (TEx Z Wx G C C1 (.cmp o ea eb)) := by
  have : evE G C C1 (.cmp o ea eb) = fun sw M => (evE G C C1 ea sw M).bind fun x M => (evE G C C1 eb sw M).bind fun y M => cmpW G o x y M := by funext σ M; simp only [evE]
  rw [TEx, this]; exact se_cmp (prim_cmp o) (op_cmpW k.toXOk k.hS o) ha hb hm
theorem cmpW_bl {o : Cm} {x y r : Wv} {M M' : Mem} (h : cmpW G o x y M = .ok r M') : ∃ q, r = .bl q ∧ M' = M := by
  have g : ∀ z : Option Bool, ((Out.ofO z M).bind fun b M => .ok (.bl b) M) = .ok r M' → ∃ q, r = .bl q ∧ M' = M := fun z h => by
    cases z with
    | none => cases h
    | some q => cases h; exact ⟨q, rfl, rfl⟩
  exact g _ h
theorem truW_V (k : Bx X Z Wx G) {ι : List Addr} {H : Hp} {M : Mem} {w : Wv} {x : V} {b : Bool} (R : RM Z ι M H) (wr : WR Z ι H w x) (e : truW G w M = some b) : TruV X.K x H b := by
  rw [k.K]
  cases wr with
  | non => cases e; rfl
  | bl c => cases e; rfl
  | int i => cases e; rfl
  | str y =>
    simp only [truW] at e
    split at e
    · rename_i hz
      cases e
      refine ⟨hz, ?_⟩
      cases hq : y.length <;> simp <;> omega
    · cases e
  | tup h t =>
    cases e
    refine .inr (.inl ⟨_, h, ?_⟩)
    cases t <;> rfl
  | ref h =>
    simp only [truW] at e
    split at e
    · rename_i ws hw
      cases e
      obtain ⟨vs, h1, h2⟩ := R.ob _ _ _ hw h
      refine .inl ⟨vs, SqL.of h1, ?_⟩
      cases h2 <;> rfl
    · cases e
  | scr h =>
    cases e
    refine .inl ⟨_, h.sq, ?_⟩
    rw [k.hS]
    cases G.S <;> rfl
theorem bOut.ofO {σ : L2.St} {ι : List Addr} {H : Hp} {M : Mem} {o : Option Bool} {Q : Bool → Hp → Prop} (h : bOut Z Wx σ ι H (.ofO o M) Q) : ∃ w, o = some w ∧ bOut Z Wx σ ι H (.ok w M) Q := by
  cases o with
  | some w => exact ⟨w, rfl, h⟩
  | none => exact False.elim h
theorem t_val (k : Bx X Z Wx G) (ha : PE X a (TEx Z Wx G C C1 ea)) (he : ∀ whole, isTrue a X.env whole = (do let v ← whole; standAt a.pos; holding [v] (truthy v)) := by intro _; rfl) : PT X a (TTx Z Wx G C C1 ea) :=
  (pt_truth ha he).weak fun σ H Q ⟨ι, sw, M, s, R, h⟩ => tE.seqB s R h fun x M1 v H1 ι1 e1 R1 q1 s1 h1 => by
    obtain ⟨q, e, h1⟩ := h1.ofO
    exact ⟨q, truW_V k R1 q1 e, h1 H1 ι1 (Ext.refl _ _) R1⟩
theorem t_cmp (k : Bx X Z Wx G) (o : Cm) (ha : PE X a (TEx Z Wx G C C1 ea)) (hb : PE X b (TEx Z Wx G C C1 eb)) (hm : behindInMarks (cmOf o) b = false := by kernel_rfl) : PT X (.Compare a [cmOf o] [b] pos) (TTx Z Wx G C C1 (.cmp o ea eb)) :=
  (pt_cmpR (op_cmpW k.toXOk k.hS o) ha hb hm).weak fun σ H Q ⟨ι, sw, M, s, R, h⟩ => by
    have e : evT G C C1 (.cmp o ea eb) sw M = (evE G C C1 ea sw M).bind fun x M => (evE G C C1 eb sw M).bind fun y M => (cmpW G o x y M).bind fun r M => .ofO (truW G r M) M := by
      unfold evT
      simp only [evE]
      cases evE G C C1 ea sw M with
      | ok w M1 =>
        simp only [Out.bind_ok]
        cases evE G C C1 eb sw M1 with
        | ok w M2 => simp only [Out.bind_ok]
        | exc c M2 => rfl
        | bad => rfl
      | exc c M1 => rfl
      | bad => rfl
    rw [e] at h
    refine tE.seqB s R h fun x M1 v H1 ι1 e1 R1 q1 s1 h1 => tE.seqB s1 R1 h1 fun y M2 u H2 ι2 e2 R2 q2 s2 h2 => ⟨ι2, M2, x, y, R2, q1.mono e2.le, q2, ?_⟩
    cases e : cmpW G o x y M2 with
    | exc c M' => exact absurd e (prim_cmp o x y M2 c M')
    | bad => rw [e] at h2; exact False.elim h2
    | ok r M3 =>
      obtain ⟨q, rfl, rfl⟩ := cmpW_bl e
      rw [e] at h2
      intro w H3 ι3 e3 R3 q3
      cases q3
      exact ⟨q, rfl, (h2.shift e3) H3 ι3 (Ext.refl _ _) R3⟩
theorem t_one {op : BoolOp} (ha : PT X a (TTx Z Wx G C C1 ea)) : PW X (.BoolOp op [a] pos) (TTx Z Wx G C C1 ea) := by
  cases op
  · exact pw_and1 ha
  · exact pw_or1 ha
theorem evT_and (sw : Sw) (M : Mem) : evT G C C1 (.and ea eb) sw M = (evT G C C1 ea sw M).bind fun c M => if c then evT G C C1 eb sw M else .ok false M := by
  unfold evT
  simp only [evE]
  cases evE G C C1 ea sw M with
  | ok w M1 =>
    simp only [Out.bind_ok]
    cases e : truW G w M1 with
    | none => rfl
    | some q =>
      cases q with
      | true => rfl
      | false => show Out.ofO (truW G w M1) M1 = _; rw [e]; rfl
  | exc c M1 => rfl
  | bad => rfl
theorem evT_or (sw : Sw) (M : Mem) : evT G C C1 (.or ea eb) sw M = (evT G C C1 ea sw M).bind fun c M => if c then .ok true M else evT G C C1 eb sw M := by
  unfold evT
  simp only [evE]
  cases evE G C C1 ea sw M with
  | ok w M1 =>
    simp only [Out.bind_ok]
    cases e : truW G w M1 with
    | none => rfl
    | some q =>
      cases q with
      | true => show Out.ofO (truW G w M1) M1 = _; rw [e]; rfl
      | false => rfl
  | exc c M1 => rfl
  | bad => rfl
theorem t_and (ha : PT X a (TTx Z Wx G C C1 ea)) (hb : PW X (.BoolOp .And (b :: es) pos) (TTx Z Wx G C C1 eb)) : PW X (.BoolOp .And (a :: b :: es) pos) (TTx Z Wx G C C1 (.and ea eb)) :=
  (pw_and ha hb).weak fun σ H Q ⟨ι, sw, M, s, R, h⟩ => by
    rw [evT_and] at h
    refine tT.seqB s R h fun q M1 H1 ι1 e1 R1 s1 h1 => ?_
    cases q with
    | true => exact ⟨ι1, sw, M1, s1, R1, h1⟩
    | false => exact h1 H1 ι1 (Ext.refl _ _) R1
theorem t_or (ha : PT X a (TTx Z Wx G C C1 ea)) (hb : PW X (.BoolOp .Or (b :: es) pos) (TTx Z Wx G C C1 eb)) : PW X (.BoolOp .Or (a :: b :: es) pos) (TTx Z Wx G C C1 (.or ea eb)) :=
  (pw_or ha hb).weak fun σ H Q ⟨ι, sw, M, s, R, h⟩ => by
    rw [evT_or] at h
    refine tT.seqB s R h fun q M1 H1 ι1 e1 R1 s1 h1 => ?_
    cases q with
    | true => exact h1 H1 ι1 (Ext.refl _ _) R1
    | false => exact ⟨ι1, sw, M1, s1, R1, h1⟩
theorem t_w (h : PW X a (TTx Z Wx G C C1 ea)) : PT X a (TTx Z Wx G C C1 ea) := h.pt
theorem e_ife (hc : PT X c (TTx Z Wx G C C1 ec)) (ha : PE X a (TEx Z Wx G C C1 ea)) (hb : PE X b (TEx Z Wx G C C1 eb)) : PE X (.IfExp c a b pos) (TEx Z Wx G C C1 (.ife ec ea eb)) :=
  (pe_ifExp hc ha hb).weak fun σ H Q ⟨ι, sw, M, s, R, h⟩ => by
    have e : evE G C C1 (.ife ec ea eb) sw M = (evT G C C1 ec sw M).bind fun c M => if c then evE G C C1 ea sw M else evE G C C1 eb sw M := by
      unfold evT
      simp only [evE]
      cases evE G C C1 ec sw M with
      | ok w M1 => rfl
      | exc c M1 => rfl
      | bad => rfl
    rw [e] at h
    refine tT.seqE s R h fun q M1 H1 ι1 e1 R1 s1 h1 => ?_
    cases q with
    | true => exact ⟨ι1, sw, M1, s1, R1, h1⟩
    | false => exact ⟨ι1, sw, M1, s1, R1, h1⟩
theorem e_sub (k : Bx X Z Wx G) (ha : PE X a (TEx Z Wx G C C1 ea)) (hb : PE X b (TEx Z Wx G C C1 eb)) (hs : PlainIx b := by intro _ _; rfl) : PE X (.Subscript a b pos) (TEx Z Wx G C C1 (.sub ea eb)) := by
  have : evE G C C1 (.sub ea eb) = fun sw M => (evE G C C1 ea sw M).bind fun x M => (evE G C C1 eb sw M).bind fun y M => subW G x y M := by funext σ M; simp only [evE]
  rw [TEx, this]; exact se_ix prim_sub (ix_subW k.toXOk k.hS) ha hb hs
abbrev evO (G : Pg) (C C1 : Nat → List Wv → Mem → Out Wv) (e : Ex) (σ : Sw) (M : Mem) : Out (Option Int) := if e.isNo then .ok none M else (evE G C C1 e σ M).bind fun y M => .ofO ((toI y).map some) M
theorem o_no : PO X none (tO Z Wx (evO G C C1 .no)) := so_none
theorem o_some (ha : PE X a (TEx Z Wx G C C1 ea)) (hn : ea.isNo = false := by rfl) : PO X (some a) (tO Z Wx (evO G C C1 ea)) := by
  have : evO G C C1 ea = fun σ M => (evE G C C1 ea σ M).bind fun y M => .ofO ((toI y).map some) M := by funext σ M; unfold evO; rw [hn]; rfl
  rw [this]; exact so_some ha
theorem e_slc (k : Bx X Z Wx G) {lo hi : Option Expr} {l h : Ex} (ha : PE X a (TEx Z Wx G C C1 ea)) (hl : PO X lo (tO Z Wx (evO G C C1 l))) (hh : PO X hi (tO Z Wx (evO G C C1 h))) : PE X (.Subscript a (.Slice lo hi none p) pos) (TEx Z Wx G C C1 (.slc ea l h)) := by
  have : evE G C C1 (.slc ea l h) = fun sw M => (evE G C C1 ea sw M).bind fun x M => (evO G C C1 l sw M).bind fun l M => (evO G C C1 h sw M).bind fun h M => slcW x l h M := by funext σ M; simp only [evE]
  rw [TEx, this]; exact se_slc k.toXOk ha hl hh
theorem e_rev (k : Bx X Z Wx G) {kk : Nat} {p1 p2 p3 : Pos} (ha : PE X a (TEx Z Wx G C C1 ea)) : PE X (.Subscript a (.Slice none none (some (.UnaryOp .USub (.Constant (.int 1) kk p1) p2)) p3) pos) (TEx Z Wx G C C1 (.srev false ea)) := by
  have : evE G C C1 (.srev false ea) = fun sw M => (evE G C C1 ea sw M).bind fun x M => revW false x M := by funext σ M; simp only [evE]
  rw [TEx, this]; exact se_rev k.toXOk ha
theorem e_down (k : Bx X Z Wx G) {kk k2 : Nat} {p0 p1 p2 p3 : Pos} (ha : PE X a (TEx Z Wx G C C1 ea)) : PE X (.Subscript a (.Slice none (some (.Constant (.int 0) k2 p0)) (some (.UnaryOp .USub (.Constant (.int 1) kk p1) p2)) p3) pos) (TEx Z Wx G C C1 (.srev true ea)) := by
  have : evE G C C1 (.srev true ea) = fun sw M => (evE G C C1 ea sw M).bind fun x M => revW true x M := by funext σ M; simp only [evE]
  rw [TEx, this]; exact se_down k.toXOk ha
def biB : Bi → Bool
  | .tuple => false
  | .int => false
  | .sset => false
  | .sseti => false
  | .lset => false
  | .kset => false
  | .sorT => false
  | _ => true
def biNm : Bi → Str
  | .len => "len"
  | .all => "all"
  | .any => "any"
  | .sum => "sum"
  | .min => "min"
  | .max => "max"
  | .sorted => "sorted"
  | .abs => "abs"
  | .list => "list"
  | .dict => "dict"
  | .tuple => "tuple"
  | .str => "str"
  | .int => "int"
  | .sset => "set"
  | .sseti => "set"
  | .lset => "len"
  | .kset => "set"
  | .sorT => "sorted"
def biV : Bi → Value
  | .len => .builtin "len"
  | .all => .builtin "all"
  | .any => .builtin "any"
  | .sum => .builtin "sum"
  | .min => .builtin "min"
  | .max => .builtin "max"
  | .sorted => .builtin "sorted"
  | .abs => .builtin "abs"
  | .list => .type "list"
  | .dict => .type "dict"
  | .tuple => .type "tuple"
  | .str => .type "str"
  | .int => .type "int"
  | .sset => .type "set"
  | .sseti => .type "set"
  | .lset => .builtin "len"
  | .kset => .type "set"
  | .sorT => .builtin "sorted"
theorem biV_boot (o : Bi) : bootBuiltins (biNm o) = some (biV o) := by cases o <;> kernel_rfl
theorem call_bi (k : XOk X Z) (hS : Z.S = G.S) (o : Bi) (h : biB o = true) : CallR X (biV o) (rN Z (biW G o)) := by
  cases o
  · exact cb_len k hS
  · exact cb_all k
  · exact cb_any k
  · exact cb_sum k
  · exact cb_min k hS
  · exact cb_max k hS
  · exact cb_sorted k hS
  · exact cb_abs
  · exact cb_list k hS
  · exact cb_dict k
  · cases h
  · exact cb_str k hS
  all_goals cases h
theorem e_bi (k : Bx X Z Wx G) (o : Bi) (hm : X.mg (biNm o) = none) (ha : PA X (e :: es) (TAx Z Wx G C C1 el)) (ho : biB o = true := by rfl) (hg : gloB X.env (biNm o) = true := by kernel_rfl)
    (he : starEach (e :: es) X.env = (false, eval e X.env) :: starEach es X.env := by rfl) (hpl : (backTo pos (starEach es X.env)).any (·.1) = false := by rfl) : PE X (.Call (.Name (biNm o) p) (e :: es) [] pos) (TEx Z Wx G C C1 (.bi o el)) := by
  obtain ⟨h1, h2, h3⟩ := gloB_ok hg
  have : evE G C C1 (.bi o el) = fun sw M => (evL G C C1 el sw M).bind fun ws M => biW G o ws M := by funext σ M; simp only [evE]
  rw [TEx, this]
  have hb := biV_boot o
  have hc := call_bi (G := G) k.toXOk k.hS o ho
  cases o
  · exact se_callB (prim_bi _) hc h1 hm hb ha h3 h2 he hpl
  · exact se_callB (prim_bi _) hc h1 hm hb ha h3 h2 he hpl
  · exact se_callB (prim_bi _) hc h1 hm hb ha h3 h2 he hpl
  · exact se_callB (prim_bi _) hc h1 hm hb ha h3 h2 he hpl
  · exact se_callB (prim_bi _) hc h1 hm hb ha h3 h2 he hpl
  · exact se_callB (prim_bi _) hc h1 hm hb ha h3 h2 he hpl
  · exact se_callB (prim_bi _) hc h1 hm hb ha h3 h2 he hpl
  · exact se_callB (prim_bi _) hc h1 hm hb ha h3 h2 he hpl
  · exact se_callTy (prim_bi _) hc h1 hm hb ha h3 h2 he hpl
  · exact se_callTy (prim_bi _) hc h1 hm hb ha h3 h2 he hpl
  · cases ho
  · exact se_callTy (prim_bi _) hc h1 hm hb ha h3 h2 he hpl
  all_goals cases ho
theorem e_bm (k : Bx X Z Wx G) (m : Bm) {apos : Pos} (ho : PE X a (TEx Z Wx G C C1 ea)) (ha : PA X (e :: es) (TAx Z Wx G C C1 el))
    (hbase : attributeBase a (bmNm m) X.env (eval a X.env) = eval a X.env := by rfl)
    (hfew : ((backTo pos (starEach (e :: es) X.env)).all (fun x => !x.1) && (backToKw pos (keywordEach [] X.env)).all (fun x => x.1.isSome)
      && decide ((e :: es).length + ([] : List Keyword).length + (if ([] : List Keyword).isEmpty then 0 else 1) < 30)) = true := by rfl)
    (hline : (apos.endLine == pos.line) = true := by rfl) (hs : starEach (e :: es) X.env = (false, eval e X.env) :: starEach es X.env := by rfl) (hplain : (backTo pos (starEach es X.env)).any (·.1) = false := by rfl) :
    PE X (.Call (.Attribute a (bmNm m) apos) (e :: es) [] pos) (TEx Z Wx G C C1 (.bm m ea el)) := by
  have : evE G C C1 (.bm m ea el) = fun sw M => (evE G C C1 ea sw M).bind fun x M => .chk (bmT m x M) ((evL G C C1 el sw M).bind fun ws M => bmW m x ws M) := by funext σ M; simp only [evE]
  rw [TEx, this]
  exact se_bm k.toXOk ho ha hbase hfew hline hs hplain
end
end MP
end
section
set_option Elab.async false
set_option linter.all false
set_option maxRecDepth 100000
namespace MP
open PySem PySem.Spec PyProof.Rows L2
def cOut (Z : Zt) (ι : List Addr) (H : Hp) (r : Out Wv) (Q : VK) (E : XK) : Prop := match r with
  | .ok w M => ∀ v H' ι', Ext ι ι' H H' → RM Z ι' M H' → WR Z ι' H' w v → Q v H'
  | .exc c M => ∀ H' ι', Ext ι ι' H H' → RM Z ι' M H' → E (.ref (Z.exc c)) none H'
  | .bad => False
def spI (Z : Zt) (F : List Wv → Mem → Out Wv) : Sp := fun vs H Q E => ∃ ι M ws, RM Z ι M H ∧ WsR Z ι H ws vs ∧ cOut Z ι H (F ws M) Q E
structure FnG (P : Program) (w : World) (K : PySem.W.Frag) (mg : Str → Option Value) (base : Heap) (k : Nat) (f : Addr) (fd : FuncData) (ps : List Str) (sp : Sp) : Prop where
  ln : ∀ vs H Q E, sp vs H Q E → vs.length = ps.length
  go : ∀ (A : Around) (out : List Env) (s : Shared) (H : Hp) (ar : Args) (us : List Value) (vs : List V) (Q : VK) (E : XK), A.guards = some [] → Room k A → Env0 P w K mg base A out s H → BindsTo s fd ar (ps.zip us) → Vals vs us → sp vs H Q E → codeAny (model P w) A (.call (.ref f) ar) (CR (L2.CX P w) out P w H s Q E) s
theorem make_guards {A : Around} {C : Addr} {us : List Value} (h : A.guards = some []) : (A.under (.builtin "type.__call__" ⟨.ref C :: us, []⟩)).guards = some [] := by
  first
    | (simp [Around.under, h, Code.guards, Code.isGuard, guardIds, pushGuards]; done)
    | (unfold Around.under; simp only [h]; rfl)
structure Cal (P : Program) (w : World) (K : PySem.W.Frag) (mg : Str → Option Value) (base : Heap) (A : Around) (Z : Zt) (F : List Wv → Mem → Out Wv) (f : Addr) (dws : List Wv) : Prop where
  ex : ∃ n fd ps ds dvs, FnG P w K mg base n f fd ps (spI Z F) ∧ Room n A ∧ Binds K fd ps ds ∧ Vals dvs ds ∧ ∀ ι H, WsR Z ι H dws dvs
structure CalG (P : Program) (w : World) (K : PySem.W.Frag) (mg : Str → Option Value) (base : Heap) (A : Around) (Z : Zt) (F : List Wv → Mem → Out Wv) (x : Str) (dws : List Wv) : Prop where
  ex : ∃ f, mg x = some (.ref f) ∧ PySem.W.keepIn K (.ref f) = true ∧ Cal P w K mg base A Z F f dws
section
variable {X : Cx} {Z : Zt} {Wx : Wish} {G : Pg} {C C1 : Nat → List Wv → Mem → Out Wv} {a b c e : Expr} {es : List Expr} {ea eb ec : Ex} {el : El} {pos p p2 p3 apos : Pos}
variable {pins : List (Addr × Obj)} {σ : L2.St} {H : Hp} {s : Shared} {ι : List Addr} {M : Mem} {Q : VK}
theorem FsR.look {fs : List (Str × Wv)} {vs : List (Str × V)} {f : Str} (r : FsR Z ι H fs vs) : (∀ w, fs.lookup f = some w → ∃ v, vs.lookup f = some v ∧ WR Z ι H w v) ∧ (fs.lookup f = none → vs.lookup f = none) := by
  induction r with
  | nil => exact ⟨fun w h => (by cases h), fun _ => rfl⟩
  | @cons p q ps qs h t ih =>
    obtain ⟨n1, w1⟩ := p
    obtain ⟨n2, v2⟩ := q
    obtain ⟨e, hw⟩ := h
    simp only at e hw
    subst e
    simp only [List.lookup_cons]
    cases hc : f == n1 with
    | true => exact ⟨fun w h => (by cases h; exact ⟨v2, rfl, hw⟩), fun h => (by cases h)⟩
    | false => exact ih
theorem FsR.put {fs : List (Str × Wv)} {vs : List (Str × V)} {f : Str} {w : Wv} {v : V} (r : FsR Z ι H fs vs) (hw : WR Z ι H w v) : FsR Z ι H (MP.putF f w fs) (L2.putF f v vs) := by
  induction r with
  | nil => exact .cons ⟨rfl, hw⟩ .nil
  | @cons p q ps qs h t ih =>
    obtain ⟨n1, w1⟩ := p
    obtain ⟨n2, v2⟩ := q
    obtain ⟨e, hw1⟩ := h
    simp only at e hw1
    subst e
    unfold MP.putF L2.putF
    by_cases hc : n1 = f
    · subst hc
      rw [if_pos rfl, if_pos rfl]
      exact .cons ⟨rfl, hw⟩ t
    · rw [if_neg hc, if_neg hc]
      exact .cons ⟨rfl, hw1⟩ ih
def AtOk (Z : Zt) (G : Pg) (f : Str) : Prop := ∀ c k, G.cls c = some k → Cls Z.K (Z.cls c) ∧ NoAttr Z.K (Z.cls c) f
theorem attr_at {x : Wv} {v : V} {f : Str} {w : Wv} {M1 : Mem} (R : RM Z ι M H) (hx : WR Z ι H x v) (h : attrW G x f M = .ok w M1) : M1 = M ∧ ∃ l c fs a dx vs u, x = .ref l ∧ v = .ref a ∧ M[l]? = some (.ins c fs) ∧ ι[l]? = some a ∧ (G.cls c).isSome = true ∧ H a = some (.ins (Z.cls c) dx vs) ∧ FsR Z ι H fs vs ∧ vs.lookup f = some u ∧ WR Z ι H w u := by
  cases hx with
  | ref hl =>
    rename_i l a
    simp only [attrW] at h
    split at h
    · rename_i c fs hM
      cases hc : (G.cls c).isSome with
      | false => rw [hc] at h; cases h
      | true =>
        rw [hc] at h
        have h : Out.ofO (fs.lookup f) M = .ok w M1 := h
        cases e : fs.lookup f with
        | none => rw [e] at h; cases h
        | some y =>
          rw [e] at h
          cases h
          obtain ⟨dx, vs, h1, h2⟩ := R.ob _ _ _ hM hl
          obtain ⟨u, g1, g2⟩ := h2.look.1 _ e
          exact ⟨rfl, l, c, fs, a, dx, vs, u, rfl, rfl, hM, hl, hc, h1, h2, g1, g2⟩
    · cases h
  | _ => cases h
theorem prim_attr (x : Wv) (f : Str) (M : Mem) : Prim (attrW G x f M) := by
  unfold attrW
  split
  · split
    · exact Prim.ofO.chk
    · exact Prim.bad
  · exact Prim.bad
theorem e_attr (k : Bx X Z Wx G) {f : Str} (hf : AtOk Z G f) (ha : PE X a (TEx Z Wx G C C1 ea)) (hb : attributeBase a f X.env (eval a X.env) = eval a X.env := by rfl) : PE X (.Attribute a f pos) (TEx Z Wx G C C1 (.attr ea f)) := by
  have : evE G C C1 (.attr ea f) = fun sw M => (evE G C C1 ea sw M).bind fun x M => attrW G x f M := by funext σ M; simp only [evE]
  rw [TEx, this]
  refine (pe_fld ha hb).weak fun σ H Q ⟨ι, sw, M, s, R, h⟩ => tE.seqE s R h fun x M1 v H1 ι1 e1 R1 q1 s1 h1 => ?_
  have h2 := (prim_attr x f M1).out h1
  cases e : attrW G x f M1 with
  | ok w M2 =>
    obtain ⟨rfl, l, c, fs, a, dx, vs, u, rfl, rfl, hM, hl, hc, h3, h4, h5, h6⟩ := attr_at R1 q1 e
    rw [e] at h2
    obtain ⟨kk, hk⟩ := Option.isSome_iff_exists.mp hc
    obtain ⟨g1, g2⟩ := hf c kk hk
    rw [← k.K] at g1 g2
    exact ⟨a, Z.cls c, dx, vs, u, rfl, h3, g1, g2, h5, h2.val R1 h6⟩
  | exc c M2 => rw [e] at h2; exact False.elim h2
  | bad => rw [e] at h2; exact False.elim h2
theorem run_cal (k : Bx X Z Wx G) {F : List Wv → Mem → Out Wv} {f : Addr} {fd : FuncData} {ps : List Str} {n : Nat} {args : Args} {us : List Value} {vs : List V} {ws : List Wv} {ι : List Addr}
    (Fn : FnG X.prog X.w X.K X.mg X.base n f fd ps (spI Z F)) (hr : Room n X.A) (I : L2.Inv X pins σ H s) (hb : BindsTo s fd args (ps.zip us)) (rv : Vals vs us) (R : RM Z ι M H) (wr : WsR Z ι H ws vs) (h : eOut Z Wx σ ι H (F ws M) Q) :
    codeAny (model X.prog X.w) X.A (.call (.ref f) args) (fun r s' => match r with | .ok (.ret u) => EP X pins σ Q u s' | .ok _ => False | .error e => X.xe e s') s := by
  refine codeAny_mono (Fn.go X.A X.stack s H args us vs Q (WE (wxO Z Wx) σ) k.gd hr I.env0 hb rv ⟨ι, M, ws, R, wr, ?_⟩) fun r s' hq => ?_
  · cases e : F ws M with
    | ok w M1 => rw [e] at h; exact h
    | exc c M1 => rw [e] at h; exact fun H' ι' x R => ⟨rfl, c, rfl, h H' ι' x R⟩
    | bad => rw [e] at h; exact h
  · cases r with
    | error e => exact passAt k.tk σ pins H s e s' I hq
    | ok fl =>
      cases fl with
      | ret u => exact I.after hq
      | next => exact False.elim hq
      | brk => exact False.elim hq
      | cont => exact False.elim hq
theorem call_len {F : List Wv → Mem → Out Wv} {f : Addr} {fd : FuncData} {ps : List Str} {n : Nat} {vs : List V} {ws : List Wv} {P : Program} {w : World} {K : PySem.W.Frag} {mg : Str → Option Value} {base : Heap}
    (Fn : FnG P w K mg base n f fd ps (spI Z F)) (R : RM Z ι M H) (wr : WsR Z ι H ws vs) (h : eOut Z Wx σ ι H (F ws M) Q) : vs.length = ps.length := by
  refine Fn.ln vs H (fun _ _ => True) (fun _ _ _ => True) ⟨ι, M, ws, R, wr, ?_⟩
  cases e : F ws M with
  | ok w M1 => exact fun _ _ _ _ _ _ => trivial
  | exc c M1 => exact fun _ _ _ _ => trivial
  | bad => rw [e] at h; exact h
theorem run_calD (k : Bx X Z Wx G) {F : List Wv → Mem → Out Wv} {f : Addr} {dws ws : List Wv} {us : List Value} {vs : List V} {ι : List Addr} (c : Cal X.prog X.w X.K X.mg X.base X.A Z F f dws) (I : L2.Inv X pins σ H s) (rv : Vals vs us) (R : RM Z ι M H) (wr : WsR Z ι H ws vs)
    (h : eOut Z Wx σ ι H (F (ws ++ dws) M) Q) : wpAny (model X.prog X.w) X.A (call (.ref f) us) (EP X pins σ Q) X.xe s := by
  obtain ⟨n, fd, ps, ds, dvs, Fn, hr, hb, hd, hw⟩ := c.ex
  have wr2 := wr.append (hw ι H)
  have r2 : Vals (vs ++ dvs) (us ++ ds) := rv.append hd
  have hl : (us ++ ds).length = ps.length := by rw [← r2.length]; exact call_len Fn R wr2 h
  refine wpAny_call (codeAny_mono (run_cal k Fn hr I (hb s us I.kIn hl) r2 R wr2 h) fun r s' hq => ?_)
  cases r with
  | error e => exact hq
  | ok fl => cases fl <;> exact hq
theorem e_call (k : Bx X Z Wx G) {i : Nat} {x : Str} {dws : List Wv} (c : CalG X.prog X.w X.K X.mg X.base X.A Z (C i) x dws) (ha : PA X (e :: es) (TAx Z Wx G C C1 el)) (hg : gloB X.env x = true := by kernel_rfl)
    (he : starEach (e :: es) X.env = (false, eval e X.env) :: starEach es X.env := by rfl) (hpl : (backTo pos (starEach es X.env)).any (·.1) = false := by rfl) : PE X (.Call (.Name x p) (e :: es) [] pos) (TEx Z Wx G C C1 (.call i el dws)) := by
  obtain ⟨h1, h2, h3⟩ := gloB_ok hg
  obtain ⟨f, hm, hk, cc⟩ := c.ex
  refine ⟨fun pins s σ H Q I ⟨ι, sw, M, sr, R, h⟩ => ?_⟩
  simp only [evE] at h
  refine wpAny_Call_Name_kw (ld_glob I h1 hm ?_ h2)
  refine PySem.W.callWith_K (h₀ := X.base) I.ok.mod.kin hk (thn (ha.run pos pins s σ H (fun vs H1 => ∃ ι1 M1 ws, RM Z ι1 M1 H1 ∧ WsR Z ι1 H1 ws vs ∧ eOut Z Wx σ ι1 H1 (C i (ws ++ dws) M1) Q) I (tA.seqE sr R h fun ws M1 vs H1 ι1 e1 R1 q1 s1 h1 => ⟨ι1, M1, ws, R1, q1, h1⟩)) fun us s1 ⟨vs, H1, I1, r, ι1, M1, ws, R1, q1, h1⟩ => ⟨I1.kIn, ?_⟩) he hpl
  exact run_calD k cc I1 r R1 q1 h1
structure CalK (P : Program) (w : World) (K : PySem.W.Frag) (mg : Str → Option Value) (base : Heap) (A : Around) (Z : Zt) (F : List Wv → Mem → Out Wv) (x : Str) (m : Nat) (y : Str) : Prop where
  ex : ∃ f n fd ps, mg x = some (.ref f) ∧ PySem.W.keepIn K (.ref f) = true ∧ FnG P w K mg base n f fd ps (spI Z F) ∧ Room n A ∧ ps.length = m + 1 ∧
    ∀ (s : Shared) (us : List Value) (u : Value), K.In s.heap → us.length = m → BindsTo s fd ⟨us, [(y, u)]⟩ (ps.zip (us ++ [u]))
def MetOk (P : Program) (w : World) (K : PySem.W.Frag) (mg : Str → Option Value) (base : Heap) (A : Around) (Z : Zt) (G : Pg) (C : Nat → List Wv → Mem → Out Wv) (m : Str) (dws : List Wv) : Prop :=
  ∀ c k i, G.cls c = some k → k.meths.lookup m = some i → ∃ f, Cls K (Z.cls c) ∧ Meth K (Z.cls c) m f ∧ Cal P w K mg base A Z (C i) f dws
theorem metW_at {x : Wv} {v : V} {m : Str} {i : Nat} (R : RM Z ι M H) (hx : WR Z ι H x v) (h : metW G m x M = some i) : ∃ c a dx vs kk, v = .ref a ∧ G.cls c = some kk ∧ kk.meths.lookup m = some i ∧ H a = some (.ins (Z.cls c) dx vs) ∧ vs.lookup m = none := by
  cases hx with
  | ref hl =>
    rename_i l a
    cases hM : M[l]? with
    | none => simp [metW, hM] at h
    | some o =>
      cases o with
      | ins c fs =>
        cases hc : G.cls c with
        | none => simp [metW, hM, hc] at h
        | some kk =>
          cases hm : kk.meths.lookup m with
          | none => simp [metW, hM, hc, hm] at h
          | some i' =>
            by_cases hn : fs.lookup m = none
            · simp [metW, hM, hc, hm, hn] at h
              subst h
              obtain ⟨dx, vs, h1, h2⟩ := R.ob _ _ _ hM hl
              exact ⟨c, a, dx, vs, kk, rfl, hc, hm, h1, h2.look.2 hn⟩
            · simp [metW, hM, hc, hm, hn] at h
      | lst ws' => simp [metW, hM] at h
      | dct ws' => simp [metW, hM] at h
  | _ => cases h
theorem e_meth {pl : Sem Bool} (k : Bx X Z Wx G) {m : Str} {dws : List Wv} (mo : MetOk X.prog X.w X.K X.mg X.base X.A Z G C m dws) (ho : PE X a (TEx Z Wx G C C1 ea)) (ha : PA X (e :: es) (TAx Z Wx G C C1 el))
    (hst : starEach (e :: es) X.env = (false, eval e X.env) :: starEach es X.env := by rfl) (hpl : (backTo pos (starEach es X.env)).any (·.1) = false := by rfl)
    (ht : eval (.Call (.Attribute a m apos) (e :: es) [] pos) X.env = (do
      let ov ← eval a X.env
      standAt apos.atName
      let (f, first) ← holding [ov] (getMethod ov m pl)
      callWith pos f first (backTo pos (starEach (e :: es) X.env)) (backToKw pos (keywordEach [] X.env))) := by rfl) :
    PE X (.Call (.Attribute a m apos) (e :: es) [] pos) (TEx Z Wx G C C1 (.meth m ea el dws)) := by
  refine ⟨fun pins s σ H Q I ⟨ι, sw, M, sr, R, h⟩ => ?_⟩
  simp only [evE] at h
  refine PySem.W.methodCall_KW (pl := pl) (thn (ho.run pins s σ H (fun v H1 => ∃ ι1 M1 x i, RM Z ι1 M1 H1 ∧ SR Z ι1 H1 sw σ ∧ WR Z ι1 H1 x v ∧ metW G m x M1 = some i ∧ eOut Z Wx σ ι1 H1 ((evL G C C1 el sw M1).bind fun ws M => C i (x :: (ws ++ dws)) M) Q) I
    (tE.seqE sr R h fun x M1 v H1 ι1 e1 R1 q1 s1 h1 => by
      obtain ⟨i, ei, h1⟩ := h1.ofOb
      exact ⟨ι1, M1, x, i, R1, s1, q1, ei, h1⟩)) fun u s1 ⟨v, H1, I1, rx, ι1, M1, x, i, R1, sr1, q1, ei, h1⟩ => ?_) ht
  obtain ⟨c, aa, dx, vs, kk, rfl, g1, g2, g3, g4⟩ := metW_at R1 q1 ei
  obtain rfl : u = Value.ref aa := rx
  obtain ⟨f, c1, c2, cc⟩ := mo c kk i g1 g2
  refine getmeth_ok I1 g3 c1 c2 g4 ?_
  refine PySem.W.callWith_K (first := [.ref aa]) (h₀ := X.base) I.ok.mod.kin c2.kp (thn (ha.run pos pins s1 σ H1 (fun vs H2 => ∃ ι2 M2 ws, RM Z ι2 M2 H2 ∧ WsR Z ι2 H2 (x :: ws) (.ref aa :: vs) ∧ eOut Z Wx σ ι2 H2 (C i (x :: ws ++ dws) M2) Q) I1
    (tA.seqE sr1 R1 h1 fun ws M2 vs H2 ι2 e2 R2 q2 s2 h2 => ⟨ι2, M2, ws, R2, .cons (q1.mono e2.le) q2, h2⟩)) fun us s2 ⟨vs, H2, I2, r, ι2, M2, ws, R2, q2, h2⟩ => ⟨I2.kIn, ?_⟩) hst hpl
  exact run_calD (us := .ref aa :: us) (vs := .ref aa :: vs) k cc I2 (.cons rfl r) R2 q2 h2
structure MakOk (P : Program) (w : World) (K : PySem.W.Frag) (mg : Str → Option Value) (base : Heap) (A : Around) (Z : Zt) (G : Pg) (C1 : Nat → List Wv → Mem → Out Wv) (x : Str) (c : Nat) : Prop where
  ex : ∃ kk f n fd ps, G.cls c = some kk ∧ mg x = some (.ref (Z.cls c)) ∧ Mk K (Z.cls c) f ∧ FnG P w K mg base n f fd ps (spI Z (C1 kk.init)) ∧ Room (n + 1) A ∧ Binds K fd ps []
theorem run_mak (k : Bx X Z Wx G) {x : Str} {c : Nat} {ws : List Wv} {us : List Value} {vs : List V} {ι : List Addr} (mk : MakOk X.prog X.w X.K X.mg X.base X.A Z G C1 x c) (I : L2.Inv X pins σ H s) (rv : Vals vs us) (R : RM Z ι M H) (wr : WsR Z ι H ws vs)
    (h : eOut Z Wx σ ι H (newW G C1 c ws M) Q) : wpAny (model X.prog X.w) X.A (call (.ref (Z.cls c)) us) (EP X pins σ Q) X.xe s := by
  obtain ⟨kk, f, n, fd, ps, hc, hm, mk, Fn, hr, hb⟩ := mk.ex
  have h : eOut Z Wx σ ι H ((C1 kk.init (.ref M.length :: ws) (M ++ [.ins c []])).bind fun w M' => .chk (decide (w = .non)) (.ok (.ref M.length) M')) Q := by
    unfold newW at h
    rw [hc] at h
    exact h
  -- the new instance
  have f1 : H s.heap.objs.size = none := I.hok.fresh (Nat.le_refl _)
  have f2 : H (s.heap.objs.size + 1) = none := I.hok.fresh (Nat.le_succ _)
  have ne : s.heap.objs.size + 1 ≠ s.heap.objs.size := Nat.ne_of_gt (Nat.lt_succ_self _)
  have I2 := Inv.made (C := Z.cls c) I
  have x1 : Ext ι ι H (upd H s.heap.objs.size (.own (s.heap.objs.size + 1))) := Ext.fresh ι f1
  have R1 : RM Z ι M (upd H s.heap.objs.size (.own (s.heap.objs.size + 1))) := R.fresh f1
  have f3 : upd H s.heap.objs.size (.own (s.heap.objs.size + 1)) (s.heap.objs.size + 1) = none := by rw [upd_ne ne]; exact f2
  have x2 : Ext ι (ι ++ [s.heap.objs.size + 1]) (upd H s.heap.objs.size (.own (s.heap.objs.size + 1))) (upd (upd H s.heap.objs.size (.own (s.heap.objs.size + 1))) (s.heap.objs.size + 1) (.ins (Z.cls c) s.heap.objs.size [])) := Ext.alloc ι f3
  have R2 : RM Z (ι ++ [s.heap.objs.size + 1]) (M ++ [.ins c []]) (upd (upd H s.heap.objs.size (.own (s.heap.objs.size + 1))) (s.heap.objs.size + 1) (.ins (Z.cls c) s.heap.objs.size [])) := R1.alloc f3 ⟨s.heap.objs.size, [], upd_same, .nil⟩
  have x3 := x1.trans x2
  have wr2 : WsR Z (ι ++ [s.heap.objs.size + 1]) (upd (upd H s.heap.objs.size (.own (s.heap.objs.size + 1))) (s.heap.objs.size + 1) (.ins (Z.cls c) s.heap.objs.size [])) (.ref M.length :: ws) (.ref (s.heap.objs.size + 1) :: vs) := .cons (.ref (snoc_ix R1 _)) (wr.mono x3.le)
  have r2 : Vals (V.ref (s.heap.objs.size + 1) :: vs) (Value.ref (s.heap.objs.size + 1) :: us) := .cons rfl rv
  have h2 : eOut Z Wx σ (ι ++ [s.heap.objs.size + 1]) (upd (upd H s.heap.objs.size (.own (s.heap.objs.size + 1))) (s.heap.objs.size + 1) (.ins (Z.cls c) s.heap.objs.size [])) (C1 kk.init (.ref M.length :: ws) (M ++ [.ins c []])) (fun v H2 => v = .non ∧ Q (.ref (s.heap.objs.size + 1)) H2) := by
    have h3 := h.shift x3
    cases e : C1 kk.init (.ref M.length :: ws) (M ++ [.ins c []]) with
    | ok w M3 =>
      rw [e] at h3
      obtain ⟨qn, h3⟩ := eOut.chk h3
      have qn := of_decide_eq_true qn
      subst qn
      intro v H4 ι4 x4 R4 q4
      cases q4
      exact ⟨rfl, h3 _ H4 ι4 x4 R4 (.ref (x4.le.ix _ _ (snoc_ix R1 _)))⟩
    | exc q M3 => rw [e] at h3; exact h3
    | bad => rw [e] at h3; exact h3
  have hl : (Value.ref (s.heap.objs.size + 1) :: us).length = ps.length := by rw [← r2.length]; exact call_len Fn R2 wr2 h2
  have hb2 := hb _ (Value.ref (s.heap.objs.size + 1) :: us) I2.kIn (by rw [List.append_nil]; exact hl)
  rw [List.append_nil] at hb2
  refine wpAny_call (make_map (f := f) I.kIn mk.makes mk.init (beq_iff_eq.mp mk.fn) (codeAny_mono (Fn.go _ X.stack _ _ ⟨Value.ref (s.heap.objs.size + 1) :: us, []⟩ (Value.ref (s.heap.objs.size + 1) :: us) _ (fun v H2 => v = .non ∧ Q (.ref (s.heap.objs.size + 1)) H2) (WE (wxO Z Wx) σ) (make_guards k.gd) (hr.make (Z.cls c) us [])
    (I2.env0.make (Z.cls c) us []) hb2 r2 ⟨_, _, _, R2, wr2, ?_⟩) fun r s' hq' => ?_))
  · cases e : C1 kk.init (.ref M.length :: ws) (M ++ [.ins c []]) with
    | ok w M1 => rw [e] at h2; exact h2
    | exc q M1 => rw [e] at h2; exact fun H' ι' x R => ⟨rfl, q, rfl, h2 H' ι' x R⟩
    | bad => rw [e] at h2; exact h2
  · cases r with
    | error e => exact passAt k.tk σ pins _ _ e s' I2 hq'
    | ok fl =>
      cases fl with
      | ret u =>
        obtain ⟨v, H', I3, rv, ev, q3⟩ := I2.after hq'
        subst ev
        exact ⟨rv, ⟨V.ref (s.heap.objs.size + 1), H', I3, rfl, q3⟩⟩
      | next => exact False.elim hq'
      | brk => exact False.elim hq'
      | cont => exact False.elim hq'
theorem e_new (k : Bx X Z Wx G) {x : Str} {c : Nat} (mk : MakOk X.prog X.w X.K X.mg X.base X.A Z G C1 x c) (ha : PA X (e :: es) (TAx Z Wx G C C1 el)) (hg : gloB X.env x = true := by kernel_rfl)
    (he : starEach (e :: es) X.env = (false, eval e X.env) :: starEach es X.env := by rfl) (hpl : (backTo pos (starEach es X.env)).any (·.1) = false := by rfl) : PE X (.Call (.Name x p) (e :: es) [] pos) (TEx Z Wx G C C1 (.new c el)) := by
  obtain ⟨h1, h2, h3⟩ := gloB_ok hg
  obtain ⟨kk, f, n, fd, ps, hc, hm, mk', _⟩ := mk.ex
  refine ⟨fun pins s σ H Q I ⟨ι, sw, M, sr, R, h⟩ => ?_⟩
  simp only [evE] at h
  refine wpAny_Call_Name_kw (ld_glob I h1 hm ?_ h2)
  refine PySem.W.callWith_K (h₀ := X.base) I.ok.mod.kin mk'.kp (thn (ha.run pos pins s σ H (fun vs H1 => ∃ ι1 M1 ws, RM Z ι1 M1 H1 ∧ WsR Z ι1 H1 ws vs ∧ eOut Z Wx σ ι1 H1 (newW G C1 c ws M1) Q) I (tA.seqE sr R h fun ws M1 vs H1 ι1 e1 R1 q1 s1 h1 => ⟨ι1, M1, ws, R1, q1, h1⟩)) fun us s1 ⟨vs, H1, I1, r, ι1, M1, ws, R1, q1, h1⟩ => ⟨I1.kIn, ?_⟩) he hpl
  exact run_mak k mk I1 r R1 q1 h1
end
end MP
end
section
set_option Elab.async false
set_option linter.all false
set_option maxRecDepth 100000
namespace MP
open PySem PySem.Spec PyProof.Rows L2
def ItK (d : Addr) (o : Obj) (es : Array DictEntry) : L2.It :=
  ⟨fun i H => H d = some (lkO true d o) ∧ ∃ en x, es[i]? = some en ∧ RelV x en.key, fun i H x H' => H' = H ∧ ∃ en, es[i]? = some en ∧ RelV x en.key, fun i H => H d = some (lkO true d o) ∧ es.size ≤ i⟩
def ItI (d : Addr) (o : Obj) (es : Array DictEntry) : L2.It :=
  ⟨fun i H => H d = some (lkO true d o) ∧ ∃ en x y, es[i]? = some en ∧ RelV x en.key ∧ RelV y en.val, fun i H x H' => ∃ T en k v, es[i]? = some en ∧ RelV k en.key ∧ RelV v en.val ∧ x = .ref T ∧ H T = none ∧ H' = upd H T (.tup [k, v]), fun i H => H d = some (lkO true d o) ∧ es.size ≤ i⟩
section
variable {P : Program} {w : World} {K : PySem.W.Frag} {tg : Expr} {d : Addr} {o : Obj} {es : Array DictEntry} {ep : Nat}
theorem es_at {i : Nat} {en : DictEntry} (h : es[i]? = some en) : ∃ hi : i < es.size, es[i] = en := by
  obtain ⟨hi, e⟩ := Array.getElem?_eq_some_iff.mp h
  exact ⟨hi, e⟩
theorem turnK (it : Addr) (hx : o.ExactDict) (hod : o.data = .dict es ep) : Turn P w K tg (ItK d o es) [it] it (fun i h => h.IsKeyIter it d i es.size ep) where
  mem := by simp
  obj := fun i h st b hb => by
    have e : b = it := by simpa using hb
    subst e
    obtain ⟨oi, e, c, dd⟩ := st
    exact ⟨oi, e, fun v z => by rw [dd] at z; cases z⟩
  keep := fun i h h' st k => st.at fun oi e => k it (by simp) oi e
  item := by
    intro X hP hw hK hc i pins s σ H E I hf st hg
    subst hP hw hK
    obtain ⟨hd, en, x, hen, rx⟩ := hg
    obtain ⟨f0, f1, f2, f3, f4, f5⟩ := hf it (by simp)
    have hgd := MP.Inv.dctO I hd
    obtain ⟨hi, rfl⟩ := es_at hen
    refine wpAny_pyNext_keys_item_raw st ⟨o, hgd, hx, hod⟩ hi fun h' st' sb => ?_
    have I1 : L2.Inv X pins σ H { s with heap := h' } := I.turned (t' := s.toks) (fun b ob hb e => (sb.2 b hb).trans e) f0 f1 f3 f4 f5
    obtain ⟨oi, e, c, dd⟩ := id st'
    exact ⟨_, rfl, go_of (s := { s with heap := h' }) e c dd (by decide) ⟨x, H, I1, rx, ⟨rfl, _, hen, rx⟩, st', fun b hb => (hf b hb).1⟩⟩
  done := by
    intro X hP hw hK hc i pins s σ H E I hf st hg
    subst hP hw hK
    obtain ⟨hd, hi⟩ := hg
    obtain ⟨f0, f1, f2, f3, f4, f5⟩ := hf it (by simp)
    have hgd := MP.Inv.dctO I hd
    exact wpAny_pyNext_keys_end_raw (I.ok.hd hc) st ⟨o, hgd, hx, hod⟩ hi fun h' eb => ⟨rfl, I.turned (t' := s.toks) (fun b ob hb e => eb b ob hb e) f0 f1 f3 f4 f5⟩
  self := fun A i s Q E st h => wpAny_pyIter_keyiter st h
theorem turnI {elts : List Expr} {kk : Nat} {tpos : Pos} (it : Addr) (hx : o.ExactDict) (hod : o.data = .dict es ep) : Turn P w K (.Tuple elts kk tpos) (ItI d o es) [it] it (fun i h => ∃ ok ov, IsItemIter h it d i es.size ep ok ov) where
  mem := by simp
  obj := fun i h st b hb => by
    have e : b = it := by simpa using hb
    subst e
    obtain ⟨ok, ov, e⟩ := st
    exact ⟨_, e, fun v z => nomatch z⟩
  keep := fun i h h' st k => let ⟨ok, ov, e⟩ := st; ⟨ok, ov, k it (by simp) _ e⟩
  item := by
    intro X hP hw hK hc i pins s σ H E I hf st hg
    subst hP hw hK
    obtain ⟨hd, en, x, y, hen, rx, ry⟩ := hg
    have hgd := MP.Inv.dctO I hd
    obtain ⟨hi, rfl⟩ := es_at hen
    obtain ⟨ok, ov, he⟩ := st
    have hlt : it < s.heap.objs.size := Heap.lt_size he
    refine wpAny_pyNext_items_item_raw he ⟨o, hgd, hx, hod⟩ hi fun h' ho hT hz hk => ?_
    refine ⟨_, rfl, wpAny_letOwnedTupleGo_items (s := { s with heap := h' }) ho fun h'' he' sb => ?_⟩
    have hT2 : h''.get? s.heap.objs.size = some { cls := .type "tuple", data := .seq #[es[i].key, es[i].val] } := (sb.2 _ (Nat.ne_of_gt hlt)).trans hT
    have new : ObjOk X.prog X.w (upd H s.heap.objs.size (.tup [x, y])) h'' s.heap.objs.size (.tup [x, y]) :=
      ⟨by show 2 ≤ sizeLine; decide, [es[i].key, es[i].val], .cons rx (.cons ry .nil), ⟨_, hT2, rfl, _, rfl⟩⟩
    have I1 : L2.Inv X pins σ (upd H s.heap.objs.size (.tup [x, y])) { s with heap := h'' } :=
      I.turnedNew (t' := s.toks) (ch := [it]) (fun b ob hb e => (sb.2 b (by simpa using hb)).trans (hk b ob (by simpa using hb) e)) hf (Nat.le_refl _) new
    refine ⟨.ref s.heap.objs.size, _, I1, rfl, ⟨_, _, x, y, hen, rx, ry, rfl, I.hok.fresh (Nat.le_refl _), rfl⟩, ⟨_, _, he'⟩, fun b hb => ?_⟩
    have e : b = it := by simpa using hb
    rw [e, upd_ne (Nat.ne_of_lt hlt)]
    exact (hf it (by simp)).1
  done := by
    intro X hP hw hK hc i pins s σ H E I hf st hg
    subst hP hw hK
    obtain ⟨hd, hi⟩ := hg
    obtain ⟨f0, f1, f2, f3, f4, f5⟩ := hf it (by simp)
    have hgd := MP.Inv.dctO I hd
    obtain ⟨ok, ov, he⟩ := st
    exact wpAny_pyNext_items_end_raw (I.ok.hd hc) he ⟨o, hgd, hx, hod⟩ hi fun h' eb => ⟨rfl, I.turned (t' := s.toks) (fun b ob hb e => eb b ob hb e) f0 f1 f3 f4 f5⟩
  self := fun A i s Q E st h => let ⟨_, _, e⟩ := st; PySem.W.kcp_self e h
end
def ulH (dl : Option (Addr × Obj)) (H : Hp) : Hp := match dl with
  | none => H
  | some (d, o) => upd H d (DctO d o)
def UlOk (X : Cx) (dl : Option (Addr × Obj)) (H : Hp) : Prop := match dl with
  | none => True
  | some (d, o) => H d = some (lkO true d o) ∧ ∀ o' u', X.H_0 d ≠ some (.frz o' u')
def lkW (X : Cx) (Wx : Wish) : Wish := fun c σ H => ∃ dl, UlOk X dl H ∧ Wx c σ (ulH dl H)
theorem inv_ul {X : Cx} {pins : List (Addr × Obj)} {σ : L2.St} {H : Hp} {s : Shared} {dl : Option (Addr × Obj)} (I : L2.Inv X pins σ H s) (u : UlOk X dl H) : L2.Inv X pins σ (ulH dl H) s := by
  cases dl with
  | none => exact I
  | some p => exact I.unlock u.1 u.2
theorem takes_lk {X : Cx} {Z : Zt} {Wx : Wish} (tk : Takes X (wxO Z Wx)) : Takes X (wxO Z (lkW X Wx)) := fun u s' ⟨a, B, sI, pins, σ, H, cls, d, e, I, nb, up, sky, na, os, ag, dn, c, ec, dl, uo, w⟩ => by
  refine tk u s' ⟨a, B, sI, pins, σ, ulH dl H, cls, d, e, inv_ul I uo, nb, up, sky, ?_, os, ag, dn, c, ec, w⟩
  cases dl with
  | none => exact na
  | some p =>
    have ne : a ≠ p.1 := fun z => by
      have := uo.1
      rw [← z, na] at this
      cases this
    show upd H p.1 (DctO p.1 p.2) a = none
    rw [upd_ne ne]
    exact na
theorem Bx.lk {X : Cx} {Z : Zt} {Wx : Wish} {G : Pg} (k : Bx X Z Wx G) : Bx X Z (lkW X Wx) G := ⟨k.toXOk, k.hS, k.nd, takes_lk k.tk⟩
def LkS (X : Cx) (Z : Zt) (ι : List Addr) (H : Hp) (ps : List (Nat × Ob)) (dl : Option (Addr × Obj)) : Prop := match dl with
  | none => ∀ M, lockM ps M = M ∧ unlkM ps M = M
  | some (d, o) => ∃ l kvs, ps = [(l, .dct false kvs)] ∧ ι[l]? = some d ∧ DctR Z ι H d true kvs ∧ H d = some (lkO true d o) ∧ ∀ o' u', X.H_0 d ≠ some (.frz o' u')
structure Lk (X : Cx) (Z : Zt) (ι ι1 : List Addr) (H H1 : Hp) (M : Mem) (ps : List (Nat × Ob)) (dl : Option (Addr × Obj)) : Prop where
  ext : Ext ι ι1 H (ulH dl H1)
  rm : RM Z ι1 (lockM ps M) H1
  lk : LkS X Z ι1 H1 ps dl
section
variable {X : Cx} {Z : Zt} {ι ι1 ι2 : List Addr} {H H1 H2 : Hp} {M M2 : Mem} {ps : List (Nat × Ob)} {dl : Option (Addr × Obj)}
theorem Lk.le (L : Lk X Z ι ι1 H H1 M ps dl) : Le ι ι1 H H1 := by
  cases dl with
  | none => exact L.ext.le
  | some p =>
    obtain ⟨l, kvs, e, hl, D, hd, nf⟩ := L.lk
    refine ⟨L.ext.le.ix, fun a o h i => ?_⟩
    have := L.ext.le.imm a o h i
    have ne : a ≠ p.1 := fun z => by
      rw [z] at this
      have e2 : upd H1 p.1 (DctO p.1 p.2) p.1 = some o := this
      rw [upd_same] at e2
      cases e2
      exact lkO_noI false p.1 p.2 i
    have e2 : upd H1 p.1 (DctO p.1 p.2) a = some o := this
    rw [upd_ne ne] at e2
    exact e2
theorem Lk.un (L : Lk X Z ι ι1 H H1 M ps dl) (e : Ext ι1 ι2 H1 H2) (R : RM Z ι2 M2 H2) : Ext ι ι2 H (ulH dl H2) ∧ RM Z ι2 (unlkM ps M2) (ulH dl H2) ∧ Le ι2 ι2 H2 (ulH dl H2) ∧ UlOk X dl H2 := by
  cases dl with
  | none =>
    rw [(L.lk M2).2]
    exact ⟨L.ext.trans e, R, (Ext.refl ι2 H2).le, trivial⟩
  | some p =>
    obtain ⟨d, o⟩ := p
    obtain ⟨l, kvs, ep, hl, D, hd, nf⟩ := L.lk
    have hd2 : H2 d = some (lkO true d o) := e.frz d o _ hd
    have hl2 : ι2[l]? = some d := e.le.ix l d hl
    have hlt : l < M2.length := by rw [← R.len]; exact (List.getElem?_eq_some_iff.mp hl2).1
    have hM2 : M2[l]? = some M2[l] := by simp [hlt]
    have le2 : Le ι2 ι2 H2 (upd H2 d (DctO d o)) := Le.write R hl2
    refine ⟨?_, ?_, le2, hd2, nf⟩
    · obtain ⟨κ, rfl, hκ⟩ := L.ext.pre
      obtain ⟨κ2, rfl, hκ2⟩ := e.pre
      have E := L.ext
      refine ⟨⟨κ ++ κ2, by simp, fun x hx => ?_⟩, fun x q h nt hx => ?_, fun x ob φ h => ?_, fun x h => ?_⟩
      · rcases List.mem_append.mp hx with z | z
        · exact hκ x z
        · refine E.dom x ?_
          have h1 := hκ2 x z
          have ne : x ≠ d := fun z => by rw [z] at h1; exact h1 _ hd (lkO_noT true d o)
          intro q e n
          have e : upd H1 d (DctO d o) x = some q := e
          rw [upd_ne ne] at e
          exact h1 q e n
      · have h1 : upd H1 d (DctO d o) x = some q := E.frm x q h nt hx
        show upd H2 d (DctO d o) x = some q
        by_cases hxd : x = d
        · rw [hxd, upd_same] at h1 ⊢; exact h1
        · rw [upd_ne hxd] at h1 ⊢
          refine e.frm x q h1 nt ?_
          rcases hx with z | z
          · refine .inl fun hm => ?_
            rcases List.mem_append.mp hm with y | y
            · exact z y
            · exact hκ x y q h nt
          · exact .inr z
      · have h1 : upd H1 d (DctO d o) x = some (.frz ob (.ext φ)) := E.frz x ob φ h
        show upd H2 d (DctO d o) x = some (.frz ob (.ext φ))
        by_cases hxd : x = d
        · rw [hxd, upd_same] at h1; cases h1
        · rw [upd_ne hxd] at h1 ⊢
          exact e.frz x ob φ h1
      · have h : Vac (upd H2 d (DctO d o)) x := h
        have hxd : x ≠ d := fun z => by rw [z] at h; exact h.upd_self (lkO_noT false d o)
        have h1 := e.dom x (h.upd_ne hxd)
        refine E.dom x fun q e n => ?_
        have e : upd H1 d (DctO d o) x = some q := e
        rw [upd_ne hxd] at e
        exact h1 q e n
    · rw [ep]
      show RM Z ι2 (M2.set l (.dct false kvs)) (upd H2 d (DctO d o))
      refine R.write hM2 hl2 hd2 (lkO_noT true d o) (fun q z => by cases z) ?_
      obtain ⟨o', es', ep', h1, h2, h3, h4, h5, h6, h7, h8⟩ := D
      have eo : o' = o := by rw [hd] at h1; cases h1; rfl
      subst eo
      have le12 : Le ι1 ι2 H1 (upd H2 d (DctO d o')) := ⟨fun l a h => e.le.ix l a h, fun a q h i => le2.imm a q (e.le.imm a q h i) i⟩
      exact ⟨o', es', ep', upd_same, h2, h3, h4, h5, h6, h7, L2.Paired.mapP h8 fun _ _ z => z.mono le12⟩
theorem LkS.nil : LkS X Z ι H [] none := fun M => ⟨rfl, rfl⟩
theorem LkS.lst {l : Nat} {ws : List Wv} : LkS X Z ι H [(l, .lst ws)] none := fun M => ⟨rfl, rfl⟩
theorem LkS.old {l : Nat} {kvs : List (Wv × Wv)} : LkS X Z ι H [(l, .dct true kvs)] none := fun M => ⟨rfl, rfl⟩
theorem Lk.none (R : RM Z ι M H) (h : LkS X Z ι H ps none) : Lk X Z ι ι H H M ps none := ⟨Ext.refl ι H, by rw [(h M).1]; exact R, h⟩
theorem Lk.new {pins : List (Addr × Obj)} {σ : L2.St} {s : Shared} {l : Nat} {a : Addr} {kvs : List (Wv × Wv)} (I : L2.Inv X pins σ H s) (R : RM Z ι M H) (hM : M[l]? = some (.dct false kvs)) (hl : ι[l]? = some a) :
    ∃ o es ep, o.ExactDict ∧ o.data = .dict es ep ∧ (a == sysModules) = false ∧ L2.Inv X pins σ (upd H a (lkO true a o)) s ∧ Lk X Z ι ι H (upd H a (lkO true a o)) M [(l, .dct false kvs)] (some (a, o)) ∧ Paired (EnR Z ι (upd H a (lkO true a o))) kvs es.toList := by
  obtain ⟨o, es, ep, h1, h2, h3, h4, h5, h6, h7, h8⟩ := R.ob _ _ _ hM hl
  have h1 : H a = some (DctO a o) := h1
  obtain ⟨od, I2⟩ := I.lock h1 trivial
  have eo : od = o := by
    have q1 := MP.Inv.dctO (z := false) I h1
    have q2 := (I2.hok a _ upd_same).1
    rw [q1] at q2
    exact (Option.some.inj q2).symm
  subst eo
  have le : Le ι ι H (upd H a (lkO true a od)) := Le.write R hl
  have D : DctR Z ι (upd H a (lkO true a od)) a true kvs := ⟨od, es, ep, upd_same, h2, h3, h4, h5, h6, h7, L2.Paired.mapP h8 fun _ _ z => z.mono le⟩
  have nf := I.nofrz h1 trivial
  have back : upd (upd H a (lkO true a od)) a (DctO a od) = H := by
    funext b
    by_cases hb : b = a
    · rw [hb, upd_same, h1]
    · rw [upd_ne hb, upd_ne hb]
  refine ⟨od, es, ep, h2, h3, h4, I2, ⟨?_, ?_, l, kvs, rfl, hl, D, upd_same, nf⟩, L2.Paired.mapP h8 fun _ _ z => z.mono le⟩
  · show Ext ι ι H (upd (upd H a (lkO true a od)) a (DctO a od))
    rw [back]
    exact Ext.refl ι H
  · show RM Z ι (M.set l (.dct true kvs)) (upd H a (lkO true a od))
    exact R.write hM hl h1 (lkO_noT false a od) (fun q => dctO_noC od a q ⟨es, ep, h3⟩) D
end
end MP
end
section
set_option Elab.async false
set_option linter.all false
set_option maxRecDepth 100000
namespace MP
open PySem PySem.Spec PyProof.Rows L2
structure Wk (Z : Zt) (ι0 : List Addr) (H0 : Hp) (J : L2.It) (xs : List Wv) (ps : List (Nat × Ob)) : Prop where
  go : ∀ i ι H M, Ext ι0 ι H0 H → RM Z ι M H → stays ps M = true → i < xs.length → J.go i H
  yld : ∀ i ι H M x H', Ext ι0 ι H0 H → RM Z ι M H → stays ps M = true → i < xs.length → J.yld i H x H' → ∃ w, xs[i]? = some w ∧ Ext ι ι H H' ∧ RM Z ι M H' ∧ WR Z ι H' w x
  stop : ∀ ι H M, Ext ι0 ι H0 H → RM Z ι M H → stays ps M = true → J.stop xs.length H
def iOut (X : Cx) (Z : Zt) (Wx : Wish) (σ : L2.St) (ι : List Addr) (H : Hp) (r : Out (List Wv × List (Nat × Ob))) (R : L2.It → Hp → Prop) : Prop := match r with
  | .ok (xs, ps) M => ∀ J H1 ι1 dl, Lk X Z ι ι1 H H1 M ps dl → Wk Z ι1 H1 J xs ps → R J H1
  | .exc c M => ∀ H' ι', Ext ι ι' H H' → RM Z ι' M H' → Wx c σ H'
  | .bad => False
def tI (X : Cx) (Z : Zt) (Wx : Wish) (f : Sw → Mem → Out (List Wv × List (Nat × Ob))) : TI := fun σ H R => ∃ ι sw M, SR Z ι H sw σ ∧ RM Z ι M H ∧ iOut X Z Wx σ ι H (f sw M) R
theorem _root_.L2.PI.weak {X : Cx} {tg e : Expr} {t t' : TI} (h : PI X tg e t) (w : ∀ σ H Q, t' σ H Q → t σ H Q) : PI X tg e t' := ⟨fun pins s σ H R I q => h.run pins s σ H R I (w σ H R q)⟩
section
variable {X : Cx} {Z : Zt} {Wx : Wish} {G : Pg} {C C1 : Nat → List Wv → Mem → Out Wv} {a b c e tg : Expr} {es : List Expr} {ea eb ec : Ex} {el : El} {pos p p2 p3 apos : Pos}
variable {pins : List (Addr × Obj)} {σ : L2.St} {H H1 : Hp} {s : Shared} {ι ι1 : List Addr} {M : Mem} {sw : Sw}
theorem Lk.pre (x : Ext ι ι1 H H1) {ι2 : List Addr} {H2 : Hp} {ps : List (Nat × Ob)} {dl : Option (Addr × Obj)} (L : Lk X Z ι1 ι2 H1 H2 M ps dl) : Lk X Z ι ι2 H H2 M ps dl := ⟨x.trans L.ext, L.rm, L.lk⟩
theorem iOut.shift {r : Out (List Wv × List (Nat × Ob))} {R : L2.It → Hp → Prop} (x : Ext ι ι1 H H1) (h : iOut X Z Wx σ ι H r R) : iOut X Z Wx σ ι1 H1 r R := by
  cases r with
  | ok w M' => exact fun J H2 ι2 dl L W => h J H2 ι2 dl (L.pre x) W
  | exc c M' => exact fun H' ι' y R => h H' ι' (x.trans y) R
  | bad => exact h
theorem tE.seqI {f : Fv} {g : Wv → Mem → Out (List Wv × List (Nat × Ob))} {Q : L2.It → Hp → Prop} {R : VK} (s : SR Z ι H sw σ) (R0 : RM Z ι M H) (h : iOut X Z Wx σ ι H ((f sw M).bind g) Q)
    (hk : ∀ w M1 v H1 ι1, Ext ι ι1 H H1 → RM Z ι1 M1 H1 → WR Z ι1 H1 w v → SR Z ι1 H1 sw σ → iOut X Z Wx σ ι1 H1 (g w M1) Q → R v H1) : tE Z Wx f σ H R := by
  refine ⟨ι, sw, M, s, R0, ?_⟩
  cases e : f sw M with
  | ok w M1 =>
    rw [e] at h
    exact fun v H' ι' x R q => hk w M1 v H' ι' x R q (s.mono x.le) (h.shift x)
  | exc c M1 => rw [e] at h; exact h
  | bad => rw [e] at h; exact h
theorem iOut.ofO {α : Type} {o : Option α} {g : α → Mem → Out (List Wv × List (Nat × Ob))} {Q : L2.It → Hp → Prop} (h : iOut X Z Wx σ ι H ((Out.ofO o M).bind g) Q) : ∃ w, o = some w ∧ iOut X Z Wx σ ι H (g w M) Q := by
  cases o with
  | some w => exact ⟨w, rfl, h⟩
  | none => exact False.elim h
theorem iOut.ofO1 {o : Option (List Wv × List (Nat × Ob))} {Q : L2.It → Hp → Prop} (h : iOut X Z Wx σ ι H (Out.ofO o M) Q) : ∃ w, o = some w ∧ iOut X Z Wx σ ι H (.ok w M) Q := by
  cases o with
  | some w => exact ⟨w, rfl, h⟩
  | none => exact False.elim h
theorem wk_tup {ws : List Wv} {vs : List V} {a : Addr} (hs : SqT Z.K H a vs) (ht : WsR Z ι H ws vs) : Wk Z ι H (Itt Z.K a) ws [] := by
  have hl := ht.length
  refine ⟨fun i ι' H' M' x R st hi => ?_, fun i ι' H' M' v H2 x R st hi y => ?_, fun ι' H' M' x R st => ?_⟩
  · exact ⟨vs, vs[i], x.le.sqT hs, by simp⟩
  · obtain ⟨rfl, y⟩ := y
    have := y vs (x.le.sqT hs)
    obtain ⟨w, h1, h2⟩ := ht.get2 this
    exact ⟨w, h1, Ext.refl _ _, R, h2.mono x.le⟩
  · exact ⟨vs, x.le.sqT hs, by omega⟩
theorem wk_scr {a : Addr} (hs : ScR Z.K H a (Z.S.map V.int)) : Wk Z ι H (Itl Z.K a) (Z.S.map .int) [] := by
  refine ⟨fun i ι' H' M' x R st hi => ?_, fun i ι' H' M' v H2 x R st hi y => ?_, fun ι' H' M' x R st => ?_⟩
  · have hi : i < (Z.S.map V.int).length := by simpa using hi
    exact ⟨_, (Z.S.map V.int)[i], (x.le.scR hs).sq, by simp⟩
  · obtain ⟨rfl, y⟩ := y
    have := y _ (x.le.scR hs).sq
    obtain ⟨w, h1, h2⟩ := (WsR.ints (Z := Z) (ι := ι') (H := H2) Z.S).get2 this
    exact ⟨w, h1, Ext.refl _ _, R, h2⟩
  · exact ⟨_, (x.le.scR hs).sq, by simp⟩
theorem wk_lst {l : Nat} {a : Addr} {ws : List Wv} (hl : ι[l]? = some a) : Wk Z ι H (Itl Z.K a) ws [(l, .lst ws)] := by
  have at_ : ∀ {ι' H' M'}, Ext ι ι' H H' → RM Z ι' M' H' → stays [(l, .lst ws)] M' = true → ∃ vs, H' a = some (.lst vs) ∧ WsR Z ι' H' ws vs := fun {ι' H' M'} x R st => by
    have hM : M'[l]? = some (.lst ws) := by simpa [stays] using st
    exact R.ob _ _ _ hM (x.le.ix _ _ hl)
  refine ⟨fun i ι' H' M' x R st hi => ?_, fun i ι' H' M' v H2 x R st hi y => ?_, fun ι' H' M' x R st => ?_⟩
  · obtain ⟨vs, h1, h2⟩ := at_ x R st
    have hi : i < vs.length := by rw [← h2.length]; exact hi
    exact ⟨vs, vs[i], SqL.of h1, by simp⟩
  · obtain ⟨vs, h1, h2⟩ := at_ x R st
    obtain ⟨rfl, y⟩ := y
    obtain ⟨w, g1, g2⟩ := h2.get2 (y vs (SqL.of h1))
    exact ⟨w, g1, Ext.refl _ _, R, g2⟩
  · obtain ⟨vs, h1, h2⟩ := at_ x R st
    exact ⟨vs, SqL.of h1, by rw [h2.length]; exact Nat.le_refl _⟩
theorem wk_str (x : Str) : Wk Z ι H (Its x) (x.cps.toList.map fun c => .str ⟨#[c]⟩) [] := by
  refine ⟨fun i ι' H' M' _ R st hi => ?_, fun i ι' H' M' v H2 _ R st hi y => ?_, fun ι' H' M' _ R st => ?_⟩
  · show i < x.cps.size
    simpa using hi
  · obtain ⟨rfl, c, h1, rfl⟩ := y
    refine ⟨.str ⟨#[c]⟩, ?_, Ext.refl _ _, R, .str _⟩
    rw [List.getElem?_map, Array.getElem?_toList, h1]
    rfl
  · show x.cps.size ≤ _
    simp
theorem wk_rng (lo : Int) (n : Nat) : Wk Z ι H (Itr lo n) ((List.range n).map fun (k : Nat) => .int (lo + (k : Int))) [] := by
  refine ⟨fun i ι' H' M' _ R st hi => ?_, fun i ι' H' M' v H2 _ R st hi y => ?_, fun ι' H' M' _ R st => ?_⟩
  · show i < n
    simpa using hi
  · obtain ⟨rfl, rfl⟩ := y
    have hi : i < n := by simpa using hi
    exact ⟨.int (lo + i), by simp [hi], Ext.refl _ _, R, .int _⟩
  · show n ≤ _
    simp
theorem paired_at {α β : Type} {P : α → β → Prop} {xs : List α} {ys : List β} (h : Paired P xs ys) : ∀ {i : Nat} {y : β}, ys[i]? = some y → ∃ x, xs[i]? = some x ∧ P x y := by
  induction h with
  | nil => intro i y e; simp at e
  | cons h t ih =>
    intro i y e
    cases i with
    | zero => simp at e; subst e; exact ⟨_, rfl, h⟩
    | succ i => obtain ⟨x, h1, h2⟩ := ih (by simpa using e); exact ⟨x, by simpa using h1, h2⟩
theorem paired_fw {α β : Type} {P : α → β → Prop} {xs : List α} {ys : List β} (h : Paired P xs ys) : ∀ {i : Nat} {x : α}, xs[i]? = some x → ∃ y, ys[i]? = some y ∧ P x y := by
  induction h with
  | nil => intro i y e; simp at e
  | cons h t ih =>
    intro i y e
    cases i with
    | zero => simp at e; subst e; exact ⟨_, rfl, h⟩
    | succ i => obtain ⟨x, h1, h2⟩ := ih (by simpa using e); exact ⟨x, by simpa using h1, h2⟩
section
variable {d : Addr} {o : Obj} {ents : Array DictEntry} {kvs : List (Wv × Wv)} {ps : List (Nat × Ob)}
theorem wk_keys (hd : H d = some (lkO true d o)) (r : Paired (EnR Z ι H) kvs ents.toList) : Wk Z ι H (ItK d o ents) (kvs.map (·.1)) ps := by
  have hl : kvs.length = ents.size := by have := Paired.length r; rw [Array.length_toList] at this; exact this
  refine ⟨fun i ι' H' M' x R st hi => ?_, fun i ι' H' M' v H2 x R st hi y => ?_, fun ι' H' M' x R st => ?_⟩
  · have hi : i < kvs.length := by simpa using hi
    obtain ⟨en, h1, kv, vv, g1, g2, g3, g4, g5⟩ := paired_fw r (List.getElem?_eq_getElem hi)
    exact ⟨x.frz d o _ hd, en, kv, by rw [← Array.getElem?_toList]; exact h1, g1⟩
  · obtain ⟨rfl, en, h1, h2⟩ := y
    obtain ⟨q, h3, kv, vv, g1, g2, g3, g4, g5⟩ := paired_at r (by rw [Array.getElem?_toList]; exact h1)
    have e : v = kv := RelV.inj h2 g1
    subst e
    exact ⟨q.1, by rw [List.getElem?_map, h3]; rfl, Ext.refl _ _, R, g2.mono x.le⟩
  · exact ⟨x.frz d o _ hd, by rw [List.length_map, hl]; exact Nat.le_refl _⟩
theorem wk_items (hd : H d = some (lkO true d o)) (r : Paired (EnR Z ι H) kvs ents.toList) : Wk Z ι H (ItI d o ents) (kvs.map fun p => .tup [p.1, p.2]) ps := by
  have hl : kvs.length = ents.size := by have := Paired.length r; rw [Array.length_toList] at this; exact this
  refine ⟨fun i ι' H' M' x R st hi => ?_, fun i ι' H' M' v H2 x R st hi y => ?_, fun ι' H' M' x R st => ?_⟩
  · have hi : i < kvs.length := by simpa using hi
    obtain ⟨en, h1, kv, vv, g1, g2, g3, g4, g5⟩ := paired_fw r (List.getElem?_eq_getElem hi)
    exact ⟨x.frz d o _ hd, en, kv, vv, by rw [← Array.getElem?_toList]; exact h1, g1, g3⟩
  · obtain ⟨T, en, k, v, h1, h2, h3, rfl, hT, rfl⟩ := y
    obtain ⟨q, h4, kv, vv, g1, g2, g3, g4, g5⟩ := paired_at r (by rw [Array.getElem?_toList]; exact h1)
    have e1 : k = kv := RelV.inj h2 g1
    have e2 : v = vv := RelV.inj h3 g3
    subst e1 e2
    have ex : Ext ι' ι' H' (upd H' T (.tup [k, v])) := Ext.fresh ι' hT
    exact ⟨.tup [q.1, q.2], by rw [List.getElem?_map, h4]; rfl, ex, R.fresh hT, .tup (SqT.of upd_same) (.cons ((g2.mono x.le).mono ex.le) (.cons ((g4.mono x.le).mono ex.le) .nil))⟩
  · exact ⟨x.frz d o _ hd, by rw [List.length_map, hl]; exact Nat.le_refl _⟩
end
theorem dict_lock (k : Bx X Z Wx G) {l : Nat} {a : Addr} {z : Bool} {kvs : List (Wv × Wv)} (I : L2.Inv X pins σ H s) (R : RM Z ι M H) (hM : M[l]? = some (.dct z kvs)) (hl : ι[l]? = some a) :
    ∃ o es ep H1 dl, o.ExactDict ∧ o.data = .dict es ep ∧ (a == sysModules) = false ∧ L2.Inv X pins σ H1 s ∧ H1 a = some (lkO true a o) ∧ Lk X Z ι ι H H1 M [(l, .dct z kvs)] dl ∧ Paired (EnR Z ι H1) kvs es.toList := by
  cases z with
  | true =>
    obtain ⟨o, es, ep, h1, h2, h3, h4, h5, h6, h7, h8⟩ := R.ob _ _ _ hM hl
    exact ⟨o, es, ep, H, none, h2, h3, h4, I, h1, Lk.none R LkS.old, h8⟩
  | false =>
    obtain ⟨o, es, ep, h2, h3, h4, I2, L, r⟩ := Lk.new I R hM hl
    exact ⟨o, es, ep, _, _, h2, h3, h4, I2, upd_same, L, r⟩
theorem i_val (k : Bx X Z Wx G) (ha : PE X a (TEx Z Wx G C C1 ea)) : PI X tg a (tI X Z Wx (evI G C C1 (.val ea))) := by
  refine ⟨fun pins s σ H R I ⟨ι, sw, M, sr, R0, h⟩ => ?_⟩
  simp only [evI] at h
  refine thn (ha.run pins s σ H (fun v H1 => ∃ ι1 M1 w, RM Z ι1 M1 H1 ∧ WR Z ι1 H1 w v ∧ iOut X Z Wx σ ι1 H1 (.ofO (walkV G w M1) M1) R) I (tE.seqI sr R0 h fun w M1 v H1 ι1 e1 R1 q1 s1 h1 => ⟨ι1, M1, w, R1, q1, h1⟩)) fun v s1 ⟨x, H1, I1, rx, ι1, M1, w, R1, wr, h1⟩ => ?_
  obtain ⟨⟨xs, ps⟩, e, h1⟩ := iOut.ofO1 h1
  cases wr with
  | tup hs ht =>
    cases e
    cases rx
    obtain ⟨its, rv, pt, hz⟩ := I1.tuple (by rw [k.K]; exact hs)
    refine wpAny_pyIter_tuple (show s1.heap.IsTuple _ its.toArray from pt) (pi_one (tk := s1.toks) I1 _ (turn_tuple _ _) ⟨_, Heap.get?_push_size _ rfl, rfl, rfl⟩ (h1 _ H1 ι1 none (Lk.none R1 LkS.nil) ?_))
    have W := wk_tup hs ht
    rw [k.K]
    exact W
  | scr hs =>
    cases e
    cases rx
    obtain ⟨its, rv, pt, hz⟩ := I1.list (by rw [k.K]; exact hs.sq)
    refine wpAny_pyIter_list pt.isList (pi_one (tk := s1.toks) I1 _ (turn_list _ _) ⟨_, Heap.get?_push_size _ rfl, rfl, rfl⟩ (h1 _ H1 ι1 none (Lk.none R1 LkS.nil) ?_))
    rw [k.K, ← k.hS]
    exact wk_scr hs
  | str x =>
    cases e
    obtain ⟨t, rfl⟩ := rx
    cases ha : x.cps.all (· < 128)
    · exact wpAny_pyIter_wide ha (pi_one (tk := s1.toks) I1 _ (turn_str _ x t "str_iterator" (.inr rfl)) ⟨_, Heap.get?_push_size _ rfl, rfl, rfl⟩ (h1 _ H1 ι1 none (Lk.none R1 LkS.nil) (wk_str x)))
    · exact wpAny_pyIter_ascii ha (pi_one (tk := s1.toks) I1 _ (turn_str _ x t "str_ascii_iterator" (.inl rfl)) ⟨_, Heap.get?_push_size _ rfl, rfl, rfl⟩ (h1 _ H1 ι1 none (Lk.none R1 LkS.nil) (wk_str x)))
  | ref hl =>
    cases rx
    simp only [walkV] at e
    split at e
    · rename_i ws hM
      cases e
      obtain ⟨vs, e1, e2⟩ := R1.ob _ _ _ hM hl
      obtain ⟨its, rv, pt, hz⟩ := I1.list (SqL.of (K := X.K) e1)
      refine wpAny_pyIter_list pt.isList (pi_one (tk := s1.toks) I1 _ (turn_list _ _) ⟨_, Heap.get?_push_size _ rfl, rfl, rfl⟩ (h1 _ H1 ι1 none (Lk.none R1 LkS.lst) ?_))
      rw [k.K]
      exact wk_lst hl
    · rename_i z kvs hM
      cases e
      obtain ⟨o, es, ep, H2, dl, d1, d2, d3, I2, d4, L, r⟩ := dict_lock k I1 R1 hM hl
      have hg := MP.Inv.dctO I2 d4
      refine wpAny_pyIter_dict_raw d3 ⟨o, hg, d1, d2⟩ (pi_one (tk := s1.toks) I2 _ (turnK _ d1 d2) ⟨_, Heap.get?_push_size _ rfl, rfl, rfl⟩ (h1 _ H2 ι1 dl L (wk_keys d4 r)))
    · cases e
  | _ => cases e
theorem i_rng2 (k : Bx X Z Wx G) (hm : X.mg "range" = none) (ha : PE X a (TEx Z Wx G C C1 ea)) (hb : PE X b (TEx Z Wx G C C1 eb)) (hg : gloB X.env "range" = true := by kernel_rfl)
    (hs : starEach [a, b] X.env = [(false, eval a X.env), (false, eval b X.env)] := by rfl) (hs2 : starEach [b] X.env = [(false, eval b X.env)] := by rfl) (hs3 : starEach [a, b] X.env = (false, eval a X.env) :: starEach [b] X.env := by rfl) (hs4 : starEach [b] X.env = (false, eval b X.env) :: starEach [] X.env := by rfl) :
    PI X tg (.Call (.Name "range" p) [a, b] [] pos) (tI X Z Wx (evI G C C1 (.rng ea eb))) := by
  obtain ⟨h1, h2, h3⟩ := gloB_ok hg
  refine (pi_range2 h1 hm (a_cons ha (a_cons hb a_nil hs4) hs3) hs hs2).weak fun σ H R ⟨ι, sw, M, s, R0, h⟩ => ⟨ι, sw, M, s, R0, ?_⟩
  simp only [evI] at h
  simp only [evL]
  cases e1 : evE G C C1 ea sw M with
  | bad => rw [e1] at h; exact h
  | exc c M1 => rw [e1] at h; exact h
  | ok x M1 =>
    rw [e1] at h
    simp only [Out.bind_ok] at h ⊢
    cases e2 : evE G C C1 eb sw M1 with
    | bad => rw [e2] at h; exact h
    | exc c M2 => rw [e2] at h; exact h
    | ok y M2 =>
      rw [e2] at h
      simp only [Out.bind_ok] at h ⊢
      intro vs H' ι' x1 R1 wr
      cases hx : toI x with
      | none => simp only [hx] at h; exact False.elim h
      | some i =>
        cases hy : toI y with
        | none => simp only [hx, hy] at h; exact False.elim h
        | some j =>
          simp only [hx, hy] at h
          cases x <;> cases hx
          cases y <;> cases hy
          cases wr with
          | cons w1 t1 =>
            cases t1 with
            | cons w2 t2 =>
              cases t2
              cases w1; cases w2
              cases hc : (rngOk i && rngOk j) with
              | false => rw [hc] at h; exact False.elim h
              | true =>
                rw [hc] at h
                have h : iOut X Z Wx σ ι H (.ok (rngW i j, []) M2) R := h
                rw [Bool.and_eq_true] at hc
                unfold rngOk at hc
                rw [Bool.and_eq_true, Bool.and_eq_true, decide_eq_true_eq, decide_eq_true_eq, decide_eq_true_eq, decide_eq_true_eq] at hc
                refine ⟨i, j, rfl, ⟨by omega, by omega, by omega, by omega⟩, h _ H' ι' none ((Lk.none R1 LkS.nil).pre x1) (wk_rng i _)⟩
theorem i_rng1 (k : Bx X Z Wx G) (hm : X.mg "range" = none) (hb : PE X b (TEx Z Wx G C C1 eb)) (hg : gloB X.env "range" = true := by kernel_rfl)
    (hs2 : starEach [b] X.env = [(false, eval b X.env)] := by rfl) (hs4 : starEach [b] X.env = (false, eval b X.env) :: starEach [] X.env := by rfl) :
    PI X tg (.Call (.Name "range" p) [b] [] pos) (tI X Z Wx (evI G C C1 (.rng (.con (.int 0)) eb))) := by
  obtain ⟨h1, h2, h3⟩ := gloB_ok hg
  refine (pi_range1 h1 hm (a_cons hb a_nil hs4) hs2).weak fun σ H R ⟨ι, sw, M, s, R0, h⟩ => ⟨ι, sw, M, s, R0, ?_⟩
  simp only [evI, evE, Out.bind_ok] at h
  simp only [evL]
  cases e2 : evE G C C1 eb sw M with
  | bad => rw [e2] at h; exact h
  | exc c M2 => rw [e2] at h; exact h
  | ok y M2 =>
    rw [e2] at h
    simp only [Out.bind_ok] at h ⊢
    intro vs H' ι' x1 R1 wr
    cases hy : toI y with
    | none => simp only [show toI (Wv.int 0) = some 0 from rfl, hy] at h; exact False.elim h
    | some j =>
      simp only [show toI (Wv.int 0) = some 0 from rfl, hy] at h
      cases y <;> cases hy
      cases wr with
      | cons w1 t1 =>
        cases t1
        cases w1
        cases hc : (rngOk 0 && rngOk j) with
        | false => rw [hc] at h; exact False.elim h
        | true =>
          rw [hc] at h
          have h : iOut X Z Wx σ ι H (.ok (rngW 0 j, []) M2) R := h
          rw [Bool.and_eq_true] at hc
          unfold rngOk at hc
          rw [Bool.and_eq_true, Bool.and_eq_true, decide_eq_true_eq, decide_eq_true_eq, decide_eq_true_eq, decide_eq_true_eq] at hc
          refine ⟨j, rfl, by omega, by omega, h _ H' ι' none ((Lk.none R1 LkS.nil).pre x1) ?_⟩
          have W := wk_rng (Z := Z) (ι := ι') (H := H') 0 (j - 0).toNat
          rw [Int.sub_zero] at W
          unfold rngW
          rw [Int.sub_zero]
          exact W
theorem itmW_at {w : Wv} {v : V} {r : List (Wv × Wv) × List (Nat × Ob)} (wr : WR Z ι H w v) (e : itmW w M = some r) : ∃ l a z kvs, v = .ref a ∧ ι[l]? = some a ∧ M[l]? = some (.dct z kvs) ∧ r = (kvs, [(l, .dct z kvs)]) := by
  cases wr with
  | ref hl =>
    rename_i l a
    simp only [itmW] at e
    split at e
    · rename_i z kvs hM
      cases e
      exact ⟨l, a, z, kvs, rfl, hl, hM, rfl⟩
    · cases e
  | _ => cases e
theorem i_items {elts : List Expr} {kk : Nat} {tpos cpos : Pos} (k : Bx X Z Wx G) (ha : PE X a (TEx Z Wx G C C1 ea)) (hbase : attributeBase a "items" X.env (eval a X.env) = eval a X.env := by rfl) (hline : (apos.endLine == cpos.line) = true := by rfl) :
    PI X (.Tuple elts kk tpos) (.Call (.Attribute a "items" apos) [] [] cpos) (tI X Z Wx (evI G C C1 (.items ea))) := by
  refine ⟨fun pins s σ H R I ⟨ι, sw, M, sr, R0, h⟩ => ?_⟩
  simp only [evI] at h
  refine wpAny_Call_method (T := "dict") (id := "dict.items") hbase rfl hline F.plainAttrs_dict F.slot_dict_items F.type_dict_items (thn (ha.run pins s σ H (fun v H1 => ∃ ι1 M1 w r, RM Z ι1 M1 H1 ∧ WR Z ι1 H1 w v ∧ itmW w M1 = some r ∧ iOut X Z Wx σ ι1 H1 (.ok (r.1.map fun p => .tup [p.1, p.2], r.2) M1) R) I
    (tE.seqI sr R0 h fun w M1 v H1 ι1 e1 R1 q1 s1 h1 => by
      obtain ⟨r, e, h1⟩ := iOut.ofO h1
      exact ⟨ι1, M1, w, r, R1, q1, e, h1⟩)) fun v s1 ⟨x, H1, I1, rx, ι1, M1, w, r, R1, wr, e, h1⟩ => ?_)
  obtain ⟨l, d, z, kvs, rfl, hl, hM, rfl⟩ := itmW_at wr e
  cases rx
  obtain ⟨o, es, ep, H2, dl, d1, d2, d3, I2, d4, L, r⟩ := dict_lock k I1 R1 hM hl
  have hg := MP.Inv.dctO I2 d4
  have hm : s1.heap.DictRaw d es ep := ⟨o, hg, d1, d2⟩
  refine ⟨hm.typeIs, fun b q => by cases q; exact ⟨o, hg, d1.2.1⟩, ?_⟩
  have I3 : L2.Inv X pins σ H2 { s1 with heap := s1.heap.push { cls := .type "dict_items", data := .fields #[.ref d] } } := I2.kept (t' := s1.toks) fun b ob q => Heap.get?_push_of_some _ q
  have fin : wpAny (model X.prog X.w) X.A (pyIter (.ref s1.heap.objs.size)) (PIE X pins σ (.Tuple elts kk tpos) R) X.xe { s1 with heap := s1.heap.push { cls := .type "dict_items", data := .fields #[.ref d] } } :=
    wpAny_pyIter_items_raw (d := d) ⟨_, Heap.get?_push_size _ rfl, rfl, rfl⟩ (hm.push _) (pi_one (tk := s1.toks) I3 _ (turnI _ d1 d2) ⟨.none, .none, Heap.get?_push_size _ rfl⟩ (h1 _ H2 ι1 dl L (wk_items d4 r)))
  show wpAny _ _ (callWith cpos (.builtin "dict.items") [.ref d] [] []) _ X.xe s1
  exact method_meetsIn F.slot_dict_items F.entry_dict_items rfl (PySem.evalArgs_none ⟨rfl, hm.typeIs, F.args_dict_items_1 _, _, meets_dict_items_raw d d3, ⟨es, ep, hm⟩, fin⟩)
theorem wipe_set0 (σ : L2.St) (i : Nat) (x : Option V) : ∀ vs : List Nat, (wipe (σ.set i x) vs).set i none = (wipe σ vs).set i none
  | [] => by simp [wipe, List.set_set]
  | v :: vs => by
    unfold wipe
    by_cases h : v = i
    · subst h
      rw [List.set_set, List.set_set, wipe_set0 σ v x vs]
    · rw [List.set_comm _ _ h, wipe_set0 σ i x vs, List.set_comm _ _ (Ne.symm h)]
theorem wipe_set {σ : L2.St} {i : Nat} : ∀ {vs : List Nat}, i ∈ vs → ∀ x : Option V, wipe (σ.set i x) vs = wipe σ vs
  | [], h, _ => by cases h
  | v :: vs, h, x => by
    unfold wipe
    by_cases e : i = v
    · subst e
      exact wipe_set0 σ i x vs
    · rw [wipe_set (List.mem_of_ne_of_mem e h) x]
def setsV : List Nat → List V → L2.St → L2.St
  | i :: is, v :: vs, σ => setsV is vs (σ.set i (some v))
  | _, _, σ => σ
def gT (K : PySem.W.Frag) (t : Tg) : TG := match t with
  | .nm i => gName i
  | .tup is => fun v σ H Q => ∃ a vs, v = .ref a ∧ SqT K H a vs ∧ vs.length = is.length ∧ Q (setsV is vs σ) H
  | .nst i js => fun v σ H Q => ∃ a x b vs, v = .ref a ∧ SqT K H a [x, .ref b] ∧ SqT K H b vs ∧ vs.length = js.length ∧ Q (setsV js vs (σ.set i (some x))) H
theorem setAll_rel : ∀ (is : List Nat) (ws : List Wv) (vs : List V) (sw τ : Sw) (σ : L2.St), SR Z ι H sw σ → WsR Z ι H ws vs → setAll is ws sw = some τ → vs.length = is.length ∧ SR Z ι H τ (setsV is vs σ) ∧ ∀ us, (∀ i ∈ is, i ∈ us) → wipe (setsV is vs σ) us = wipe σ us := by
  intro is
  induction is with
  | nil =>
    intro ws vs sw τ σ hs ht e
    cases ht with
    | nil => simp only [setAll] at e; cases e; exact ⟨rfl, hs, fun us _ => rfl⟩
    | cons _ _ => simp [setAll] at e
  | cons i is ih =>
    intro ws vs sw τ σ hs ht e
    cases ht with
    | nil => simp [setAll] at e
    | cons h1 t1 =>
      simp only [setAll] at e
      obtain ⟨a1, a2, a3⟩ := ih _ _ _ _ _ (hs.set h1 i) t1 e
      refine ⟨by simp [a1], a2, fun us hu => ?_⟩
      show wipe (setsV is _ (σ.set i _)) us = _
      rw [a3 us fun j hj => hu j (List.mem_cons_of_mem _ hj)]
      exact wipe_set (hu i List.mem_cons_self) _
theorem tgW_nst {i : Nat} {js : List Nat} {w : Wv} {sw τ : Sw} (e : tgW (.nst i js) w sw = some τ) : ∃ x us, w = .tup [x, .tup us] ∧ setAll js us (sw.set i (some x)) = some τ := by
  unfold tgW at e
  split at e
  · rename_i h; cases h
  · rename_i h; cases h
  · rename_i h
    cases h
    split at e
    · rename_i x us
      exact ⟨x, us, rfl, e⟩
    · cases e
theorem tgW_rel {t : Tg} {w : Wv} {v : V} {τ : Sw} (hs : SR Z ι H sw σ) (wr : WR Z ι H w v) (e : tgW t w sw = some τ) {Q : L2.St → Hp → Prop} (h : ∀ σ', SR Z ι H τ σ' → (∀ vs, (∀ i ∈ t.slots, i ∈ vs) → wipe σ' vs = wipe σ vs) → Q σ' H) : gT Z.K t v σ H Q := by
  cases t with
  | nm i =>
    simp only [tgW] at e
    cases e
    refine h _ (hs.set wr i) fun vs hv => ?_
    exact wipe_set (hv i (by simp [Tg.slots])) _
  | tup is =>
    cases wr with
    | tup hsq ht =>
      simp only [tgW] at e
      rename_i ws vs a
      obtain ⟨a1, a2, a3⟩ := setAll_rel is ws vs sw τ σ hs ht e
      exact ⟨a, vs, rfl, hsq, a1, h _ a2 a3⟩
    | _ => cases e
  | nst i js =>
    obtain ⟨x, us, rfl, e⟩ := tgW_nst e
    cases wr with
    | tup hsq ht =>
      rename_i vs a
      cases ht with
      | cons h1 t1 =>
        cases t1 with
        | cons h2 t2 =>
          cases t2
          cases h2 with
          | tup hsq2 ht2 =>
            obtain ⟨a1, a2, a3⟩ := setAll_rel js us _ _ τ _ (hs.set h1 i) ht2 e
            refine ⟨_, _, _, _, rfl, hsq, hsq2, a1, h _ a2 fun ks hk => ?_⟩
            rw [a3 ks fun j hj => hk j (List.mem_cons_of_mem _ hj)]
            exact wipe_set (hk i (List.mem_cons_self ..)) _
end
end MP
end
section
set_option Elab.async false
set_option linter.all false
set_option maxRecDepth 100000
namespace MP
open PySem PySem.Spec PyProof.Rows L2
theorem Out.bind_assoc {α β γ : Type} (x : Out α) (f : α → Mem → Out β) (g : β → Mem → Out γ) : (x.bind f).bind g = x.bind fun a M => (f a M).bind g := by
  cases x <;> rfl
theorem Out.bind_okE {α β : Type} {x : Out α} {f : α → Mem → Out β} {b : β} {M' : Mem} (h : x.bind f = .ok b M') : ∃ a M, x = .ok a M ∧ f a M = .ok b M' := by
  cases x with
  | ok a M => exact ⟨a, M, rfl, h⟩
  | exc c M => cases h
  | bad => cases h
theorem Out.chk_okE {α : Type} {q : Bool} {x : Out α} {b : α} {M' : Mem} (h : Out.chk q x = .ok b M') : q = true ∧ x = .ok b M' := by
  cases q with
  | true => exact ⟨rfl, h⟩
  | false => cases h
def Wf : Wish := fun _ _ _ => False
def stoB (N : List Str) (sc : Scope) (fn : Str → Bool) (i : Nat) (x : Str) : Bool := decide (N[i]? = some x) && match sc.names.lookup x with
  | some .local => true
  | some .cell => fn x
  | _ => false
section
variable {X : Cx} {Z : Zt} {Wx : Wish} {G : Pg} {C C1 : Nat → List Wv → Mem → Out Wv} {a b c e tg iter elt : Expr} {es : List Expr} {ea eb ec ee : Ex} {el : El} {it : MP.It} {pos p p2 p3 apos : Pos}
variable {pins : List (Addr × Obj)} {σ : L2.St} {H H1 H2 : Hp} {s : Shared} {ι ι1 ι2 : List Addr} {M : Mem} {sw : Sw}
theorem stoB_ok {i : Nat} {x : Str} (h : stoB X.N X.env.scope X.fn i x = true) : X.N[i]? = some x ∧ Loc X.env.scope x ∧ (X.fn x = true ∨ X.env.scope.names.lookup x = some .local) := by
  unfold stoB at h
  rw [Bool.and_eq_true] at h
  refine ⟨of_decide_eq_true h.1, ?_⟩
  have h2 := h.2
  split at h2
  · rename_i e; exact ⟨.inl e, .inr e⟩
  · rename_i e; exact ⟨.inr e, .inl h2⟩
  · cases h2
theorem g_nm (nd : X.N.Nodup) (K : PySem.W.Frag) (i : Nat) {x : Str} (h : stoB X.N X.env.scope X.fn i x = true := by kernel_rfl) : PG X (.Name x pos) (gT K (.nm i)) := by
  obtain ⟨h1, h2, h3⟩ := stoB_ok h
  exact pg_name nd h1 h2 h3
def gSet (is : List Nat) : TGs := fun vs σ H Q => vs.length = is.length ∧ Q (setsV is vs σ) H
theorem _root_.L2.PGs.weak {ts : List Expr} {t t' : TGs} (h : PGs X ts t) (w : ∀ v σ H Q, t' v σ H Q → t v σ H Q) : PGs X ts t' := ⟨fun pins s σ H vs us Q I r q => h.run pins s σ H vs us Q I r (w vs σ H Q q)⟩
theorem gs_nil : PGs X [] (gSet []) := pgs_nil.weak fun v σ H Q ⟨h1, h2⟩ => by
  cases v with
  | nil => exact ⟨rfl, h2⟩
  | cons _ _ => cases h1
theorem gs_cons (nd : X.N.Nodup) (i : Nat) {x : Str} {is : List Nat} (hr : PGs X es (gSet is)) (h : stoB X.N X.env.scope X.fn i x = true := by kernel_rfl)
    (hs : (assignEach (.Name x pos :: es) X.env).map (·.2) = assign (.Name x pos) X.env :: (assignEach es X.env).map (·.2) := by rfl) : PGs X (.Name x pos :: es) (gSet (i :: is)) := by
  obtain ⟨h1, h2, h3⟩ := stoB_ok h
  refine (pgs_cons (pg_name nd h1 h2 h3) hr hs).weak fun v σ H Q ⟨q1, q2⟩ => ?_
  cases v with
  | nil => cases q1
  | cons v vs => exact ⟨v, vs, rfl, by simpa using q1, q2⟩
theorem g_tup (hc : X.calm = true) {k : Nat} {is : List Nat} {K : PySem.W.Frag} (hK : X.K = K) (hr : PGs X es (gSet is)) (hn : (assignEach es X.env).length = is.length := by rfl) (hst : (assignEach es X.env).findIdx? (·.1) = none := by rfl) : PG X (.Tuple es k pos) (gT K (.tup is)) := by
  have h := pg_tup (n := is.length) (k := k) (pos := pos) hc hr hn hst
  refine ⟨fun pins s σ H v u Q I r ⟨a, vs, e, hq, hl, q⟩ => h.run pins s σ H v u Q I r ⟨a, vs, e, by rw [hK]; exact hq, hl, hl, q⟩⟩
theorem Bx.blk (k : Bx X Z Wx G) (s : Shared) (H : Hp) (scope : Scope) (ce : Env) (fp : List Addr) : Bx (X.blk s H scope ce fp) Z Wf G :=
  ⟨⟨k.K, k.P, k.w, k.calm, k.un, k.gd⟩, k.hS, k.nd, fun u s' ⟨a, B, sI, pins, σ, H, cls, d, e, I, nb, up, sky, na, os, ag, dn, c, ec, w⟩ => False.elim w⟩
theorem pe_unl {t : TE} (h : PE X e t) : PE X e (fun σ H Q => t σ H fun v H' => ∃ dl, UlOk X dl H' ∧ Q v (ulH dl H')) :=
  ⟨fun pins s σ H Q I hw => thn (h.run pins s σ H _ I hw) fun u s' ⟨v, H', I', r, dl, uo, q⟩ => ⟨v, _, inv_ul I' uo, r, q⟩⟩
theorem Ext.side (e : Ext ι ι1 H H1) {D : Addr} {ho : HO} (hD : H D = none) (nt : NoT ho := by intro ps z; cases z) : Ext ι ι1 H (upd H1 D ho) :=
  ⟨e.pre, fun a o h nt hx => by rw [upd_ne (ne_of_none h hD)]; exact e.frm a o h nt hx, fun a ob φ h => by rw [upd_ne (ne_of_none h hD)]; exact e.frz a ob φ h, fun a h => by
    by_cases q : a = D
    · rw [q]; exact Vac.of hD
    · exact e.dom a (h.upd_ne q)⟩
theorem Le.side {D : Addr} {h0 ho : HO} (hD : H D = some h0) (ni : ¬ Imm h0) : Le ι ι H (upd H D ho) := ⟨fun _ _ h => h, fun a o h i => by
  have ne : a ≠ D := fun z => by rw [z, hD] at h; cases h; exact ni i
  rw [upd_ne ne]; exact h⟩
theorem RM.side (R : RM Z ι M H) {D : Addr} {h0 ho : HO} (hn : D ∉ ι) (hD : H D = some h0) (ni : ¬ Imm h0) (nt : NoT h0) (nc : ∀ q, h0 ≠ LamX.CodeO D q) : RM Z ι M (upd H D ho) :=
  ⟨R.len, R.nd, fun l o a h1 h2 => (R.ob l o a h1 h2).mono (Le.side hD ni) fun z q _ => by
    have ne : a ≠ D := fun z => hn (by rw [← z]; exact List.mem_of_getElem? h2)
    rw [upd_ne ne]; exact q, tabs_write R.tab hD nt nc⟩
theorem notin_ext (e : Ext ι ι1 H H1) {D : Addr} {h0 : HO} (hn : D ∉ ι) (hD : H D = some h0) (nt : NoT h0 := by intro ps z; cases z) : D ∉ ι1 := fun hm => by
  obtain ⟨κ, rfl, hκ⟩ := e.pre
  rcases List.mem_append.mp hm with z | z
  · exact hn z
  · exact hκ D z h0 hD nt
theorem ul_ne {dl : Option (Addr × Obj)} {D : Addr} {h0 : HO} (uo : UlOk X dl H) (hD : H D = some h0) (hf : ∀ o, h0 ≠ lkO true D o) : ulH dl H D = some h0 := by
  cases dl with
  | none => exact hD
  | some q =>
    have ne : D ≠ q.1 := fun z => by
      have := uo.1
      rw [← z, hD] at this
      cases this
      exact hf q.2 rfl
    show upd H q.1 (DctO q.1 q.2) D = _
    rw [upd_ne ne]
    exact hD
theorem wipe_idem (σ : L2.St) : ∀ vs : List Nat, wipe (wipe σ vs) vs = wipe σ vs
  | [] => rfl
  | v :: vs => by
    show (wipe ((wipe σ vs).set v none) vs).set v none = (wipe σ vs).set v none
    rw [wipe_set0, wipe_idem σ vs]
theorem ifs_none : PTs X [] (TTx Z Wf G C C1 (.con (.bl true))) := ⟨fun pins s σ H Q I ⟨ι, sw, M, sr, R, h⟩ => pts_nil.run pins s σ H Q I (by
  have e : evT G C C1 (.con (.bl true)) sw M = .ok true M := by unfold evT; simp only [evE]; rfl
  rw [e] at h
  exact h H ι (Ext.refl _ _) R)⟩
theorem ifs_one (h : PT X c (TTx Z Wf G C C1 ec)) : PTs X [c] (TTx Z Wf G C C1 ec) := pts_one h
theorem tE_ok {f : Fv} {R : VK} {w : Wv} {M1 : Mem} (s : SR Z ι H sw σ) (R0 : RM Z ι M H) (e : f sw M = .ok w M1) (hk : ∀ v H1 ι1, Ext ι ι1 H H1 → RM Z ι1 M1 H1 → WR Z ι1 H1 w v → SR Z ι1 H1 sw σ → R v H1) : tE Z Wx f σ H R :=
  ⟨ι, sw, M, s, R0, by rw [e]; exact fun v H' ι' x R q => hk v H' ι' x R q (s.mono x.le)⟩
theorem tT_ok {f : Sw → Mem → Out Bool} {R : Bool → Hp → Prop} {w : Bool} {M1 : Mem} (s : SR Z ι H sw σ) (R0 : RM Z ι M H) (e : f sw M = .ok w M1) (hk : ∀ H1 ι1, Ext ι ι1 H H1 → RM Z ι1 M1 H1 → SR Z ι1 H1 sw σ → R w H1) : tT Z Wx f σ H R :=
  ⟨ι, sw, M, s, R0, by rw [e]; exact fun H' ι' x R => hk H' ι' x R (s.mono x.le)⟩
theorem lc_read {t : Tg} {Q : VK} (h : TEx Z Wx G C C1 (.lc ee t it ec) σ H Q) : tLc (tI X Z Wx (evI G C C1 it)) (gT Z.K t) (TTx Z Wf G C C1 ec) (TEx Z Wf G C C1 ee) t.slots σ H fun v H' => ∃ dl, UlOk X dl H' ∧ Q v (ulH dl H') := by
  obtain ⟨ι, sw, M, s, R0, h⟩ := h
  refine ⟨ι, sw, M, s, R0, ?_⟩
  simp only [evE] at h
  cases e : evI G C C1 it sw M with
  | bad => rw [e] at h; exact h
  | exc c M1 => rw [e] at h; exact h
  | ok r M1 =>
    obtain ⟨xs, ps⟩ := r
    rw [e] at h
    intro J H1 ι1 dl L W D hD
    simp only [Out.bind_ok] at h
    cases e3 : lcGo G t (evE G C C1 ec) (evE G C C1 ee) ps xs (wipeW sw t.slots) [] (lockM ps M1) with
    | bad => rw [e3] at h; exact False.elim h
    | exc c M3 => rw [e3] at h; exact False.elim h
    | ok ws3 M3 =>
      rw [e3] at h
      have h : eOut Z Wx σ ι H (.ok (.ref (unlkM ps M3).length) (unlkM ps M3 ++ [.lst ws3])) Q := h
      refine ⟨fun i m H2 => m = xs.length - i ∧ i ≤ xs.length ∧ ∃ ι2 M2 acc accV, H2 D = some (.lst accV) ∧ D ∉ ι2 ∧ RM Z ι2 M2 H2 ∧ Ext ι1 ι2 H1 H2 ∧ WsR Z ι2 H2 acc accV ∧ lcGo G t (evE G C C1 ec) (evE G C C1 ee) ps (xs.drop i) (wipeW sw t.slots) acc M2 = .ok ws3 M3,
        ⟨xs.length, by simp, Nat.zero_le _, ι1, lockM ps M1, [], [], upd_same, L.rm.notin hD, L.rm.fresh hD, Ext.fresh ι1 hD, .nil, by simpa using e3⟩, ?_⟩
      rintro i m H2 ⟨rfl, hi, ι2, M2, acc, accV, hD2, nD, R2, x2, wacc, e2⟩
      have ss : SR Z ι2 H2 (wipeW sw t.slots) (wipe σ t.slots) := ((s.mono L.le).mono x2.le).wipe _
      have nt : NoT (.lst accV) := fun ps z => by cases z
      have ni : ∀ l : List V, ¬ Imm (.lst l) := fun l z => by rcases z with ⟨_, z⟩ | ⟨_, _, z, _⟩ <;> cases z
      by_cases hlt : i < xs.length
      · refine .inr ?_
        rw [List.drop_eq_getElem_cons hlt] at e2
        simp only [lcGo] at e2
        obtain ⟨st, e2⟩ := Out.chk_okE e2
        refine ⟨W.go i ι2 H2 M2 x2 R2 st hlt, fun H' => xs.length - (i + 1) = xs.length - (i + 1) ∧ i + 1 ≤ xs.length ∧ ∃ ι2 M2 acc accV, H' D = some (.lst accV) ∧ D ∉ ι2 ∧ RM Z ι2 M2 H' ∧ Ext ι1 ι2 H1 H' ∧ WsR Z ι2 H' acc accV ∧ lcGo G t (evE G C C1 ec) (evE G C C1 ee) ps (xs.drop (i + 1)) (wipeW sw t.slots) acc M2 = .ok ws3 M3,
          fun H' q => ⟨xs.length - (i + 1), by omega, q⟩, fun v H' y => ?_⟩
        obtain ⟨w, hw, x3, R3, wr⟩ := W.yld i ι2 H2 M2 v H' x2 R2 st hlt y
        have ew : xs[i] = w := by rw [List.getElem?_eq_getElem hlt] at hw; exact Option.some.inj hw
        rw [ew] at e2
        cases et : tgW t w (wipeW sw t.slots) with
        | none => rw [et] at e2; cases e2
        | some τ =>
          rw [et] at e2
          simp only at e2
          refine tgW_rel (ss.mono x3.le) wr et fun σ' sr' wp => ⟨?_, ?_⟩
          · have := wp t.slots (fun _ z => z)
            rw [this]
            exact wipe_idem σ t.slots
          · rw [← Out.bind_assoc] at e2
            obtain ⟨q, M4, e4, e2⟩ := Out.bind_okE e2
            have x13 := x2.trans x3
            have hD3 : H' D = some (.lst accV) := x3.frm D _ hD2 nt (.inl nD)
            refine tT_ok sr' R3 (show evT G C C1 ec τ M2 = .ok q M4 from e4) fun H4 ι4 x4 R4 s4 => ?_
            have hD4 : H4 D = some (.lst accV) := x4.frm D _ hD3 nt (.inl nD)
            have nD4 := notin_ext x4 nD hD3
            cases q with
            | false =>
              rw [if_neg Bool.false_ne_true] at e2 ⊢
              exact ⟨rfl, hlt, ι4, M4, acc, accV, hD4, nD4, R4, x13.trans x4, (wacc.mono x3.le).mono x4.le, e2⟩
            | true =>
              rw [if_pos rfl] at e2 ⊢
              obtain ⟨y, M5, e5, e2⟩ := Out.bind_okE e2
              obtain ⟨zl, e2⟩ := Out.chk_okE e2
              refine tE_ok s4 R4 e5 fun yv H5 ι5 x5 R5 wy s5 => ?_
              have hD5 : H5 D = some (.lst accV) := x5.frm D _ hD4 nt (.inl nD4)
              have nD5 := notin_ext x5 nD4 hD4
              have wacc5 := ((wacc.mono x3.le).mono x4.le).mono x5.le
              have zl := of_decide_eq_true zl
              have le6 : Le ι5 ι5 H5 (upd H5 D (.lst (accV ++ [yv]))) := Le.side hD5 (ni _)
              refine ⟨accV, hD5, by rw [← wacc5.length]; omega, rfl, hlt, ι5, M5, acc ++ [y], accV ++ [yv], upd_same, nD5, R5.side nD5 hD5 (ni _) nt (fun q z => by cases z), ((x13.trans x4).trans x5).side hD, (wacc5.append (.cons wy .nil)).mono le6, e2⟩
      · have ei : i = xs.length := by omega
        subst ei
        rw [List.drop_length] at e2
        simp only [lcGo] at e2
        obtain ⟨st, e2⟩ := Out.chk_okE e2
        cases e2
        refine .inl ⟨W.stop ι2 H2 M3 x2 R2 st, dl, ?_⟩
        obtain ⟨u1, u2, u3, u4⟩ := L.un x2 R2
        refine ⟨u4, ?_⟩
        have hDu : ulH dl H2 D = some (.lst accV) := ul_ne u4 hD2 fun o z => by cases z
        have hD0 : Vac H D := by
          refine L.ext.dom D (Vac.of ?_)
          cases dl with
          | none => exact hD
          | some q =>
            have ne : D ≠ q.1 := fun z => by
              obtain ⟨l, kvs, _, _, _, hd, _⟩ := L.lk
              rw [← z, hD] at hd
              cases hd
            show upd H1 q.1 (DctO q.1 q.2) D = none
            rw [upd_ne ne]
            exact hD
        refine h (.ref D) _ (ι2 ++ [D]) (Ext.told hD0 u1 nD) (u2.tell nD ⟨accV, hDu, (wacc.mono u3).mono (Le.grow ι2 [D] _)⟩) (.ref (snoc_ix u2 D))
theorem e_lc (k : Bx X Z Wx G) {t : Tg} {ifs : List Expr} {scope : Scope} {own : List (Str × Nat)} (hi : PI X tg iter (tI X Z Wx (evI G C C1 it))) (ok : BlkOk X.N X.env.scope scope own) (ho : own.map (·.2) = t.slots)
    (hg : ∀ (s : Shared) (H : Hp) (Cc : Addr) (cl : List (Str × Addr)) (fp : List Addr), PG (X.blk s H scope (compEnvC scope cl Cc X.env) fp) tg (gT Z.K t))
    (ht : ∀ (s : Shared) (H : Hp) (Cc : Addr) (cl : List (Str × Addr)) (fp : List Addr), PTs (X.blk s H scope (compEnvC scope cl Cc X.env) fp) ifs (TTx Z Wf G C C1 ec))
    (he : ∀ (s : Shared) (H : Hp) (Cc : Addr) (cl : List (Str × Addr)) (fp : List Addr), PE (X.blk s H scope (compEnvC scope cl Cc X.env) fp) elt (TEx Z Wf G C C1 ee)) (hs : ∀ x, foldedSetIterable iter X.env x = pure x := by intro _; rfl) :
    PE X (.ListComp elt [⟨tg, iter, ifs, 0⟩] scope pos) (TEx Z Wx G C C1 (.lc ee t it ec)) :=
  (pe_unl (pe_lc k.calm k.nd hi ok hg ht he hs)).weak fun σ H Q h => by rw [ho]; exact lc_read h
theorem s_setLc (k : Bx X Z Wx G) {t : Tg} {i : Nat} {y : Str} {py spos : Pos} {ifs : List Expr} {scope : Scope} {own : List (Str × Nat)} (hy : X.N[i]? = some y) (hyl : X.env.scope.names.lookup y = some .local)
    (hsw : swapsWith (.ListComp elt [⟨tg, iter, ifs, 0⟩] scope pos) (some (.Name y py)) spos.line X.env = pure true) (hi : PI X tg iter (tI X Z Wx (evI G C C1 it))) (ok : BlkOk X.N X.env.scope scope own) (ho : own.map (·.2) = t.slots)
    (hg : ∀ (s : Shared) (H : Hp) (Cc : Addr) (cl : List (Str × Addr)) (fp : List Addr), PG (X.blk s H scope (compEnvC scope cl Cc X.env) fp) tg (gT Z.K t))
    (ht : ∀ (s : Shared) (H : Hp) (Cc : Addr) (cl : List (Str × Addr)) (fp : List Addr), PTs (X.blk s H scope (compEnvC scope cl Cc X.env) fp) ifs (TTx Z Wf G C C1 ec))
    (he : ∀ (s : Shared) (H : Hp) (Cc : Addr) (cl : List (Str × Addr)) (fp : List Addr), PE (X.blk s H scope (compEnvC scope cl Cc X.env) fp) elt (TEx Z Wf G C C1 ee)) (hs : ∀ x, foldedSetIterable iter X.env x = pure x := by intro _; rfl) :
    PS X (.Assign [.Name y py] (.ListComp elt [⟨tg, iter, ifs, 0⟩] scope pos) spos) (tAsg (TEx Z Wx G C C1 (.lc ee t it ec)) (gName i)) := by
  have h0 := ps_setLc (spos := spos) (py := py) (pos := pos) k.calm k.nd hy hyl hsw hi ok hg ht he hs
  refine ⟨fun pins s σ H D I h => ?_⟩
  have h : TEx Z Wx G C C1 (.lc ee t it ec) σ H fun x H1 => gName i x σ H1 D.nx := h
  have h2 := lc_read (X := X) h
  rw [← ho] at h2
  refine thn (h0.run pins s σ H ⟨fun σ' H' => ∃ dl, UlOk X dl H' ∧ D.nx σ' (ulH dl H'), D.rt, D.bk, D.ct⟩ I h2) fun f s1 q => ?_
  cases f with
  | next => obtain ⟨σ', H', I2, dl, uo, q⟩ := q; exact ⟨σ', _, inv_ul I2 uo, q⟩
  | brk => exact q
  | cont => exact q
  | ret v => exact q
theorem DctR.dictSet {D : Addr} {kvs : List (Wv × Wv)} {kk vv : Wv} {x y : V} {u w' : Value} {Q : Unit → Shared → Prop} {E : Value → Shared → Prop} (I : L2.Inv X pins σ H s) (k : XOk X Z) (nD : D ∉ ι) (Dd : DctR Z ι H D false kvs) (h : keyOk kvs kk = true) (hz : kvs.length + 1 ≤ sizeLine)
    (r : WR Z ι H kk x) (ru : RelV x u) (ry : WR Z ι H vv y) (rw' : RelV y w')
    (q : ∀ s' o', L2.Inv X pins σ (upd H D (DctO D o')) s' → DctR Z ι (upd H D (DctO D o')) D false (dput kvs kk vv) → Q () s') : wpAny (model X.prog X.w) X.A (PySem.dictSet D u w') Q E s := by
  obtain ⟨o, es, ep, h1, h2, h3, h4, h5, h6, h7, h8⟩ := id Dd
  have h1 : H D = some (DctO D o) := h1
  have hlen : (dput kvs kk vv).length ≤ sizeLine := by have := dput_len kvs kk vv; omega
  have hmut : Mut (H D) := by rw [h1]; exact True.intro
  have le : ∀ o', Le ι ι H (upd H D (DctO D o')) := fun o' => Le.side h1 (lkO_noI false D o)
  rcases keyOk_cases h with ⟨k1, k2⟩ | ⟨k1, k2⟩
  · obtain ⟨vs, dd, pv, hd⟩ := Dd.dictOf I k k2
    have ex := keyA_rel k1 r
    subst ex
    have hz2 : vs.length ≤ sizeLine := by rw [← Paired.length pv]; omega
    refine wpAny_dictSet_pairs (hsz := hz2) (kV_is ru) dd fun h' dd' hs => ?_
    obtain ⟨o', es', ep', e1, e2, e3, e4, e5, e6⟩ := dd'
    refine q _ o' (d_write I hmut hs ⟨o', e1⟩ (DctR.ok_new e1)) ⟨o', es', ep', upd_same, e2, e3, hd, hlen, dput_nodup h6, .inl (dput_all k2 k1), ?_⟩
    refine pairs_back (P := X.prog) k.w.symm (fun e he => e4 e (Array.mem_toList_iff.mp he)) e5 ?_
    exact L2.Paired.mapP (pv.put k1 h6 rw' ry) fun p q z => ⟨z.1, z.2.1, let ⟨x, z1, z2⟩ := z.2.2; ⟨x, z1, z2.mono (le o')⟩⟩
  · obtain ⟨xs, dd, pv, hd⟩ := Dd.dictOfH I k k2
    obtain ⟨b, rfl⟩ := keyT_ref k1 r
    cases ru
    have hz2 : xs.length ≤ sizeLine := by rw [← Paired.length pv]; omega
    refine wpAny_dictSet_heap (hsz := hz2) (by show X.A.units + 8 < cLine; have := k.un; omega) (keyT_is I k.K k1 r) dd fun h' dd' hs => ?_
    obtain ⟨o', es', ep', e1, e2, e3, e4, e5, e6⟩ := dd'
    refine q _ o' (d_write I hmut hs ⟨o', e1⟩ (DctR.ok_new e1)) ⟨o', es', ep', upd_same, e2, e3, hd, hlen, dput_nodup h6, .inr (dput_all k2 k1), ?_⟩
    refine pairs_backT (P := X.prog) k.w.symm e4 ?_
    exact L2.Paired.mapP (pv.put k1 h6 r rw' ry) fun p q z => ⟨z.1, z.2.1, z.2.2.1.mono (le o'), let ⟨x, z1, z2⟩ := z.2.2.2; ⟨x, z1, z2.mono (le o')⟩⟩
abbrev empO : Obj := { cls := .type "dict", data := .dict #[] }
def DStep (X : Cx) (D : Addr) (y z : V) (σ : L2.St) (H : Hp) (Nx : Hp → Prop) : Prop :=
  ∀ (pins : List (Addr × Obj)) (s : Shared) (u r : Value) (Q : Unit → Shared → Prop) (E : Value → Shared → Prop), L2.Inv X pins σ H s → RelV y u → RelV z r → (∀ s' H', L2.Inv X pins σ H' s' → Nx H' → Q () s') → wpAny (model X.prog X.w) X.A (PySem.dictSet D u r) Q E s
def tDcW (X : Cx) (scope : Scope) (wi : TI) (g : TG) (tt : TT) (tk tv : TE) (vs : List Nat) : TE := fun σ H Q => wi σ H fun J H1 => ∀ D, H1 D = none → (D == sysModules) = false → ∃ W : Nat → Nat → Hp → Prop, (∃ m, W 0 m (upd H1 D (DctO D empO))) ∧ ∀ i m H, W i m H →
  (J.stop i H ∧ Q (.ref D) H) ∨ (J.go i H ∧ ∃ Nx : Hp → Prop, (∀ H', Nx H' → ∃ m', m' < m ∧ W (i + 1) m' H') ∧ ∀ x H', J.yld i H x H' → g x (wipe σ vs) H' fun σ2 H2 => wipe σ2 vs = wipe σ vs ∧ tt σ2 H2 fun b H3 =>
    if b = true then tk σ2 H3 fun y H4 => tv σ2 H4 fun z H5 => ∀ s0 H0 Cc cl fp, DStep (X.blk s0 H0 scope (compEnvC scope cl Cc X.env) fp) D y z σ2 H5 Nx else Nx H3)
theorem dcW_core {Q : VK} {kx vx : Expr} {ifs : List Expr} {scope : Scope} {own : List (Str × Nat)} {pos' : Pos} {wi : TI} {g : TG} {tt : TT} {tk tv : TE} {use : Option (Value → Sem Unit)} {Qf : Value → Shared → Prop}
    (hc : X.calm = true) (hN : X.N.Nodup) (I : L2.Inv X pins σ H s) (hi : PI X tg iter wi) (ok : BlkOk X.N X.env.scope scope own)
    (hg : ∀ (s : Shared) (H : Hp) (C : Addr) (cl : List (Str × Addr)) (fp : List Addr), PG (X.blk s H scope (compEnvC scope cl C X.env) fp) tg g) (ht : ∀ (s : Shared) (H : Hp) (C : Addr) (cl : List (Str × Addr)) (fp : List Addr), PTs (X.blk s H scope (compEnvC scope cl C X.env) fp) ifs tt)
    (hk : ∀ (s : Shared) (H : Hp) (C : Addr) (cl : List (Str × Addr)) (fp : List Addr), PE (X.blk s H scope (compEnvC scope cl C X.env) fp) kx tk)
    (he : ∀ (s : Shared) (H : Hp) (C : Addr) (cl : List (Str × Addr)) (fp : List Addr), PE (X.blk s H scope (compEnvC scope cl C X.env) fp) vx tv) (hs : ∀ x, foldedSetIterable iter X.env x = pure x)
    (h : tDcW X scope wi g tt tk tv (own.map (·.2)) σ H Q)
    (hRR : ∀ D C s' m H', L2.Inv X pins σ H' s' → Q (.ref D) H' → s'.heap.Ns C m → FpOk X pins H' C → compPost (model X.prog X.w) X.A X.xe use Qf (.ref D) C (.ok .next) s') :
    wpAny (model X.prog X.w) X.A (comprehension (.DictComp kx vx [⟨tg, iter, ifs, 0⟩] scope pos) scope X.env pos' newDict false (eval iter X.env) use) Qf X.xe s := by
  have hfree : ∀ y ∈ scope.names, y.2 = .free → ∃ c, X.env.cells.lookup y.1 = some c := fun y hy e => by
    rcases ok.free y hy e with k | k
    · exact I.ok.has _ (.inl k)
    · exact I.ok.has _ (.inr k)
  refine wpAny_comprehension_free (use := use) rfl hs (closure_ok hfree) ok.kind (fun y hy e => by rw [ok.uniq y hy, e])
    (thn (hi.run pins s σ H _ I h) fun xv s1 hx => thn hx fun itv s2 h2 => ?_)
  obtain ⟨it, fp, tn, J, H2, e, I2, T, st2, f2, q⟩ := h2
  subst e
  refine wpAny_newObj_type (newEnv_comp ?_)
  have hDn : H2 s2.heap.objs.size = none := I2.hok.fresh (Nat.le_refl _)
  obtain ⟨W, ⟨m0, w0⟩, turn⟩ := q s2.heap.objs.size hDn (beq_eq_false_iff_ne.mpr (Ne.symm (Nat.ne_of_lt I2.big)))
  have e1 : (s2.heap.push empO).get? s2.heap.objs.size = some empO := Heap.get?_push_size _ rfl
  have I3 : L2.Inv X pins σ (upd H2 s2.heap.objs.size (DctO s2.heap.objs.size empO)) { s2 with heap := s2.heap.push empO } :=
    I2.laid (t' := s2.toks) (fun b o e => Heap.get?_push_of_some _ e) (Nat.le_refl _) (DctR.ok_new e1)
  have sz : ∀ b ∈ fp, b < s2.heap.objs.size := fun b hb => by
    obtain ⟨o, e, _⟩ := T.obj _ _ st2 b hb
    exact Heap.lt_size e
  generalize hD : s2.heap.objs.size = D at hDn w0 turn I3 sz ⊢
  generalize hs3 : ({ s2 with heap := s2.heap.push empO } : Shared) = s3 at I3
  have h3 : s3.heap = s2.heap.push empO := by rw [← hs3]
  have f3 : ∀ b ∈ fp, FpOk X pins (upd H2 D (DctO D empO)) b ∧ b < s3.heap.objs.size := fun b hb => by
    have hlt := sz b hb
    refine ⟨⟨?_, (f2 b hb).2⟩, by rw [h3, Heap.size_push, hD]; exact Nat.lt_succ_of_lt hlt⟩
    rw [upd_ne (Nat.ne_of_lt hlt)]
    exact (f2 b hb).1
  have st3 : tn 0 s3.heap := T.keep _ _ _ st2 fun b _ o e => by rw [h3]; exact Heap.get?_push_of_some _ e
  have I4 := block_start I3 ok hN f3
  have pg := hg s3 (upd H2 D (DctO D empO)) s3.heap.objs.size (cellsFrom (s3.heap.objs.size + 1) scope.names (cloFrom X.env.cells scope.names [])) fp
  have pt := ht s3 (upd H2 D (DctO D empO)) s3.heap.objs.size (cellsFrom (s3.heap.objs.size + 1) scope.names (cloFrom X.env.cells scope.names [])) fp
  have pk := hk s3 (upd H2 D (DctO D empO)) s3.heap.objs.size (cellsFrom (s3.heap.objs.size + 1) scope.names (cloFrom X.env.cells scope.names [])) fp
  have pe := he s3 (upd H2 D (DctO D empO)) s3.heap.objs.size (cellsFrom (s3.heap.objs.size + 1) scope.names (cloFrom X.env.cells scope.names [])) fp
  have pd : ∀ {y z : V} {σ2 : L2.St} {H5 : Hp} {Nx : Hp → Prop}, (∀ s0 H0 Cc cl fp, DStep (X.blk s0 H0 scope (compEnvC scope cl Cc X.env) fp) D y z σ2 H5 Nx) → DStep (X.blk s3 (upd H2 D (DctO D empO)) scope (compEnvC scope (cellsFrom (s3.heap.objs.size + 1) scope.names (cloFrom X.env.cells scope.names [])) s3.heap.objs.size X.env) fp) D y z σ2 H5 Nx := fun h => h _ _ _ _ _
  show codeAny _ _ (.compStart (.DictComp kx vx [⟨tg, iter, ifs, 0⟩] scope pos) 0 (.ref it) (.ref D) (compEnvC scope (cellsFrom (s3.heap.objs.size + 1) scope.names (cloFrom X.env.cells scope.names [])) s3.heap.objs.size X.env)) (compPost (model X.prog X.w) X.A X.xe use Qf (.ref D) s3.heap.objs.size) { s3 with heap := pushCells (s3.heap.push { cls := .type "dict", data := .dict #[] }) scope.names }
  have nfp : ∀ b ∈ fp, (upd H2 D (DctO D empO)) b = none := fun b hb => (f3 b hb).1.1
  generalize hce : compEnvC scope (cellsFrom (s3.heap.objs.size + 1) scope.names (cloFrom X.env.cells scope.names [])) s3.heap.objs.size X.env = ce at I4 pg pt pk pe pd ⊢
  have cL : ce.locals = s3.heap.objs.size := by subst hce; rfl
  generalize hH3 : upd H2 D (DctO D empO) = H3 at I3 I4 pg pt pk pe pd w0 nfp f3
  generalize hs4 : ({ s3 with heap := pushCells (s3.heap.push { cls := .type "dict", data := .dict #[] }) scope.names } : Shared) = s4 at I4 ⊢
  have st4 : tn 0 s4.heap := T.keep _ _ _ st3 fun b _ o e => by rw [← hs4]; exact pushCells_keeps _ _ _ _ (Heap.get?_push_of_some _ e)
  have stat : ∀ {σ' : L2.St} {H' : Hp} {s' : Shared}, L2.Inv (X.blk s3 H3 scope ce fp) [] σ' H' s' → (∀ b ∈ fp, H' b = none) → ∀ b ∈ fp, FpOk (X.blk s3 H3 scope ce fp) [] H' b := fun {σ' H' s'} I' hn b hb =>
    ⟨hn b hb, (I'.ok.exf b hb).1, I'.ok.exfs b hb, .inl hb, fun x c e => (I'.ok.exf b hb).2 x c e, fun p hp => absurd (show p ∈ ([] : List (Addr × Obj)) ++ [] from hp) (by simp)⟩
  have loop : codeAny (model X.prog X.w) X.A (.compLoop (.DictComp kx vx [⟨tg, iter, ifs, 0⟩] scope pos) 0 (.ref it) (.ref D) ce) (compPost (model X.prog X.w) X.A X.xe use Qf (.ref D) s3.heap.objs.size) s4 := by
    refine compLoop_anyD (fun n s' => ∃ i H', L2.Inv (X.blk s3 H3 scope ce fp) [] (wipe σ (own.map (·.2))) H' s' ∧ tn i s'.heap ∧ (∀ b ∈ fp, H' b = none) ∧ W i n H') ?_ m0 ⟨0, H3, I4, st4, nfp, w0⟩
    rintro n s5 ⟨i, H5, I5, st5, n5, w5⟩
    rcases turn i n H5 w5 with ⟨stop, qq⟩ | ⟨go, Nx, hNx, step⟩
    · refine thnF (T.done (X.blk s3 H3 scope ce fp) rfl rfl rfl hc i [] s5 _ H5 (fun _ _ => False) I5 (stat I5 n5) st5 stop) fun r s6 ⟨hr, I6⟩ => ?_
      subst hr
      have I7 : L2.Inv X pins σ H5 s6 := I3.call' (ch := fp) I6.os I6.base I6.hok I6.bare fun b hb => ⟨(f3 b hb).1.2.2.2.1, (f3 b hb).1.2.1, (f3 b hb).1.2.2.2.2.1, (f3 b hb).1.2.2.2.2.2⟩
      have nC : H5 s3.heap.objs.size = none := by
        have z : H5 ce.locals = none := I6.free
        rw [cL] at z
        exact z
      obtain ⟨m, hn, _⟩ := I6.loc
      have hn : s6.heap.Ns ce.locals m := hn
      rw [cL] at hn
      exact hRR D s3.heap.objs.size s6 m H5 I7 qq hn (I3.fpOk (Nat.le_refl _) nC)
    · refine thnF (T.item (X.blk s3 H3 scope ce fp) rfl rfl rfl hc i [] s5 _ H5 (fun _ _ => False) I5 (stat I5 n5) st5 go) fun r s6 ⟨u, hr, h6⟩ => ?_
      subst hr
      refine thnF h6 fun _ s7 ⟨x, H7, I7, r7, y7, st7, n7⟩ => ?_
      refine thnF (pg.run _ s7 _ H7 x u _ (I7.pinned (stat I7 n7) (T.obj _ _ st7)) r7 (step x H7 y7)) fun _ s8 ⟨σ8, H8, I8, hw8, q8⟩ => ?_
      refine thnF (pt.run _ s8 σ8 H8 _ I8 q8) fun b s9 ⟨H9, I9, q9⟩ => ?_
      have fin : ∀ {s' : Shared} {H' : Hp}, L2.Inv (X.blk s3 H3 scope ce fp) ([] ++ pinsAt fp s7.heap) σ8 H' s' → Nx H' → ∃ m, m < n ∧ ∃ i H', L2.Inv (X.blk s3 H3 scope ce fp) [] (wipe σ (own.map (·.2))) H' s' ∧ tn i s'.heap ∧ (∀ b ∈ fp, H' b = none) ∧ W i m H' := fun {s' H'} I' nx => by
        obtain ⟨m', hm, w'⟩ := hNx H' nx
        have pin' : ∀ b ∈ fp, ∀ o, s7.heap.get? b = some o → s'.heap.get? b = some o ∧ H' b = none := fun b hb o e =>
          let z := I'.pin (b, o) (List.mem_append_right _ (List.mem_append_right _ (mem_pinsAt hb e)))
          ⟨z.1, z.2.1⟩
        have hl : (wipe σ (own.map (·.2))).length = σ8.length := by rw [← hw8, wipe_length]
        refine ⟨m', hm, i + 1, H', (I'.unpinned (pins := [])).weak hl (fun j v e => ?_), T.keep _ _ _ st7 fun b hb o e => (pin' b hb o e).1, fun b hb => ?_, w'⟩
        · rw [← hw8] at e
          exact (wipe_some e).1
        · obtain ⟨o, e, _⟩ := T.obj _ _ st7 b hb
          exact (pin' b hb o e).2
      cases b with
      | false =>
        simp only [Bool.false_eq_true, if_false] at q9 ⊢
        exact fin I9 q9
      | true =>
        simp only [if_true] at q9 ⊢
        refine thnF (pk.run _ s9 σ8 H9 _ I9 q9) fun z s10 ⟨yk, H10, I10, r10, q10⟩ => ?_
        refine thnF (pe.run _ s10 σ8 H10 _ I10 q10) fun z2 s11 ⟨yv, H11, I11, r11, dstep⟩ => ?_
        exact pd dstep _ s11 z z2 _ _ I11 r10 r11 fun s12 H12 I12 nx => fin I12 nx
  exact codeAny_compStart_dict loop (T.self X.A 0 _ _ _ st4 loop)
end
end MP
end
section
set_option Elab.async false
set_option linter.all false
set_option maxRecDepth 100000
namespace MP
open PySem PySem.Spec PyProof.Rows L2
section
variable {X : Cx} {Z : Zt} {Wx : Wish} {G : Pg} {C C1 : Nat → List Wv → Mem → Out Wv} {a b c e tg iter elt : Expr} {es : List Expr} {ea eb ec ee ek ev : Ex} {el : El} {it : MP.It} {pos p p2 p3 apos : Pos}
variable {pins : List (Addr × Obj)} {σ : L2.St} {H H1 H2 : Hp} {s : Shared} {ι ι1 ι2 : List Addr} {M : Mem} {sw : Sw}
theorem dct_frm (x : Ext ι ι1 H H1) {D : Addr} {kvs : List (Wv × Wv)} (nD : D ∉ ι) (Dd : DctR Z ι H D false kvs) : DctR Z ι1 H1 D false kvs ∧ D ∉ ι1 := by
  obtain ⟨o, es, ep, h1, h2, h3, h4, h5, h6, h7, h8⟩ := Dd
  exact ⟨⟨o, es, ep, x.frm D _ h1 (lkO_noT false D o) (.inl nD), h2, h3, h4, h5, h6, h7, L2.Paired.mapP h8 fun _ _ z => z.mono x.le⟩, notin_ext x nD h1 (lkO_noT false D o)⟩
theorem DctR.mono {D : Addr} {kvs : List (Wv × Wv)} {z : Bool} (Dd : DctR Z ι H D z kvs) (le : Le ι ι1 H H1) (h : ∀ ho, H D = some ho → H1 D = some ho) : DctR Z ι1 H1 D z kvs := by
  obtain ⟨o, es, ep, h1, h2, h3, h4, h5, h6, h7, h8⟩ := Dd
  exact ⟨o, es, ep, h _ h1, h2, h3, h4, h5, h6, h7, L2.Paired.mapP h8 fun _ _ z => z.mono le⟩
theorem dc_read (k : Bx X Z Wx G) {t : Tg} {scope : Scope} {Q : VK} (h : TEx Z Wx G C C1 (.dc ek ev t it ec) σ H Q) : tDcW X scope (tI X Z Wx (evI G C C1 it)) (gT Z.K t) (TTx Z Wf G C C1 ec) (TEx Z Wf G C C1 ek) (TEx Z Wf G C C1 ev) t.slots σ H fun v H' => ∃ dl, UlOk X dl H' ∧ Q v (ulH dl H') := by
  obtain ⟨ι, sw, M, s, R0, h⟩ := h
  refine ⟨ι, sw, M, s, R0, ?_⟩
  simp only [evE] at h
  cases e : evI G C C1 it sw M with
  | bad => rw [e] at h; exact h
  | exc c M1 => rw [e] at h; exact h
  | ok r M1 =>
    obtain ⟨xs, ps⟩ := r
    rw [e] at h
    intro J H1 ι1 dl L W D hD hsys
    simp only [Out.bind_ok] at h
    cases e3 : dcGo G t (evE G C C1 ec) (evE G C C1 ek) (evE G C C1 ev) ps xs (wipeW sw t.slots) [] (lockM ps M1) with
    | bad => rw [e3] at h; exact False.elim h
    | exc c M3 => rw [e3] at h; exact False.elim h
    | ok kv3 M3 =>
      rw [e3] at h
      have h : eOut Z Wx σ ι H (.ok (.ref (unlkM ps M3).length) (unlkM ps M3 ++ [.dct false kv3])) Q := h
      refine ⟨fun i m H2 => m = xs.length - i ∧ i ≤ xs.length ∧ ∃ ι2 M2 acc, DctR Z ι2 H2 D false acc ∧ D ∉ ι2 ∧ RM Z ι2 M2 H2 ∧ Ext ι1 ι2 H1 H2 ∧ dcGo G t (evE G C C1 ec) (evE G C C1 ek) (evE G C C1 ev) ps (xs.drop i) (wipeW sw t.slots) acc M2 = .ok kv3 M3,
        ⟨xs.length, by simp, Nat.zero_le _, ι1, lockM ps M1, [], ⟨empO, #[], 0, upd_same, ⟨rfl, rfl, rfl⟩, rfl, hsys, Nat.zero_le _, List.nodup_nil, .inl rfl, .nil⟩, L.rm.notin hD, L.rm.fresh hD, Ext.fresh ι1 hD, by simpa using e3⟩, ?_⟩
      rintro i m H2 ⟨rfl, hi, ι2, M2, acc, hD2, nD, R2, x2, e2⟩
      have ss : SR Z ι2 H2 (wipeW sw t.slots) (wipe σ t.slots) := ((s.mono L.le).mono x2.le).wipe _
      by_cases hlt : i < xs.length
      · refine .inr ?_
        rw [List.drop_eq_getElem_cons hlt] at e2
        simp only [dcGo] at e2
        obtain ⟨st, e2⟩ := Out.chk_okE e2
        refine ⟨W.go i ι2 H2 M2 x2 R2 st hlt, fun H' => xs.length - (i + 1) = xs.length - (i + 1) ∧ i + 1 ≤ xs.length ∧ ∃ ι2 M2 acc, DctR Z ι2 H' D false acc ∧ D ∉ ι2 ∧ RM Z ι2 M2 H' ∧ Ext ι1 ι2 H1 H' ∧ dcGo G t (evE G C C1 ec) (evE G C C1 ek) (evE G C C1 ev) ps (xs.drop (i + 1)) (wipeW sw t.slots) acc M2 = .ok kv3 M3,
          fun H' q => ⟨xs.length - (i + 1), by omega, q⟩, fun v H' y => ?_⟩
        obtain ⟨w, hw, x3, R3, wr⟩ := W.yld i ι2 H2 M2 v H' x2 R2 st hlt y
        have ew : xs[i] = w := by rw [List.getElem?_eq_getElem hlt] at hw; exact Option.some.inj hw
        rw [ew] at e2
        cases et : tgW t w (wipeW sw t.slots) with
        | none => rw [et] at e2; cases e2
        | some τ =>
          rw [et] at e2
          simp only at e2
          refine tgW_rel (ss.mono x3.le) wr et fun σ' sr' wp => ⟨?_, ?_⟩
          · have := wp t.slots (fun _ z => z)
            rw [this]
            exact wipe_idem σ t.slots
          · rw [← Out.bind_assoc] at e2
            obtain ⟨q, M4, e4, e2⟩ := Out.bind_okE e2
            have x13 := x2.trans x3
            obtain ⟨hD3, nD3⟩ := dct_frm x3 nD hD2
            refine tT_ok sr' R3 (show evT G C C1 ec τ M2 = .ok q M4 from e4) fun H4 ι4 x4 R4 s4 => ?_
            obtain ⟨hD4, nD4⟩ := dct_frm x4 nD3 hD3
            cases q with
            | false =>
              rw [if_neg Bool.false_ne_true] at e2 ⊢
              exact ⟨rfl, hlt, ι4, M4, acc, hD4, nD4, R4, x13.trans x4, e2⟩
            | true =>
              rw [if_pos rfl] at e2 ⊢
              obtain ⟨y, M5, e5, e2⟩ := Out.bind_okE e2
              obtain ⟨z, M6, e6, e2⟩ := Out.bind_okE e2
              obtain ⟨zl, e2⟩ := Out.chk_okE e2
              rw [Bool.and_eq_true] at zl
              refine tE_ok s4 R4 e5 fun yv H5 ι5 x5 R5 wy s5 => ?_
              obtain ⟨hD5, nD5⟩ := dct_frm x5 nD4 hD4
              refine tE_ok s5 R5 e6 fun zv H6 ι6 x6 R6 wz s6 => ?_
              obtain ⟨hD6, nD6⟩ := dct_frm x6 nD5 hD5
              intro s0 H0 Cc cl fp pins s u r Q' E I7 ry rz fin
              obtain ⟨o6, es6, ep6, h61, h62⟩ := id hD6
              refine DctR.dictSet (X := X.blk s0 H0 scope (compEnvC scope cl Cc X.env) fp) I7 (k.blk s0 H0 scope _ fp).toXOk nD6 hD6 zl.1 (of_decide_eq_true zl.2) (wy.mono x6.le) ry wz rz fun s8 o' I8 D8 => fin s8 _ I8 ⟨rfl, hlt, ι6, M6, dput acc y z, D8, nD6, R6.side nD6 h61 (lkO_noI false D o6) (lkO_noT false D o6) (fun q => dctO_noC o6 D q ⟨es6, ep6, h62.2.1⟩), (((x13.trans x4).trans x5).trans x6).side hD, e2⟩
      · have ei : i = xs.length := by omega
        subst ei
        rw [List.drop_length] at e2
        simp only [dcGo] at e2
        obtain ⟨st, e2⟩ := Out.chk_okE e2
        cases e2
        refine .inl ⟨W.stop ι2 H2 M3 x2 R2 st, dl, ?_⟩
        obtain ⟨u1, u2, u3, u4⟩ := L.un x2 R2
        refine ⟨u4, ?_⟩
        have hD0 : Vac H D := by
          refine L.ext.dom D (Vac.of ?_)
          cases dl with
          | none => exact hD
          | some q =>
            have ne : D ≠ q.1 := fun z => by
              obtain ⟨l, kvs, _, _, _, hd, _⟩ := L.lk
              rw [← z, hD] at hd
              cases hd
            show upd H1 q.1 (DctO q.1 q.2) D = none
            rw [upd_ne ne]
            exact hD
        obtain ⟨o6, es6, ep6, h61, h62⟩ := id hD2
        have hDu : ulH dl H2 D = some (DctO D o6) := ul_ne u4 h61 fun o z => by cases z
        refine h (.ref D) _ (ι2 ++ [D]) (Ext.told hD0 u1 nD) (u2.tell nD ?_) (.ref (snoc_ix u2 D))
        exact (DctR.mono hD2 u3 (fun ho q => by rw [h61] at q; cases q; exact hDu)).mono (Le.grow ι2 [D] _) fun _ q => q
theorem s_setDc (k : Bx X Z Wx G) {t : Tg} {i : Nat} {y : Str} {py spos : Pos} {kx vx : Expr} {ifs : List Expr} {scope : Scope} {own : List (Str × Nat)} (hy : X.N[i]? = some y) (hyl : X.env.scope.names.lookup y = some .local)
    (hsw : swapsWith (.DictComp kx vx [⟨tg, iter, ifs, 0⟩] scope pos) (some (.Name y py)) spos.line X.env = pure true) (hi : PI X tg iter (tI X Z Wx (evI G C C1 it))) (ok : BlkOk X.N X.env.scope scope own) (ho : own.map (·.2) = t.slots)
    (hg : ∀ (s : Shared) (H : Hp) (Cc : Addr) (cl : List (Str × Addr)) (fp : List Addr), PG (X.blk s H scope (compEnvC scope cl Cc X.env) fp) tg (gT Z.K t))
    (ht : ∀ (s : Shared) (H : Hp) (Cc : Addr) (cl : List (Str × Addr)) (fp : List Addr), PTs (X.blk s H scope (compEnvC scope cl Cc X.env) fp) ifs (TTx Z Wf G C C1 ec))
    (hk : ∀ (s : Shared) (H : Hp) (Cc : Addr) (cl : List (Str × Addr)) (fp : List Addr), PE (X.blk s H scope (compEnvC scope cl Cc X.env) fp) kx (TEx Z Wf G C C1 ek))
    (he : ∀ (s : Shared) (H : Hp) (Cc : Addr) (cl : List (Str × Addr)) (fp : List Addr), PE (X.blk s H scope (compEnvC scope cl Cc X.env) fp) vx (TEx Z Wf G C C1 ev)) (hs : ∀ x, foldedSetIterable iter X.env x = pure x := by intro _; rfl) :
    PS X (.Assign [.Name y py] (.DictComp kx vx [⟨tg, iter, ifs, 0⟩] scope pos) spos) (tAsg (TEx Z Wx G C C1 (.dc ek ev t it ec)) (gName i)) := by
  refine ⟨fun pins s σ H D I h => ?_⟩
  have h : TEx Z Wx G C C1 (.dc ek ev t it ec) σ H fun x H1 => gName i x σ H1 D.nx := h
  have h2 := dc_read k (scope := scope) h
  rw [← ho] at h2
  rw [exec_Assign_Name_used _ _ _ _ hsw]
  refine wpAny_bind (wpAny_standAt (wpAny_bind ?_))
  show wpAny _ X.A (do let _ ← comprehension (.DictComp kx vx [⟨tg, iter, ifs, 0⟩] scope pos) scope X.env (firstIterPos [⟨tg, iter, ifs, 0⟩] pos) newDict false (eval iter X.env) (some (assign (.Name y py) X.env))) _ _ s
  refine wpAny_bind (thn (dcW_core (Qf := fun _ s' => SP X pins D .next s') k.calm k.nd I hi ok hg ht hk he hs h2 fun L Cc s' m H' I' q hn f => ?_) fun _ s' hq => wpAny_pure (wpAny_pure hq))
  obtain ⟨dl, uo, q⟩ := q
  show wpAny _ _ (assign (.Name y py) X.env (.ref L)) _ _ _
  refine wpAny_assign_Name (store_ok2 (v := V.ref L) I' k.nd hy (.inl hyl) rfl (fun s2 I2 ⟨a, sb, ha⟩ => ?_) (.inr hyl))
  obtain ⟨f0, f1, f2, f3, f4, f5⟩ := f
  have haC : Cc ≠ a := by
    rcases ha with z | z
    · rw [z]; exact f1
    · exact fun e => f4 y a z e.symm
  refine ⟨m, hn.sameBut sb haC, fun h3 sb3 => ?_⟩
  exact ⟨_, _, inv_ul (I2.turned (t' := s2.toks) (fun b o hb e => (sb3.2 b hb).trans e) f0 f1 f3 f4 f5) uo, q⟩
end
end MP
end
section
set_option Elab.async false
set_option linter.all false
set_option maxRecDepth 100000
namespace MP
open PySem PySem.Spec PyProof.Rows L2
abbrev TSx (Z : Zt) (Wx : Wish) (G : Pg) (C C1 : Nat → List Wv → Mem → Out Wv) (n : Nat) (s : MP.St) : TS := tS Z Wx (evS G C C1 n s)
abbrev TSl (Z : Zt) (Wx : Wish) (G : Pg) (C C1 : Nat → List Wv → Mem → Out Wv) (n : Nat) (s : Sl) : TS := tS Z Wx (evSl G C C1 n s)
section
variable {X : Cx} {Z : Zt} {Wx : Wish} {G : Pg} {C C1 : Nat → List Wv → Mem → Out Wv} {fu : Nat} {a b c e tg iter elt : Expr} {es : List Expr} {ea eb ec ee : Ex} {el : El} {it : MP.It} {pos p p2 p3 apos : Pos} {st : Stmt} {rest : List Stmt} {ss : MP.St} {sl sl2 : Sl}
variable {pins : List (Addr × Obj)} {σ : L2.St} {H H1 H2 : Hp} {s : Shared} {ι ι1 ι2 : List Addr} {M : Mem} {sw : Sw}
theorem sOut.ofOb {α : Type} {o : Option α} {g : α → Mem → Out (Fl × Sw)} {D : Ends} (h : sOut Z Wx ι H ((Out.ofO o M).bind g) D) : ∃ w, o = some w ∧ sOut Z Wx ι H (g w M) D := by
  cases o with
  | some w => exact ⟨w, rfl, h⟩
  | none => exact False.elim h
theorem sOut.nx {D : Ends} (h : sOut Z Wx ι H (.ok (.nx, sw) M) D) (R : RM Z ι M H) (q : SR Z ι H sw σ) : D.nx σ H := h σ H ι (Ext.refl _ _) R q
theorem ss_nil : PSs X [] (TSl Z Wx G C C1 fu .nil) := by
  refine ⟨fun pins s σ H D I ⟨ι, sw, M, sr, R, h⟩ => pss_nil.run pins s σ H D I ?_⟩
  simp only [evSl] at h
  exact h.nx R sr
theorem ss_cons (h1 : PS X st (TSx Z Wx G C C1 fu ss)) (h2 : PSs X rest (TSl Z Wx G C C1 fu sl)) : PSs X (st :: rest) (TSl Z Wx G C C1 fu (.cons ss sl)) := by
  refine (pss_cons h1 h2).weak fun D σ H ⟨ι, sw, M, sr, R, h⟩ => ⟨ι, sw, M, sr, R, ?_⟩
  simp only [evSl] at h
  cases e : evS G C C1 fu ss sw M with
  | bad => rw [e] at h; exact h
  | exc c M1 => rw [e] at h; exact h
  | ok q M1 =>
    obtain ⟨f, sw1⟩ := q
    rw [e] at h
    intro σ' H' ι' x R1 s1
    cases f with
    | nx => exact ⟨ι', sw1, M1, s1, R1, sOut.shift x h⟩
    | brk => exact h σ' H' ι' x R1 s1
    | ct => exact h σ' H' ι' x R1 s1
    | ret w => exact h σ' H' ι' x R1 s1
theorem s_asg (k : Bx X Z Wx G) {t : Tg} (he : PE X e (TEx Z Wx G C C1 ee)) (hg : PG X tg (gT Z.K t)) (hs : swapsWithSole [tg] e pos.line X.env = pure false := by rfl) (hw : swappedStores [tg] e X.env = pure none := by rfl)
    (h1 : (assignEach [tg] X.env).map (·.2) = [assign tg X.env] := by rfl) : PS X (.Assign [tg] e pos) (TSx Z Wx G C C1 fu (.asg t ee)) := by
  refine (ps_asg he hg hs hw h1).weak fun D σ H ⟨ι, sw, M, sr, R, h⟩ => ?_
  simp only [evS] at h
  refine tE.seqS sr R h fun x M1 v H1 ι1 e1 R1 q1 s1 h1 => ?_
  obtain ⟨τ, et, h1⟩ := h1.ofOb
  exact tgW_rel s1 q1 et fun σ' sr' _ => h1.nx R1 sr'
theorem s_set {i : Nat} (h : PS X st (tAsg (TEx Z Wx G C C1 ee) (gName i))) : PS X st (TSx Z Wx G C C1 fu (.asg (.nm i) ee)) := by
  refine h.weak fun D σ H ⟨ι, sw, M, sr, R, h⟩ => ?_
  simp only [evS] at h
  refine tE.seqS sr R h fun x M1 v H1 ι1 e1 R1 q1 s1 h1 => ?_
  obtain ⟨τ, et, h1⟩ := h1.ofOb
  simp only [tgW] at et
  cases et
  exact h1.nx R1 (s1.set q1 i)
theorem s_par (k : Bx X Z Wx G) (i j : Nat) {x y : Str} {px py pt pt2 : Pos} {kt k2 : Nat} (ha : PA X [a, b] (TAx Z Wx G C C1 el)) (hi : stoB X.N X.env.scope X.fn i x = true := by kernel_rfl) (hj : stoB X.N X.env.scope X.fn j y = true := by kernel_rfl) (hij : i ≠ j := by decide)
    (hx : X.env.scope.names.lookup x = some .local := by rfl) (hy : X.env.scope.names.lookup y = some .local := by rfl)
    (hw : swappedStores [.Tuple [.Name x px, .Name y py] kt pt] (.Tuple [a, b] k2 pt2) X.env = pure (some [x, y]) := by rfl)
    (hs : swapsWithSole [.Tuple [.Name x px, .Name y py] kt pt] (.Tuple [a, b] k2 pt2) pos.line X.env = pure false := by rfl) :
    PS X (.Assign [.Tuple [.Name x px, .Name y py] kt pt] (.Tuple [a, b] k2 pt2) pos) (TSx Z Wx G C C1 fu (.asg (.tup [i, j]) (.tup el))) := by
  obtain ⟨h1, _⟩ := stoB_ok hi
  obtain ⟨h2, _⟩ := stoB_ok hj
  refine (ps_par k.calm k.nd h1 h2 hij hx hy ha hw hs).weak fun D σ H ⟨ι, sw, M, sr, R, h⟩ => ⟨ι, sw, M, sr, R, ?_⟩
  simp only [evS, evE] at h
  cases e : evL G C C1 el sw M with
  | bad => rw [e] at h; exact h
  | exc c M1 => rw [e] at h; exact fun H' ι' x R => h σ H' ι' x R
  | ok ws M1 =>
    rw [e] at h
    simp only [Out.bind_ok] at h
    intro vs H' ι' x1 R1 wr
    cases hl : lenOk ws.length with
    | false => rw [hl] at h; exact False.elim h
    | true =>
      rw [hl] at h
      have h : sOut Z Wx ι H ((Out.ofO (tgW (.tup [i, j]) (.tup ws) sw) M1).bind fun σ M => .ok (.nx, σ) M) D := h
      obtain ⟨τ, et, h⟩ := h.ofOb
      cases wr with
      | nil => simp [tgW, setAll] at et
      | cons w1 t1 =>
        cases t1 with
        | nil => simp [tgW, setAll] at et
        | cons w2 t2 =>
          cases t2 with
          | cons _ _ => simp [tgW, setAll] at et
          | nil =>
            simp only [tgW, setAll] at et
            cases et
            exact ⟨_, _, rfl, h _ H' ι' x1 R1 (((sr.mono x1.le).set w1 i).set w2 j)⟩
theorem ins_write {l c : Nat} {a dx : Addr} {fs : List (Str × Wv)} {vs : List (Str × V)} {f : Str} {w : Wv} {v : V} (R : RM Z ι M H) (hM : M[l]? = some (.ins c fs)) (hl : ι[l]? = some a) (h1 : H a = some (.ins (Z.cls c) dx vs)) (h2 : FsR Z ι H fs vs) (hw : WR Z ι H w v) :
    Ext ι ι H (upd H a (.ins (Z.cls c) dx (L2.putF f v vs))) ∧ RM Z ι (M.set l (.ins c (MP.putF f w fs))) (upd H a (.ins (Z.cls c) dx (L2.putF f v vs))) := by
  have ex : Ext ι ι H (upd H a (.ins (Z.cls c) dx (L2.putF f v vs))) := Ext.write R hl (fun ob φ e => by rw [h1] at e; cases e)
  exact ⟨ex, R.write hM hl h1 (fun ps z => by cases z) (fun q z => by cases z) ⟨dx, _, upd_same, (h2.put hw).mono ex.le⟩⟩
theorem setA_at {o : Wv} {ov : V} {f : Str} {w : Wv} {v : V} {D : Ends} (R : RM Z ι M H) (ho : WR Z ι H o ov) (hw : WR Z ι H w v) (sr : SR Z ι H sw σ) (h : sOut Z Wx ι H ((setA G o f w M).bind fun _ M => .ok (.nx, sw) M) D) :
    ∃ l c fs a dx vs, o = .ref l ∧ ov = .ref a ∧ M[l]? = some (.ins c fs) ∧ ι[l]? = some a ∧ (G.cls c).isSome = true ∧ H a = some (.ins (Z.cls c) dx vs) ∧ FsR Z ι H fs vs ∧ vs.length < 1000 ∧ D.nx σ (upd H a (.ins (Z.cls c) dx (L2.putF f v vs))) := by
  cases ho with
  | ref hl =>
    rename_i l a
    unfold setA at h
    simp only at h
    split at h
    · rename_i c fs hM
      cases hc : ((G.cls c).isSome && decide (fs.length < 1000)) with
      | false => rw [hc] at h; exact False.elim h
      | true =>
        rw [hc] at h
        rw [Bool.and_eq_true] at hc
        obtain ⟨dx, vs, h1, h2⟩ := R.ob _ _ _ hM hl
        have h : sOut Z Wx ι H (.ok (.nx, sw) (M.set l (.ins c (MP.putF f w fs)))) D := h
        obtain ⟨ex, R2⟩ := ins_write (f := f) R hM hl h1 h2 hw
        refine ⟨l, c, fs, a, dx, vs, rfl, rfl, hM, hl, hc.1, h1, h2, ?_, h _ _ ι ex R2 (sr.mono ex.le)⟩
        have := of_decide_eq_true hc.2
        rw [← Paired.length h2]
        exact this
    · exact False.elim h
  | _ => exact False.elim h
theorem s_asgA (k : Bx X Z Wx G) {f : Str} {pos' : Pos} (hf : AtOk Z G f) (ha : PE X a (TEx Z Wx G C C1 ea)) (hv : PE X e (TEx Z Wx G C C1 ee)) (hs : swapsWith e (some (.Attribute a f pos')) pos.line X.env = pure false := by rfl) :
    PS X (.Assign [.Attribute a f pos'] e pos) (TSx Z Wx G C C1 fu (.asgA ea f ee)) := by
  refine (ps_fld ha hv hs).weak fun D σ H ⟨ι, sw, M, sr, R, h⟩ => ?_
  simp only [evS] at h
  refine tE.seqS sr R h fun x M1 v H1 ι1 e1 R1 q1 s1 h1 => tE.seqS s1 R1 h1 fun y M2 u H2 ι2 e2 R2 q2 s2 h2 => ?_
  obtain ⟨l, c, fs, aa, dx, vs, rfl, rfl, hM, hl, hc, g1, g2, g3, g4⟩ := setA_at R2 q2 (q1.mono e2.le) s2 h2
  obtain ⟨kk, hk⟩ := Option.isSome_iff_exists.mp hc
  obtain ⟨c1, c2⟩ := hf c kk hk
  rw [← k.K] at c1 c2
  exact ⟨aa, Z.cls c, dx, vs, rfl, g1, c1, c2, g3, g4⟩
theorem set_ok (k : XOk X Z) : PSet X (fun o i v H Q => ∃ ι M wo wi wv, RM Z ι M H ∧ WR Z ι H wo o ∧ WR Z ι H wi i ∧ WR Z ι H wv v ∧ ∃ M', setW wo wi wv M = .ok () M' ∧ ∀ H', Ext ι ι H H' → RM Z ι M' H' → Q H') := by
  intro pins s σ H o i v ov iv u Q I ro ri rv ⟨ι, M, wo, wi, wv, R, h1, h2, h3, M', e, q⟩
  cases h1 with
  | ref hl =>
    rename_i l a
    cases ro
    simp only [setW] at e
    split at e
    · rename_i ws hM
      obtain ⟨vs, g1, g2⟩ := R.ob _ _ _ hM hl
      split at e
      · rename_i j
        cases h2
        have hlen := g2.length
        have fin : ∀ n : Nat, L2.ixN vs.length j = some n → M' = M.set l (.lst (ws.set n wv)) → wpAny (model X.prog X.w) X.A (setItem (.ref a) iv u) (fun _ s' => ∃ H', L2.Inv X pins σ H' s' ∧ Q H') X.xe s := fun n hn eM => by
          subst eM
          obtain ⟨ex, R2⟩ := lst_write R hM hl g1 (g2.set h3 n)
          exact set_list pins s σ H (.ref a) _ v (.ref a) iv u Q I (show RelV (.ref a) (.ref a) from rfl) ri rv ⟨a, vs, j, n, rfl, rfl, g1, hn, q _ ex R2⟩
        by_cases h0 : 0 ≤ j
        · rw [if_pos h0] at e
          split at e
          · rename_i hlt
            cases e
            refine fin j.toNat ?_ rfl
            unfold L2.ixN
            rw [if_pos h0, if_pos (by omega)]
          · cases e
        · rw [if_neg h0] at e
          split at e
          · rename_i hge
            cases e
            refine fin (j + ws.length).toNat ?_ rfl
            unfold L2.ixN
            rw [if_neg h0, if_pos (by rw [← hlen]; exact hge), hlen]
          · cases e
      · cases e
    · rename_i kvs hM
      obtain ⟨c, e⟩ := Out.chk_okE e
      rw [Bool.and_eq_true] at c
      cases e
      have D := R.ob _ _ _ hM hl
      refine DctR.setItem I k R hl D c.1 (of_decide_eq_true c.2) h2 ri h3 rv fun s' o' I' D' ex => ⟨_, I', q _ ex ?_⟩
      obtain ⟨o, es, ep, g1, g2, g3, _⟩ := id D
      exact R.write hM hl g1 (lkO_noT false a o) (fun q => dctO_noC o a q ⟨es, ep, g3⟩) D'
    · cases e
  | _ => cases e
theorem s_asgS (k : Bx X Z Wx G) {ps : Pos} (ho : PE X a (TEx Z Wx G C C1 ea)) (hi : PE X b (TEx Z Wx G C C1 eb)) (hv : PE X e (TEx Z Wx G C C1 ee))
    (ha : ∀ v, assign (.Subscript a b ps) X.env v = (do
      let ov ← holding [v] (eval a X.env)
      let iv ← holding [v, ov] (eval b X.env)
      standAt ps
      holding [v, ov, iv] (setItem ov iv v)
      release [v, ov, iv] []) := by intro _; rfl) (hs : swapsWithSole [.Subscript a b ps] e pos.line X.env = pure false := by rfl) (hw : swappedStores [.Subscript a b ps] e X.env = pure none := by rfl)
    (h1 : (assignEach [.Subscript a b ps] X.env).map (·.2) = [assign (.Subscript a b ps) X.env] := by rfl) : PS X (.Assign [.Subscript a b ps] e pos) (TSx Z Wx G C C1 fu (.asgS ea eb ee)) := by
  refine (ps_asg hv (pg_sub ho hi (set_ok k.toXOk) ha) hs hw h1).weak fun D σ H ⟨ι, sw, M, sr, R, h⟩ => ?_
  simp only [evS] at h
  refine tE.seqS sr R h fun x M1 v H1 ι1 e1 R1 q1 s1 h1 => tE.seqS s1 R1 h1 fun y M2 u H2 ι2 e2 R2 q2 s2 h2 => tE.seqS s2 R2 h2 fun z M3 t H3 ι3 e3 R3 q3 s3 h3 => ?_
  cases e : setW y z x M3 with
  | bad => rw [e] at h3; exact False.elim h3
  | exc c M4 =>
    exfalso
    unfold setW at e
    split at e
    · split at e
      · split at e
        · split at e
          · split at e <;> cases e
          · split at e <;> cases e
        · cases e
      · rename_i kvs _
        cases hc : (keyOk kvs z && lenOk (kvs.length + 1)) <;> rw [hc] at e <;> cases e
      · cases e
    · cases e
  | ok q M4 =>
    rw [e] at h3
    exact ⟨ι3, M3, y, z, x, R3, q2.mono e3.le, q3, (q1.mono e2.le).mono e3.le, M4, e, fun H' ex R4 => h3 σ H' ι3 ex R4 (s3.mono ex.le)⟩
def augOf : Op → Bool
  | .add => true
  | .sub => true
  | _ => false
theorem ip_aug (o : Op) (ho : augOf o = true) : PIp X (opOf o) (r2 Z (augW o)) := by
  intro pins s σ H x y v u Q I rx ry ⟨ι, M, wa, wb, R, ha, hb, h⟩
  cases o <;> first | cases ho | skip
  · cases ha with
    | int i =>
      cases hb with
      | int j => exact ip_add pins s σ H _ _ v u Q I rx ry ⟨i, j, rfl, rfl, rOut.val h R (.int _)⟩
      | _ => exact False.elim h
    | _ => exact False.elim h
  · cases ha with
    | int i =>
      cases hb with
      | int j => exact ip_sub pins s σ H _ _ v u Q I rx ry ⟨i, j, rfl, rfl, rOut.val h R (.int _)⟩
      | _ => exact False.elim h
    | _ => exact False.elim h
theorem prim_aug (o : Op) (x y : Wv) (M : Mem) : Prim (augW o x y M) := by
  unfold augW
  split <;> first | exact Prim.ok | exact Prim.bad
theorem s_aug (k : Bx X Z Wx G) (i : Nat) (o : Op) {x : Str} {pos' : Pos} (he : PE X e (TEx Z Wx G C C1 ee)) (ho : augOf o = true := by rfl) (hi : stoB X.N X.env.scope X.fn i x = true := by kernel_rfl) : PS X (.AugAssign (.Name x pos') (opOf o) e pos) (TSx Z Wx G C C1 fu (.aug i o ee)) := by
  obtain ⟨h1, h2, h3⟩ := stoB_ok hi
  refine (ps_aug k.nd h1 h2 he (ip_aug (Z := Z) o ho) h3).weak fun D σ H ⟨ι, sw, M, sr, R, h⟩ => ?_
  simp only [evS] at h
  obtain ⟨x, ex, h⟩ := h.ofOb
  unfold getV at ex
  cases q : sw[i]? with
  | none => rw [q] at ex; cases ex
  | some y =>
    rw [q] at ex
    cases y with
    | none => cases ex
    | some w =>
      cases ex
      obtain ⟨v, g1, g2⟩ := sr.get i x q
      refine ⟨v, g1, tE.seqS sr R h fun y M1 u H1 ι1 e1 R1 q1 s1 h1 => ⟨ι1, M1, x, y, R1, g2.mono e1.le, q1, ?_⟩⟩
      cases e : augW o x y M1 with
      | bad => rw [e] at h1; exact h1
      | exc c M2 => exact absurd e (prim_aug o x y M1 c M2)
      | ok z M2 =>
        rw [e] at h1
        exact fun zv H2 ι2 e2 R2 q2 => sOut.nx (sOut.shift e2 h1) R2 ((s1.mono e2.le).set q2 i)
theorem s_ex (he : PE X e (TEx Z Wx G C C1 ee)) (hs : swapsWith e none pos.line X.env = pure false := by rfl) : PS X (.Expr e pos) (TSx Z Wx G C C1 fu (.ex ee)) :=
  (ps_expr he hs).weak fun D σ H ⟨ι, sw, M, sr, R, h⟩ => by
    simp only [evS] at h
    exact tE.seqS sr R h fun x M1 v H1 ι1 e1 R1 q1 s1 h1 => h1.nx R1 s1
theorem s_ret (he : PE X e (TEx Z Wx G C C1 ee)) : PS X (.Return (some e) pos) (TSx Z Wx G C C1 fu (.ret ee)) :=
  (ps_ret he).weak fun D σ H ⟨ι, sw, M, sr, R, h⟩ => by
    simp only [evS] at h
    exact tE.seqS sr R h fun x M1 v H1 ι1 e1 R1 q1 s1 h1 => h1 σ H1 ι1 (Ext.refl _ _) R1 s1 v q1
theorem s_pass : PS X (.Pass pos) (TSx Z Wx G C C1 fu .pass) :=
  ps_pass.weak fun D σ H ⟨ι, sw, M, sr, R, h⟩ => by
    simp only [evS] at h
    exact h.nx R sr
theorem evT_bind {β : Type} (g : Bool → Mem → Out β) : ((evE G C C1 ec sw M).bind fun x M => (Out.ofO (truW G x M) M).bind g) = (evT G C C1 ec sw M).bind g := by
  unfold evT
  rw [Out.bind_assoc]
theorem s_if {th el : List Stmt} (hc : PT X c (TTx Z Wx G C C1 ec)) (ha : PSs X th (TSl Z Wx G C C1 fu sl)) (hb : PSs X el (TSl Z Wx G C C1 fu sl2)) : PS X (.If c th el pos) (TSx Z Wx G C C1 fu (.ifs ec sl sl2)) :=
  (ps_if hc ha hb).weak fun D σ H ⟨ι, sw, M, sr, R, h⟩ => by
    simp only [evS] at h
    rw [evT_bind] at h
    refine tT.seqS sr R h fun q M1 H1 ι1 e1 R1 s1 h1 => ?_
    cases q with
    | true => exact ⟨ι1, sw, M1, s1, R1, h1⟩
    | false => exact ⟨ι1, sw, M1, s1, R1, h1⟩
theorem s_whl (po : PassesOwn (model X.prog X.w) X.A X.env X.xe) {body : List Stmt} (hc : PT X c (TTx Z Wx G C C1 ec)) (hb : PSs X body (TSl Z Wx G C C1 fu sl)) : PS X (.While c body [] pos) (TSx Z Wx G C C1 fu (.whl ec sl)) :=
  (ps_while po hc hb).weak fun D σ H ⟨ι, sw, M, sr, R, h⟩ => by
    simp only [evS] at h
    refine ⟨fun m σ2 H2 => ∃ ι2 sw2 M2, SR Z ι2 H2 sw2 σ2 ∧ RM Z ι2 M2 H2 ∧ sOut Z Wx ι2 H2 (whlGo G (evE G C C1 ec) (evSl G C C1 fu sl) m sw2 M2) D, ⟨fu, ι, sw, M, sr, R, h⟩, ?_⟩
    rintro m σ2 H2 ⟨ι2, sw2, M2, s2, R2, h2⟩
    cases m with
    | zero => exact False.elim h2
    | succ m =>
      simp only [whlGo] at h2
      rw [evT_bind] at h2
      refine tT.seqS s2 R2 h2 fun q M3 H3 ι3 e3 R3 s3 h3 => ?_
      cases q with
      | false =>
        rw [if_neg Bool.false_ne_true] at h3 ⊢
        exact h3.nx R3 s3
      | true =>
        rw [if_pos rfl] at h3 ⊢
        refine ⟨fun σ' H' => ∃ ι2 sw2 M2, SR Z ι2 H' sw2 σ' ∧ RM Z ι2 M2 H' ∧ sOut Z Wx ι2 H' (whlGo G (evE G C C1 ec) (evSl G C C1 fu sl) m sw2 M2) D, fun σ' H' q => ⟨m, Nat.lt_succ_self _, q⟩, ι3, sw2, M3, s3, R3, ?_⟩
        cases e : evSl G C C1 fu sl sw2 M3 with
        | bad => rw [e] at h3; exact h3
        | exc c M4 => rw [e] at h3; exact h3
        | ok q M4 =>
          obtain ⟨f, sw4⟩ := q
          rw [e] at h3
          intro σ' H' ι' x R4 s4
          cases f with
          | nx => exact ⟨ι', sw4, M4, s4, R4, sOut.shift x h3⟩
          | ct => exact ⟨ι', sw4, M4, s4, R4, sOut.shift x h3⟩
          | brk => exact h3 σ' H' ι' x R4 s4
          | ret w => exact h3 σ' H' ι' x R4 s4
theorem s_for (k : Bx X Z Wx G) (po : PassesOwn (model X.prog X.w) X.A X.env X.xe) {t : Tg} {body : List Stmt} (hi : PI X tg iter (tI X Z Wx (evI G C C1 it))) (hg : PG X tg (gT Z.K t)) (hb : PSs X body (TSl Z (lkW X Wx) G C C1 fu sl))
    (hs : ∀ x, foldedSetIterable iter X.env x = pure x := by intro _; rfl) : PS X (.For tg iter body [] pos) (TSx Z Wx G C C1 fu (.for_ t it sl)) := by
  have h0 := ps_for (pos := pos) po k.calm hi hg hb hs
  refine ⟨fun pins s σ H D I ⟨ι, sw, M, sr, R, h⟩ => ?_⟩
  simp only [evS] at h
  refine thn (h0.run pins s σ H ⟨fun σ' H' => ∃ dl, UlOk X dl H' ∧ D.nx σ' (ulH dl H'), fun v H' => ∃ dl, UlOk X dl H' ∧ D.rt v (ulH dl H'), fun _ _ => False, fun _ _ => False⟩ I ⟨ι, sw, M, sr, R, ?_⟩) fun f s1 q => ?_
  · cases e : evI G C C1 it sw M with
    | bad => rw [e] at h; exact h
    | exc c M1 => rw [e] at h; exact fun H' ι' x R => h σ H' ι' x R
    | ok r M1 =>
      obtain ⟨xs, ps⟩ := r
      rw [e] at h
      intro J H1 ι1 dl L W
      simp only [Out.bind_ok] at h
      generalize hres : forGo t (evSl G C C1 fu sl) ps xs sw (lockM ps M1) = res at h
      have nb : res ≠ .bad := fun z => by rw [z] at h; exact h
      refine ⟨fun i m σ2 H2 => m = xs.length - i ∧ i ≤ xs.length ∧ ∃ ι2 sw2 M2, SR Z ι2 H2 sw2 σ2 ∧ RM Z ι2 M2 H2 ∧ Ext ι1 ι2 H1 H2 ∧ forGo t (evSl G C C1 fu sl) ps (xs.drop i) sw2 M2 = res,
        ⟨xs.length, by simp, Nat.zero_le _, ι1, sw, lockM ps M1, sr.mono L.le, L.rm, Ext.refl _ _, by simpa using hres⟩, ?_⟩
      rintro i m σ2 H2 ⟨rfl, hi2, ι2, sw2, M2, s2, R2, x2, e2⟩
      by_cases hlt : i < xs.length
      · refine .inr ?_
        rw [List.drop_eq_getElem_cons hlt] at e2
        simp only [forGo] at e2
        cases st : stays ps M2 with
        | false => rw [st] at e2; exact absurd e2.symm nb
        | true =>
          rw [st] at e2
          simp only [Out.chk] at e2
          refine ⟨W.go i ι2 H2 M2 x2 R2 st hlt, fun σ' H' => xs.length - (i + 1) = xs.length - (i + 1) ∧ i + 1 ≤ xs.length ∧ ∃ ι2 sw2 M2, SR Z ι2 H' sw2 σ' ∧ RM Z ι2 M2 H' ∧ Ext ι1 ι2 H1 H' ∧ forGo t (evSl G C C1 fu sl) ps (xs.drop (i + 1)) sw2 M2 = res,
            fun σ' H' q => ⟨xs.length - (i + 1), by omega, q⟩, fun v H' y => ?_⟩
          obtain ⟨w, hw, x3, R3, wr⟩ := W.yld i ι2 H2 M2 v H' x2 R2 st hlt y
          have ew : xs[i] = w := by rw [List.getElem?_eq_getElem hlt] at hw; exact Option.some.inj hw
          rw [ew] at e2
          cases et : tgW t w sw2 with
          | none => rw [et] at e2; exact absurd e2.symm nb
          | some τ =>
            rw [et] at e2
            simp only at e2
            refine tgW_rel (s2.mono x3.le) wr et fun σ' sr' wp => ⟨ι2, τ, M2, sr', R3, ?_⟩
            have x13 := x2.trans x3
            cases e5 : evSl G C C1 fu sl τ M2 with
            | bad => rw [e5] at e2; exact absurd e2.symm nb
            | exc c M4 =>
              rw [e5] at e2
              have e2 : res = .exc c M4 := e2.symm
              rw [e2] at h
              intro σ4 H4 ι4 x4 R4
              obtain ⟨u1, u2, u3, u4⟩ := L.un (x13.trans x4) R4
              exact ⟨dl, u4, h σ4 _ ι4 u1 u2⟩
            | ok q M4 =>
              obtain ⟨f, sw4⟩ := q
              rw [e5] at e2
              intro σ4 H4 ι4 x4 R4 s4
              have x14 := x13.trans x4
              cases f with
              | nx => exact ⟨rfl, hlt, ι4, sw4, M4, s4, R4, x14, e2⟩
              | ct => exact ⟨rfl, hlt, ι4, sw4, M4, s4, R4, x14, e2⟩
              | brk =>
                have e2 : res = .ok (.nx, sw4) M4 := e2.symm
                rw [e2] at h
                obtain ⟨u1, u2, u3, u4⟩ := L.un x14 R4
                exact ⟨dl, u4, h σ4 _ ι4 u1 u2 (s4.mono u3)⟩
              | ret w =>
                have e2 : res = .ok (.ret w, sw4) M4 := e2.symm
                rw [e2] at h
                obtain ⟨u1, u2, u3, u4⟩ := L.un x14 R4
                exact fun v hv => ⟨dl, u4, h σ4 _ ι4 u1 u2 (s4.mono u3) v (hv.mono u3)⟩
      · have ei : i = xs.length := by omega
        subst ei
        rw [List.drop_length] at e2
        simp only [forGo] at e2
        cases st : stays ps M2 with
        | false => rw [st] at e2; exact absurd e2.symm nb
        | true =>
          rw [st] at e2
          have e2 : res = .ok (.nx, sw2) M2 := e2.symm
          rw [e2] at h
          obtain ⟨u1, u2, u3, u4⟩ := L.un x2 R2
          exact .inl ⟨W.stop ι2 H2 M2 x2 R2 st, dl, u4, h σ2 _ ι2 u1 u2 (s2.mono u3)⟩
  · cases f with
    | next => obtain ⟨σ', H', I2, dl, uo, q⟩ := q; exact ⟨σ', _, inv_ul I2 uo, q⟩
    | brk => obtain ⟨σ', H', I2, q⟩ := q; exact False.elim q
    | cont => obtain ⟨σ', H', I2, q⟩ := q; exact False.elim q
    | ret v => obtain ⟨x, σ', H', I2, r, dl, uo, q⟩ := q; exact ⟨x, σ', _, inv_ul I2 uo, r, q⟩
structure ExOk (K : PySem.W.Frag) (mg : Str → Option Value) (x : Str) (C : Addr) : Prop where
  mg : mg x = some (.ref C)
  ex : PySem.W.excIn K C [.type "ValueError", .type "Exception", .type "BaseException", .type "object"] "ValueError.__new__" = true
  kp : PySem.W.keepIn K (.ref C) = true
  sub : PySem.W.subIn K (.ref C) (.type "BaseException") = some true
  ty : PySem.W.typeIn K (.ref C) = some (.type "type")
end
end MP
end
section
set_option Elab.async false
set_option linter.all false
set_option maxRecDepth 100000
namespace MP
open PySem PySem.Spec PyProof.Rows L2
mutual
theorem noL_nil {h : Heap} : ∀ {d : PyData} {u : Value} {as : List Addr}, noL d = true → Reads h u d as → as = []
  | .none, _, _, _, r => by cases r; rfl
  | .bool _, _, _, _, r => by cases r; rfl
  | .int _, _, _, _, r => by cases r; rfl
  | .str _, _, _, _, r => by cases r; rfl
  | .tuple xs, _, _, n, r => by
    cases r with
    | tuple h1 h2 h3 h4 => exact noLs_nil (by simpa [noL] using n) h4
  | .list _, _, _, n, r => by simp [noL] at n
  | .dict _, _, _, n, r => by simp [noL] at n
theorem noLs_nil {h : Heap} : ∀ {ds : List PyData} {us : List Value} {as : List Addr}, noLs ds = true → ReadsAll h us ds as → as = []
  | [], _, _, _, r => by cases r; rfl
  | d :: ds, _, _, n, r => by
    cases r with
    | cons h1 h2 =>
      rw [noLs, Bool.and_eq_true] at n
      rw [noL_nil n.1 h1, noLs_nil n.2 h2]
      rfl
end
def KB (x : Str) (scope : Scope) (e : Expr) (k : Ke) : Prop :=
  ∀ (P : Program) (w : World) (A : Around) (E : Value → Shared → Prop) (env : Env) (s : Shared) (m : Str → Option Value) (u : Value) (D d : PyData) (Q : Value → Shared → Prop), env.scope = scope → scope.kind = .function → scope.names.lookup x = some .local →
    s.heap.Ns env.locals m → m x = some u → Reads s.heap u D [] → keyD k D = some d →
    (∀ h' tk r, (∀ b o, s.heap.get? b = some o → h'.get? b = some o) → Reads h' r d [] → Q r { s with heap := h', toks := tk }) → wpAny (model P w) A (eval e env) Q E s
theorem kb_v {x : Str} {scope : Scope} {pos : Pos} (hd : (x == ("__debug__" : Str)) = false := by decide) : KB x scope (.Name x pos) .v := by
  intro P w A E env s m u D d Q he hk hl hn hm hr ek h
  cases ek
  refine wpAny_Name (wpAny_loadName_local (by rw [he]; exact hk) (show env.scope.names.lookup x = some .local by rw [he]; exact hl) hn hm ?_) hd
  exact h s.heap s.toks u (fun _ _ q => q) hr
theorem reads_items {h : Heap} {us : List Value} {ds : List PyData} (r : ReadsAll h us ds []) : ∀ {i : Nat} {d : PyData}, ds[i]? = some d → ∃ u, us[i]? = some u ∧ Reads h u d [] := by
  intro i d hd
  induction ds generalizing us i with
  | nil => simp at hd
  | cons x xs ih =>
    generalize ha : ([] : List Addr) = as at r
    cases r with
    | cons h1 h2 =>
      rename_i v vs as bs
      have ha2 : as = [] ∧ bs = [] := by
        cases as with
        | nil => exact ⟨rfl, by simpa using ha.symm⟩
        | cons _ _ => simp at ha
      obtain ⟨rfl, rfl⟩ := ha2
      cases i with
      | zero => simp at hd; subst hd; exact ⟨v, rfl, h1⟩
      | succ i => obtain ⟨u, e1, e2⟩ := ih h2 (by simpa using hd); exact ⟨u, by simpa using e1, e2⟩
theorem seq_ix {i n : Nat} (h : i < n) : seqIndex? (i : Int) n = some i := by
  unfold seqIndex?
  simp
  omega
theorem kb_sub {x : Str} {scope : Scope} {e : Expr} {k : Ke} (i : Nat) {j : Nat} {pos p : Pos} (hi : i < 1000) (he : KB x scope e k) : KB x scope (.Subscript e (.Constant (.int (i : Int)) j p) pos) (.sub k i) := by
  intro P w A E env s m u D d Q hs hk hl hn hm hr ek h
  simp only [keyD] at ek
  split at ek
  · rename_i xs e1
    refine Subscript_ (he P w A E env s m u D (.tuple xs) _ hs hk hl hn hm hr e1 fun h' tk r kp rr => ?_)
    refine wpAny_Constant_int ?_
    cases rr with
    | tuple g1 g2 g3 g4 =>
      rename_i a o vs n
      obtain ⟨v, e2, rv⟩ := reads_items g4 ek
      have hlt : i < vs.size := by
        have := (List.getElem?_eq_some_iff.mp e2).1
        simpa using this
      have fin : Q v { s with heap := h', toks := tk + 1 } := h h' (tk + 1) v kp rv
      refine subscriptTail_builtinR (x := v) (T := "tuple") ⟨o, g1, g2⟩ slot_tuple_getitem.lookup ?_
      exact getItem_tuple (j := i) (Q := fun r s' => r = v ∧ Q r s') ⟨o, g1, g2, n, g3⟩ (by omega) (by omega) (seq_ix hlt) (by rw [← Array.getElem?_toList]; exact e2) ⟨rfl, fin⟩
  · cases ek
theorem kb_tup {x : Str} {scope : Scope} {e f : Expr} {k l : Ke} {j : Nat} {pos : Pos} (he : KB x scope e k) (hf : KB x scope f l) (h1 : ∀ env, starEach [e, f] env = [(false, eval e env), (false, eval f env)] := by intro _; rfl) : KB x scope (.Tuple [e, f] j pos) (.tup k l) := by
  intro P w A E env s m u D d Q hs hk hl hn hm hr ek h
  simp only [keyD] at ek
  split at ek
  · rename_i a b e1 e2
    cases ek
    refine wpAny_Tuple_spliced ?_
    rw [h1]
    show wpAny _ _ (spliced ((false, eval e env) :: backTo pos [(false, eval f env)])) _ _ s
    refine Calls.spliced_cons (he P w A E env s m u D a _ hs hk hl hn hm hr e1 fun h' tk r kp rr => ?_)
    show wpAny _ _ (spliced ((false, eval f env) :: backTo pos [])) _ _ _
    refine Calls.spliced_cons (hf P w A E env { s with heap := h', toks := tk } m u D b _ hs hk hl (hn.keeps kp) hm (PyProof.Rows.Reads.keeps kp hr) e2 fun h2 tk2 r2 kp2 rr2 => ?_)
    refine Calls.spliced_nil ⟨by show 2 ≤ sizeLine; decide, ?_⟩
    refine h _ tk2 (.ref h2.objs.size) (fun b o q => Heap.get?_push_of_some _ (kp2 b o (kp b o q))) ?_
    have r1 := PyProof.Rows.Reads.keeps (fun b o q => Heap.get?_push_of_some { cls := .type "tuple", data := .seq [r, r2].toArray } (kp2 b o q)) rr
    have r2' := PyProof.Rows.Reads.keeps (fun b o q => Heap.get?_push_of_some { cls := .type "tuple", data := .seq [r, r2].toArray } q) rr2
    exact .tuple (Heap.get?_push_size _ rfl) rfl rfl (.cons r1 (.cons r2' .nil))
  · cases ek
theorem lam_turn {P : Program} {w : World} {A : Around} {s : Shared} {f c' : Addr} {q x : Str} {params : Arguments} {body : Expr} {scope : Scope} {pm ctv u : Value} {k : Ke} {D d : PyData} {E : Value → Shared → Prop} (hroom : A.depth < recursionLimit)
    (ho : s.heap.get? f = some (PySem.W.kla_obj "<lambda>" q params body scope [] pm c' ctv)) (hcd : s.heap.CodeRec (.ref c') q) (hlim : s.heap.NoLimit) (hco : scope.isCoroutine = false) (hgen : scope.isGenerator = false) (hkind : scope.kind = .function) (hcell : ∀ y ∈ scope.names, y.2 ≠ .cell) (hx : scope.names.lookup x = some .local)
    (hbind : bindArgs (PySem.W.kla_fn "<lambda>" q params body scope [] pm (.ref c') ctv) ⟨[u], []⟩ = pure [(x, u)]) (kb : KB x scope body k) (hr : Reads s.heap u D []) (hd : keyD k D = some d) :
    wpAny (model P w) A (call (.ref f) [u]) (PySem.W.KeyPure d s) E s := by
  refine wpAny_call (PySem.W.kla_callFunE hroom ho rfl hco hgen rfl hcd ?_)
  rw [hbind]
  refine wpAny_pure (wpAny_newFunctionEnv hcell (fun y hy => by rw [List.mem_singleton.mp hy]; exact hx) (fun h₁ hns hsb => ⟨hlim.fresh _ hsb, ?_⟩) hkind)
  have kp : ∀ b o, s.heap.get? b = some o → h₁.get? b = some o := fun b o e => hsb.extBut b o (Nat.ne_of_lt (Heap.lt_size e)) (Heap.get?_push_of_some _ e)
  refine PySem.W.kla_codeExpr ?_
  refine kb P w _ _ _ { s with heap := h₁, toks := s.toks + [(x, u)].length } _ u D d _ rfl hkind hx hns (by simp) (PyProof.Rows.Reads.keeps kp hr) hd fun h' tk r kp' rr => ?_
  exact ⟨h', tk, rfl, fun b o e => kp' b o (kp b o e), rr⟩
structure LmOk (X : Cx) (Z : Zt) : Prop where
  ex : ∃ c P, LamX.TabB X.base X.mg c P ∧ X.env.code = .ref c ∧ (P, X.env.qual ++ "<lambda>") ∈ Z.T ∧ ∀ p ∈ Z.T, p.1 = P → p.2 = X.env.qual ++ "<lambda>"
section
variable {X : Cx} {Z : Zt} {Wx : Wish} {G : Pg} {C C1 : Nat → List Wv → Mem → Out Wv} {a b c e : Expr} {ea : Ex} {pos p p2 p3 kpos : Pos}
variable {pins : List (Addr × Obj)} {σ : L2.St} {H H1 : Hp} {s : Shared} {ι ι1 : List Addr} {M : Mem} {sw : Sw}
theorem rm_lam (R : RM Z ι M H) (x : LamX.ExtN H H1) (t : LamX.Tabs Z.T H1) : Ext ι ι H H1 ∧ RM Z ι M H1 := by
  have ex : Ext ι ι H H1 := ⟨⟨[], by simp, by simp⟩, fun a o h nt _ => x a o h nt, fun a ob φ h => x a _ h (fun ps z => by cases z), fun a h o e n => h o (x a o e n) n⟩
  exact ⟨ex, R.len, R.nd, fun l o a h1 h2 => (R.ob l o a h1 h2).mono ex.le fun ho e nt => x a ho e nt, t⟩
theorem mapO_each {ws : List Wv} {vs : List V} {us : List Value} {ds : List PyData} {k : Ke} (kx : Bx X Z Wx G) (I : L2.Inv X pins σ H s) (R : RM Z ι M H) (r : WsR Z ι H ws vs) (rv : Vals vs us) (e : mapO (keyOf G k M) ws = some ds) :
    ∃ bs : List Tri, bs.map (·.1) = ds ∧ bs.map (·.2.1) = ws ∧ (∀ b ∈ bs, WR Z ι H b.2.1 b.2.2) ∧ W.EachIs (fun u (b : Tri) => RelV b.2.2 u ∧ ∃ D, Reads s.heap u D [] ∧ keyD k D = some b.1) us bs := by
  induction ws generalizing vs us ds with
  | nil => cases r; cases rv; cases e; exact ⟨[], rfl, rfl, by simp, .nil⟩
  | cons w ws ih =>
    cases r with
    | cons h t =>
      cases rv with
      | cons h2 t2 =>
        simp only [mapO] at e
        split at e
        · rename_i d ds' e1 e2
          cases e
          obtain ⟨bs, b1, b2, b3, b4⟩ := ih t t2 e2
          unfold keyOf at e1
          split at e1
          · rename_i D eD
            split at e1
            · rename_i nl
              obtain ⟨as, ra⟩ := Dp.reads I D _ _ (by rw [kx.K]; exact toD_dp kx.hS R _ h eD) h2
              have := noL_nil nl ra
              subst this
              refine ⟨(d, w, _) :: bs, by simp [b1], by simp [b2], fun b hb => ?_, .cons ⟨h2, D, ra, e1⟩ b4⟩
              rcases List.mem_cons.mp hb with z | z
              · subst z; exact h
              · exact b3 b z
            · cases e1
          · cases e1
        · cases e
theorem e_sortk (k : Bx X Z Wx G) (lm : LmOk X Z) (hroom : X.A.depth + 4 < recursionLimit) {ke : Ke} {x : Str} {params : Arguments} {body : Expr} {scope : Scope} {lpos : Pos} (hm : X.mg "sorted" = none) (ha : PE X a (TEx Z Wx G C C1 ea)) (kb : KB x scope body ke)
    (hdef : defaultsOf params X.env = ([], []) := by rfl) (hfree : scope.names.all (fun y => !decide (y.2 = .free) && !decide (y.2 = .cell)) = true := by kernel_rfl) (hco : scope.isCoroutine = false := by rfl) (hgen : scope.isGenerator = false := by rfl) (hkind : scope.kind = .function := by rfl) (hx : scope.names.lookup x = some .local := by rfl)
    (hbind : ∀ q pm c' ctv u, bindArgs (PySem.W.kla_fn "<lambda>" q params body scope [] pm (.ref c') ctv) ⟨[u], []⟩ = pure [(x, u)] := by intros; rfl)
    (hg : gloB X.env "sorted" = true := by kernel_rfl) (hs : starEach [a] X.env = (false, eval a X.env) :: starEach [] X.env := by rfl)
    (he : backTo pos (starEach [a] X.env) = (false, eval a X.env) :: backTo pos (starEach [] X.env) := by rfl) (hpl : (backTo pos (starEach [a] X.env)).any (·.1) = false := by rfl)
    (hall : (backToKw pos (keywordEach [⟨some "key", .Lambda params body scope lpos, kpos⟩] X.env)).all (·.1.isSome) = true := by rfl) (hnone : (backToKw pos (keywordEach [⟨some "key", .Lambda params body scope lpos, kpos⟩] X.env)).any (·.1.isNone) = false := by rfl)
    (hks : (backToKw pos (keywordEach [⟨some "key", .Lambda params body scope lpos, kpos⟩] X.env)).filterMap (·.1) = [Str.ofString "key"] := by rfl) :
    PE X (.Call (.Name "sorted" p) [a] [⟨some "key", .Lambda params body scope lpos, kpos⟩] pos) (TEx Z Wx G C C1 (.sortk ea ke)) := by
  obtain ⟨h1, h2, h3⟩ := gloB_ok hg
  obtain ⟨c, P, TB, hcode, hmT, huT⟩ := lm.ex
  refine ⟨fun pins s σ H Q I ⟨ι, sw, M, sr, R, h⟩ => ?_⟩
  simp only [evE] at h
  refine wpAny_Call_Name_kw (ld_blt I h1 hm (by rfl) ?_ h3 h2)
  refine PyProof.Rows.callWith_kw (thn ((pa_cons ha pa_nil hs).run pos pins s σ H (fun vs H1 => ∃ v ι1 M1 w, vs = [v] ∧ RM Z ι1 M1 H1 ∧ WR Z ι1 H1 w v ∧ rOut Z ι1 H1 (newL ((lstOf w M1).bind fun ws => (mapO (keyOf G ke M1) ws).bind fun ds => sortBy ds ws) M1) Q) I
    (tE.seqE sr R h fun w M1 v H1 ι1 e1 R1 q1 s1 h1 => ⟨v, ι1, M1, w, rfl, R1, q1, (prim_newL _ _).out h1⟩)) fun us s1 ⟨vs, H1, I1, r1, v, ι1, M1, w, ev, R1, wr, h4⟩ => ?_) he hpl hall hnone
  subst ev
  obtain ⟨u, rfl, ru⟩ := vals1 r1
  show wpAny _ _ (evalAll [do let v ← eval (.Lambda params body scope lpos) X.env; standAt pos; pure v]) _ _ s1
  have nofree : ∀ y ∈ scope.names, y.2 ≠ .free ∧ y.2 ≠ .cell := fun y hy => by
    rw [List.all_eq_true] at hfree
    have := hfree y hy
    rw [Bool.and_eq_true] at this
    exact ⟨by simpa using this.1, by simpa using this.2⟩
  have clo : cloFrom X.env.cells scope.names [] = [] := by
    have go : ∀ (l : List (Str × NameKind)), (∀ y ∈ l, y.2 ≠ .free) → cloFrom X.env.cells l [] = [] := by
      intro l
      induction l with
      | nil => intro _; rfl
      | cons y ys ih =>
        intro hy
        obtain ⟨n, kd⟩ := y
        have h0 := hy (n, kd) List.mem_cons_self
        have := ih fun z hz => hy z (List.mem_cons_of_mem _ hz)
        cases kd <;> first | exact absurd rfl h0 | exact this
    exact go _ fun y hy => (nofree y hy).1
  refine wpAny_evalAll_cons (wpAny_bind (LamX.lam_make2 I1 TB hcode hmT huT R1.tab hdef (fun y hy e => absurd e (nofree y hy).1) fun f c' pm ctv H2 s2 I2 x2 t2 of hfn hfr hc => wpAny_bind (wpAny_standAt (wpAny_pure (wpAny_evalAll_nil ?_)))))
  rw [clo] at of
  rw [hks]
  show wpAny _ _ (call (.builtin "sorted") [u] [(Str.ofString "key", .ref f)]) _ _ s2
  obtain ⟨x3, R3⟩ := rm_lam R1 x2 t2
  obtain ⟨out, e, hz, h5⟩ := newL_ok h4
  obtain ⟨zs, e1, e⟩ := Option.bind_eq_some_iff.mp e
  obtain ⟨ds, e2, e3⟩ := Option.bind_eq_some_iff.mp e
  obtain ⟨l, vs, rfl, hl, hws⟩ := lstOf_at R3 (wr.mono x3.le) e1
  cases ru
  obtain ⟨its, rv, pl, hzz⟩ := I2.list (SqL.of (K := X.K) hl)
  obtain ⟨bs, b1, b2, b3, b4⟩ := mapO_each k I2 R3 hws rv e2
  obtain ⟨a1, a2, a3, a4⟩ := sortBy_tri (bs := bs) (out := out) (by rw [b1, b2]; exact e3)
  have hlen : bs.length = zs.length := by rw [← b2, List.length_map]
  obtain ⟨⟨oc, vs', tt, hoc, hdc, hvc⟩, _, _⟩ := I2.hok c' _ hc
  have lim : s2.heap.NoLimit := I2.nolimit
  refine PySem.W.sorted_key_data (fun b : Tri => b.1) pl.isList b4 (alikeAll_of a1) (sortable_of a2) (by rw [hlen, hws.length]; exact hzz) (depth_cap k.toXOk a3) (PyProof.Rows.ksk_s1 _ _) (fun x => PyProof.Rows.ksk_l1 _ _) (fun y => PyProof.Rows.ksk_t1 f y)
    (fun v b hR hb h' tk kp => ?_) fun o cc h' tk kp hnew hat hol eo => ?_
  · obtain ⟨hrel, D, hD, kd⟩ := hR
    exact lam_turn (s := { s2 with heap := h', toks := tk }) (by show X.A.depth < recursionLimit; omega) (kp _ _ of) ⟨c', oc, vs', tt, rfl, kp _ _ hoc, hdc, hvc⟩ (lim.keeps kp) hco hgen hkind (fun y hy => (nofree y hy).2) hx (hbind _ _ _ _ _) kb (PyProof.Rows.Reads.keeps kp hD) kd
  · have eo2 : W.EachIs (fun u (b : Tri) => RelV b.2.2 u) o (bs.mergeSort (W.dataLe false fun b : Tri => b.1)) := eo.mono fun u b hh => hh.1
    have ww : WsR Z ι1 H2 out ((bs.mergeSort (W.dataLe false fun b : Tri => b.1)).map (·.2.2)) := by
      rw [a4]
      exact ws_sorted fun b hb => b3 b ((List.mergeSort_perm _ _).mem_iff.mp hb)
    have h6 : rOut Z ι1 H2 (.ok (.ref M1.length) (M1 ++ [.lst out])) Q := fun v H' ι' y R4 q4 => h5 v H' ι' (x3.trans y) R4 q4
    exact ⟨.ref _, _, I2.laid (t' := tk) kp (Nat.le_succ _) (show ObjOk X.prog X.w _ _ _ (.lst ((bs.mergeSort (W.dataLe false fun b : Tri => b.1)).map (·.2.2))) from ⟨by rw [← ww.length]; exact hz, o, cc, each_vals eo2, hat⟩), rfl, h6.lst R3 ww (I2.hok.fresh (Nat.le_succ _))⟩
end
end MP
end
section
set_option Elab.async false
set_option linter.all false
set_option maxRecDepth 100000
namespace MP
open PySem PySem.Spec PyProof.Rows L2
theorem callN_succ (G : Pg) (fu k f : Nat) (ws : List Wv) (M : Mem) : callN G fu (k + 1) f ws M = match G.df f with
    | some d => runD G (callN G fu k) (callN G fu (k - 1)) fu d ws M
    | none => .bad := by
  have e0 : callN G fu 0 = fun _ _ _ => .bad := by funext a b c; simp only [callN]
  cases k with
  | zero =>
    simp only [Nat.zero_sub, e0]
    simp only [callN]
    try (cases G.df f <;> rfl)
  | succ k =>
    simp only [callN, Nat.add_sub_cancel]
    try (cases G.df f <;> rfl)
def wxE (Z : Zt) (E : XK) : Wish := fun c _ H => E (.ref (Z.exc c)) none H
section
variable {P : Program} {w : World} {K : PySem.W.Frag} {mg : Str → Option Value} {base : Heap} {Z : Zt} {G : Pg} {C C1 : Nat → List Wv → Mem → Out Wv} {fu k : Nat}
theorem bx_of {N ps : List Str} {qual : Str} {scope : Scope} {f : Addr} {cdv : Value} {A : Around} {outer : List Env} {s : Shared} {H : Hp} {E : XK} (hZ : Z.P = P ∧ Z.w = w ∧ Z.K = K) (hS : Z.S = G.S) (S : FnScope N ps scope) (hr : Room k (A.deeper (envOfC qual scope s.heap.objs.size f cdv))) (hgd : A.guards = some []) :
    Bx (cxOf (L2.CX P w) P w K mg base N qual scope f cdv A outer s H E) Z (wxE Z E) G := by
  obtain ⟨rfl, rfl, rfl⟩ := hZ
  refine ⟨⟨rfl, rfl, rfl, rfl, ?_, hgd⟩, hS, S.nd, ?_⟩
  · have := hr.un
    show (A.deeper (envOfC qual scope s.heap.objs.size f cdv)).units + 200 < cLine
    omega
  · refine Takes.imp (takes_of (X := cxOf (L2.CX Z.P Z.w) Z.P Z.w Z.K mg base N qual scope f cdv A outer s H E) (E := E) rfl rfl rfl rfl) fun cls d σ H h => ?_
    obtain ⟨rfl, c, rfl, h⟩ := h
    exact h
theorem start_rel {N : List Str} {ws : List Wv} {vs : List V} {ι : List Addr} {H : Hp} (r : WsR Z ι H ws vs) : SR Z ι H (ws.map some ++ List.replicate (N.length - ws.length) none) (L2.start N vs) := by
  have hl := r.length
  unfold L2.start
  refine ⟨by simp [hl], fun i w h => ?_⟩
  by_cases hi : i < ws.length
  · rw [List.getElem?_append_left (by simpa using hi), List.getElem?_map] at h
    rw [List.getElem?_append_left (by rw [List.length_map, ← hl]; exact hi), List.getElem?_map]
    cases e : ws[i]? with
    | none => rw [e] at h; cases h
    | some x =>
      rw [e] at h
      cases h
      obtain ⟨v, h1, h2⟩ := r.get e
      exact ⟨v, by rw [h1]; rfl, h2⟩
  · rw [List.getElem?_append_right (by simp; omega)] at h
    have := List.getElem?_replicate (n := N.length - ws.length) (a := (none : Option Wv)) (i := i - (ws.map some).length)
    rw [this] at h
    split at h <;> cases h
theorem fn_mp {x qual : Str} {params : Arguments} {body : List Stmt} {scope : Scope} {dvs : List V} {kws : List (Str × V)} {f : Addr} {fd : FuncData} {N ps : List Str} {d : Df} {Fc : List Wv → Mem → Out Wv} (F : FunD K x qual params body scope dvs kws f fd) (S : FnScope N ps scope)
    (hZ : Z.P = P ∧ Z.w = w ∧ Z.K = K) (hS : Z.S = G.S) (hslots : d.slots = N.length) (hn : d.npar = ps.length) (hF : ∀ ws M, Fc ws M = runD G C C1 fu d ws M)
    (hbody : ∀ (cdv : Value), (∀ p, He.fAd K p = f → cdv = .ref (He.codeOf K p)) → ∀ (A : Around) (outer : List Env) (s : Shared) (H : Hp) (E : XK), Room k (A.deeper (envOfC qual scope s.heap.objs.size f cdv)) → Bx (cxOf (L2.CX P w) P w K mg base N qual scope f cdv A outer s H E) Z (wxE Z E) G →
      PassesOwn (model P w) (A.deeper (envOfC qual scope s.heap.objs.size f cdv)) (envOfC qual scope s.heap.objs.size f cdv) (cxOf (L2.CX P w) P w K mg base N qual scope f cdv A outer s H E).xe → PSs (cxOf (L2.CX P w) P w K mg base N qual scope f cdv A outer s H E) body (TSl Z (wxE Z E) G C C1 fu d.body)) :
    FnG P w K mg base (k + 1) f fd ps (spI Z Fc) := by
  obtain ⟨oc, od, dV, kV, doc, pm, an, cdv, ct, osl, rfl, lk, hcd, _, _⟩ := F.ex
  have hcv : ∀ p, He.fAd K p = f → cdv = .ref (He.codeOf K p) := fun p hp => by
    obtain ⟨c, rfl⟩ := He.codeIn_ref hcd
    rw [He.codeOf_eq (p := p) (c := c) (by rw [hp]; exact lk) rfl]
  have hlen : ∀ vs H Q E, spI Z Fc vs H Q E → vs.length = ps.length := by
    intro vs H Q E h
    obtain ⟨ι, M, ws, R, r, h⟩ := h
    rw [hF] at h
    unfold runD at h
    rw [← r.length, ← hn]
    cases hq : decide (ws.length = d.npar) with
    | false => rw [hq] at h; exact False.elim h
    | true => exact of_decide_eq_true hq
  refine ⟨hlen, fun A outer s H args us vs Q E hg hr e0 hb rv h => LamX.run_ofS lk hcd S hr e0 hb rv (hlen vs H Q E h) fun hr2 => ⟨_, hbody cdv hcv A outer s H E hr2 (bx_of hZ hS S hr2 hg) (passes_of (X := cxOf (L2.CX P w) P w K mg base N qual scope f cdv A outer s H E) rfl), ?_⟩⟩
  · obtain ⟨ι, M, ws, R, r, h⟩ := h
    rw [hF] at h
    unfold runD at h
    refine ⟨ι, ws.map some ++ List.replicate (N.length - ws.length) none, M, start_rel r, R, ?_⟩
    rw [hslots] at h
    cases hq : decide (ws.length = d.npar) with
    | false => rw [hq] at h; exact False.elim h
    | true =>
      rw [hq] at h
      simp only [Out.chk] at h
      cases e : evSl G C C1 fu d.body (ws.map some ++ List.replicate (N.length - ws.length) none) M with
      | bad => rw [e] at h; exact h
      | exc c M1 => rw [e] at h; exact fun σ' H' ι' x R => h H' ι' x R
      | ok q M1 =>
        obtain ⟨fl, sw⟩ := q
        rw [e] at h
        intro σ' H' ι' x R1 s1
        cases fl with
        | nx => exact h .non H' ι' x R1 .non
        | ret w => exact fun v hv => h v H' ι' x R1 hv
        | brk => exact False.elim h
        | ct => exact False.elim h
theorem fn_bad {f : Addr} {fd : FuncData} {ps : List Str} {Fc : List Wv → Mem → Out Wv} {n : Nat} (h : ∀ ws M, Fc ws M = .bad) : FnG P w K mg base n f fd ps (spI Z Fc) :=
  ⟨fun vs H Q E ⟨ι, M, ws, R, r, q⟩ => by rw [h] at q; exact False.elim q, fun A outer s H args us vs Q E hg hr e0 hb rv ⟨ι, M, ws, R, r, q⟩ => by rw [h] at q; exact False.elim q⟩
structure Frs (mg : Str → Option Value) : Prop where
  isinstance : mg "isinstance" = none
  len : mg "len" = none
  all : mg "all" = none
  any : mg "any" = none
  sum : mg "sum" = none
  min : mg "min" = none
  max : mg "max" = none
  sorted : mg "sorted" = none
  range : mg "range" = none
  zip : mg "zip" = none
  enumerate : mg "enumerate" = none
  abs : mg "abs" = none
  list : mg "list" = none
  dict : mg "dict" = none
  tuple : mg "tuple" = none
  str : mg "str" = none
  int : mg "int" = none
  set : mg "set" = none
  bool : mg "bool" = none
structure ConOk (mg : Str → Option Value) (Z : Zt) (G : Pg) (x : Str) : Prop where
  ex : ∃ w v u, G.con x = some w ∧ mg x = some u ∧ RelV v u ∧ ∀ ι H, WR Z ι H w v
theorem e_con {X : Cx} {Wx : Wish} {pos : Pos} {x : Str} (c : ConOk X.mg Z G x) (h : gloB X.env x = true := by kernel_rfl) : PE X (.Name x pos) (TEx Z Wx G C C1 (.glb x)) := by
  obtain ⟨w, v, u, h1, h2, h3, h4⟩ := c.ex
  exact e_glb h1 h2 h3 h4 h
def blkB (N : List Str) (sc scope : Scope) (own : List (Str × Nat)) : Bool :=
  decide (scope.kind = .function) && (scope.names.all fun y => decide (scope.names.lookup y.1 = some y.2)) && (own.all fun p => decide (N[p.2]? = some p.1)) &&
  (scope.names.all fun y => !decide (y.2 = .free) || decide (sc.names.lookup y.1 = some .cell) || decide (sc.names.lookup y.1 = some .free)) &&
  (scope.names.all fun y => !(decide (y.2 = .local) || decide (y.2 = .cell)) || decide (y.1 ∈ own.map (·.1)) || decide (y.1 ∉ N))
theorem blk_ok {N : List Str} {sc scope : Scope} {own : List (Str × Nat)} (h : blkB N sc scope own = true) : BlkOk N sc scope own := by
  unfold blkB at h
  simp only [Bool.and_eq_true, List.all_eq_true, decide_eq_true_eq, Bool.or_eq_true, Bool.not_eq_true', decide_eq_false_iff_not, Bool.or_eq_false_iff] at h
  obtain ⟨⟨⟨⟨h1, h2⟩, h3⟩, h4⟩, h5⟩ := h
  refine ⟨h1, h2, h3, fun y hy e => ?_, fun y hy e => ?_⟩
  · rcases h4 y hy with (z | z) | z
    · exact absurd e z
    · exact .inl z
    · exact .inr z
  · rcases h5 y hy with (z | z) | z
    · rcases e with e | e
      · exact absurd e z.1
      · exact absurd e z.2
    · exact .inl z
    · exact .inr z
theorem pss_lock {X : Cx} {st : List Stmt} {t : TS} (h : PSs X st t) : PSs X st (tLock t) := by
  refine ⟨fun pins s σ H D I hw => ?_⟩
  obtain ⟨d, u, hd, mu, hw⟩ := hw
  obtain ⟨od, I1⟩ := I.lock hd mu
  refine thn (h.run pins s σ _ _ I1 (hw od)) fun f s1 q => ?_
  cases f with
  | next => obtain ⟨σ', H', I2, e, q⟩ := q; exact ⟨σ', _, I2.unlock e (I.nofrz hd mu), q⟩
  | brk => obtain ⟨σ', H', I2, e, q⟩ := q; exact ⟨σ', _, I2.unlock e (I.nofrz hd mu), q⟩
  | cont => obtain ⟨σ', H', I2, e, q⟩ := q; exact ⟨σ', _, I2.unlock e (I.nofrz hd mu), q⟩
  | ret v => obtain ⟨x, σ', H', I2, r, e, q⟩ := q; exact ⟨x, σ', _, I2.unlock e (I.nofrz hd mu), r, q⟩
def spL (Z : Zt) (F : List Wv → Mem → Out Wv) : Sp := fun vs H Q E => ∃ a, vs = [.ref a] ∧ SqL Z.K H a (Z.S.map V.int) ∧ LamX.Tabs Z.T H ∧ (∃ M, F [.scr] [] = .ok (.bl true) M) ∧ ∀ H', Q (.bl true) H'
theorem law_start {H : Hp} {a : Addr} (t : LamX.Tabs Z.T H) (h : ScR Z.K H a (Z.S.map V.int)) : RM Z [] [] H ∧ WsR Z [] H [.scr] [.ref a] :=
  ⟨⟨rfl, List.nodup_nil, fun l o a h _ => by simp at h, t⟩, .cons (.scr h) .nil⟩
end
end MP
end
section
set_option Elab.async false
set_option linter.all false
set_option maxRecDepth 100000
namespace MP
open PySem PySem.Spec PyProof.Rows L2
section
variable {P : Program} {w : World} {K : PySem.W.Frag} {mg : Str → Option Value} {base : Heap} {Z : Zt} {G : Pg} {C C1 : Nat → List Wv → Mem → Out Wv} {fu k n : Nat} {A : Around}
variable {x qual : Str} {params : Arguments} {body : List Stmt} {scope : Scope} {dvs : List V} {kws : List (Str × V)} {f : Addr} {fd : FuncData} {ps : List Str} {F : List Wv → Mem → Out Wv} {dws : List Wv}
def FnAt (P : Program) (w : World) (K : PySem.W.Frag) (mg : Str → Option Value) (base : Heap) (Z : Zt) (d : He.DefD) (ps : List Str) (n : Nat) (F : List Wv → Mem → Out Wv) : Prop :=
  ∃ fd, FunD K d.name d.qual d.params d.body d.scope (d.dvs K) (d.kws K) (He.fAd K d.at_) fd ∧ FnG P w K mg base n (He.fAd K d.at_) fd ps (spI Z F)
def Fills (K : PySem.W.Frag) (Z : Zt) (fd : FuncData) (ps : List Str) (dws : List Wv) : Prop := ∃ ds dvs, Binds K fd ps ds ∧ Vals dvs ds ∧ ∀ ι H, WsR Z ι H dws dvs
theorem fill_n (F : FunD K x qual params body scope [] kws f fd)
    (h : ∀ (kV doc pm : Value) (an : Option Addr) (cdv ct : Value) (us : List Value), us.length = ps.length → bindArgs (PySem.W.fnOf x qual params body scope .none kV doc pm an cdv ct) ⟨us, []⟩ = pure (ps.zip us)) : Fills K Z fd ps [] :=
  ⟨[], [], F.bindsN h, .nil, fun _ _ => .nil⟩
theorem fill_1 (F : FunD K x qual params body scope dvs kws f fd) (n j : Nat) (hd : dvs ≠ []) (hn : n + (dvs.length - j) = ps.length)
    (h : ∀ (T : Addr) (kV doc pm : Value) (an : Option Addr) (cdv ct : Value) (us its : List Value), us.length = n → its.length = dvs.length →
      ∃ k, bindArgs (PySem.W.fnOf x qual params body scope (.ref T) kV doc pm an cdv ct) ⟨us, []⟩ = seqItems? (.ref T) >>= k ∧ k (some its.toArray) = pure (ps.zip (us ++ its.drop j))) (hw : ∀ ι H, WsR Z ι H dws (dvs.drop j)) : Fills K Z fd ps dws := by
  obtain ⟨ds, h1, h2⟩ := F.binds1 n j hd hn h
  exact ⟨ds, _, h2, h1, hw⟩
theorem FnAt.cal {d : He.DefD} (v : FnAt P w K mg base Z d ps n F) (hr : Room n A) (hb : ∀ fd, FunD K d.name d.qual d.params d.body d.scope (d.dvs K) (d.kws K) (He.fAd K d.at_) fd → Fills K Z fd ps dws) : Cal P w K mg base A Z F (He.fAd K d.at_) dws := by
  obtain ⟨fd, F, h⟩ := v
  obtain ⟨ds, dvs, b1, b2, b3⟩ := hb fd F
  exact ⟨n, fd, ps, ds, dvs, h, hr, b1, b2, b3⟩
theorem FnAt.calG {d : He.DefD} {x : Str} (v : FnAt P w K mg base Z d ps n F) (hx : mg x = some (.ref (He.fAd K d.at_))) (hr : Room n A) (hb : ∀ fd, FunD K d.name d.qual d.params d.body d.scope (d.dvs K) (d.kws K) (He.fAd K d.at_) fd → Fills K Z fd ps dws) : CalG P w K mg base A Z F x dws := by
  have v2 := v
  obtain ⟨fd, F', _⟩ := v2
  exact ⟨_, hx, F'.kp, FnAt.cal v hr hb⟩
theorem FnAt.mak {d : He.DefD} {x : Str} {c : Nat} {kk : Cl} (v : FnAt P w K mg base Z d ps n (C1 kk.init)) (hc : G.cls c = some kk) (hx : mg x = some (.ref (Z.cls c))) (hk : Mk K (Z.cls c) (He.fAd K d.at_)) (hr : Room (n + 1) A) (hb : ∀ fd, FunD K d.name d.qual d.params d.body d.scope (d.dvs K) (d.kws K) (He.fAd K d.at_) fd → Binds K fd ps []) : MakOk P w K mg base A Z G C1 x c := by
  obtain ⟨fd, F', h⟩ := v
  exact ⟨kk, _, n, fd, ps, hc, hx, hk, h, hr, hb fd F'⟩
theorem con_int {x : Str} {i : Int} (hc : G.con x = some (.int i)) (hm : ∃ t, mg x = some (.int i t)) : ConOk mg Z G x := by
  obtain ⟨t, hm⟩ := hm
  exact ⟨_, .int i, _, hc, hm, ⟨t, rfl⟩, fun _ _ => .int i⟩
theorem con_str {x z : Str} (hc : G.con x = some (.str z)) (hm : ∃ t, mg x = some (.str z t)) : ConOk mg Z G x := by
  obtain ⟨t, hm⟩ := hm
  exact ⟨_, .str z, _, hc, hm, ⟨t, rfl⟩, fun _ _ => .str z⟩
theorem _root_.L2.Room.rd4 {k : Nat} {A : Around} (r : Room k A) : A.depth + 4 < recursionLimit := by have := r.dp; omega
end
abbrev tabOb : Obj := { cls := .none, data := .fields #[] }
abbrev scrOb (vs : List Value) : Obj := { cls := .type "list", data := .seq vs.toArray }
noncomputable def H0 (K : PySem.W.Frag) (T : List Addr) (a : Addr) (vs : List Value) (ns : List Int) : Hp := fun b =>
  if b ∈ T then some (.tbl #[]) else if b = a ∧ K.lookup a = none then some (.frz (scrOb vs) (.lst (ns.map V.int))) else none
structure Tb (K : PySem.W.Frag) (h : Heap) (p : Addr × Addr) : Prop where
  ob : h.get? p.2 = some tabOb
  out : K.lookup p.2 = none
  hd : PySem.W.CodeHd h p.1 p.2
section
variable {P : Program} {w : World} {K : PySem.W.Frag} {mg mb : Str → Option Value} {k : Nat} {fa a : Addr} {cs : List (Addr × Addr)} {fd : FuncData} {sp : Sp} {s1 : Shared} {vs : List Value} {ns : List Int}
theorem H0_in {T : List Addr} {b : Addr} {u : HO} (e : H0 K T a vs ns b = some u) : (b ∈ T ∧ u = .tbl #[]) ∨ (b = a ∧ K.lookup a = none ∧ u = .frz (scrOb vs) (.lst (ns.map V.int))) := by
  unfold H0 at e
  by_cases c : b ∈ T
  · rw [if_pos c] at e; cases e; exact .inl ⟨c, rfl⟩
  · rw [if_neg c] at e
    by_cases c2 : b = a ∧ K.lookup a = none
    · rw [if_pos c2] at e; cases e; exact .inr ⟨c2.1, c2.2, rfl⟩
    · rw [if_neg c2] at e; cases e
theorem callG (KX : K.In s1.heap) (hns : s1.heap.Ns mainGlobals mg) (hbn : s1.heap.Ns builtinsNs mb) (hbb : ∀ x : Str, x ≠ "__name__" → mb x = bootBuiltins x) (hlim : s1.heap.NoLimit) (hg : s1.gens = #[]) (hcs : ∀ p ∈ cs, Tb K s1.heap p)
    (hbm : ∃ (bm : Addr) (ob : Obj), mg "__builtins__" = some (.ref bm) ∧ bm ≠ builtinsNs ∧ s1.heap.get? bm = some ob ∧ ob.cls = .type "module" ∧ ob.dict = some builtinsNs ∧ ob.data = .plain)
    (ha : s1.heap.get? a = some (scrOb vs)) (hi : IntsAre vs ns) (hl : ns.length ≤ sizeLine) (hr : Room k callerA) (F : ∀ base : Heap, K.In base → base.Ns mainGlobals mg → (∀ p ∈ cs, LamX.TabB base mg p.1 p.2) → FnG P w K mg base k fa fd ["script"] sp)
    (hbind : ∀ (s : Shared) (u : Value), BindsTo s fd ⟨[u], []⟩ [("script", u)]) (hsp : ∀ H : Hp, (∀ p ∈ cs, H p.2 = some (.tbl #[])) → SqL K H a (ns.map V.int) → sp [.ref a] H (fun v _ => v = .bl true) fun _ _ _ => False) :
    codeAny (model P w) callerA (.call (.ref fa) ⟨[.ref a], []⟩) (fun r s' => r = .ok (.ret (.bool true)) ∧ OldK s1.heap s'.heap ∧ s'.os = s1.os ∧ AllBare s'.gens) s1 := by
  have rv := vals_ints hi
  have inT : ∀ {b : Addr}, b ∈ cs.map (·.2) → s1.heap.get? b = some tabOb := fun {b} z => by
    obtain ⟨q, hq, rfl⟩ := List.mem_map.mp z; exact (hcs q hq).ob
  have aT : a ∉ cs.map (·.2) := fun z => by have q := inT z; rw [ha] at q; cases q
  generalize hT : cs.map (·.2) = T at inT aT
  have mT : ∀ p ∈ cs, p.2 ∈ T := fun p hp => by rw [← hT]; exact List.mem_map.mpr ⟨p, hp, rfl⟩
  have tT : ∀ p ∈ cs, H0 K T a vs ns p.2 = some (.tbl #[]) := fun p hp => if_pos (mT p hp)
  generalize hH : H0 K T a vs ns = H at tT
  have Hin : ∀ {b : Addr} {u : HO}, H b = some u → (b ∈ T ∧ u = .tbl #[]) ∨ (b = a ∧ K.lookup a = none ∧ u = .frz (scrOb vs) (.lst (ns.map V.int))) := fun {b u} e => H0_in (by rw [hH]; exact e)
  have sq : SqL K H a (ns.map V.int) := by
    cases hk : K.lookup a with
    | none => exact .inl (.inr ⟨scrOb vs, by rw [← hH]; unfold H0; rw [if_neg aT, if_pos ⟨rfl, hk⟩]⟩)
    | some o =>
      have e := KX a o hk
      rw [ha] at e; cases e
      exact .inr ⟨_, vs.toArray, _, hk, rfl, rfl, rfl, by rw [List.size_toArray, hi.length]; exact hl, by simpa using rv⟩
  have hok : HOk P w H s1.heap := fun b u e => by
    rcases Hin e with ⟨c, rfl⟩ | ⟨rfl, _, rfl⟩
    · exact inT c
    · exact ⟨ha, by rw [List.length_map]; exact hl, vs, _, rv, ha⟩
  have free : ∀ {b : Addr} {o : Obj}, s1.heap.get? b = some o → (∀ xs n, o.data ≠ .seq xs n) → o.data ≠ .fields #[] → H b = none := fun {b o} e n1 n2 => by
    cases q : H b with
    | none => rfl
    | some u =>
      rcases Hin q with ⟨c, _⟩ | ⟨rfl, _, _⟩
      · rw [inT c] at e; cases e; exact absurd rfl n2
      · rw [ha] at e; cases e; exact absurd rfl (n1 _ _)
  have nsB : ∀ {b : Addr} {m : Str → Option Value}, s1.heap.Ns b m → (hidT s1.heap H).Ns b m := fun {b m} ⟨o, es, ep, e, d, r⟩ =>
    ⟨o, es, ep, hidT_get e (free e (fun xs n z => by rw [d] at z; cases z) fun z => by rw [d] at z; cases z), d, r⟩
  have KB : K.In (hidT s1.heap H) := fun b o e => hidT_get (KX b o e) (by
    cases q : H b with
    | none => rfl
    | some u =>
      rcases Hin q with ⟨c, _⟩ | ⟨rfl, c, _⟩
      · rw [← hT] at c
        obtain ⟨p, hp, rfl⟩ := List.mem_map.mp c
        rw [(hcs p hp).out] at e; cases e
      · rw [c] at e; cases e)
  have TB : ∀ p ∈ cs, LamX.TabB (hidT s1.heap H) mg p.1 p.2 := fun p hp => by
    have hob := (hcs p hp).ob
    obtain ⟨o, us, file, tf, flags, tg, inF, text, tt, e1, r1, r2, r3, r4⟩ := (hcs p hp).hd
    obtain ⟨bm, ob, b1, b2, b3, b4, b5, b6⟩ := hbm
    refine ⟨⟨o, us, file, tf, flags, tg, inF, text, tt, hidT_get e1 (free e1 (fun xs n z => by rw [r2] at z; cases z) fun z => by rw [r2] at z; cases z; simp at r3), r1, r2, r3, r4⟩, ⟨bm, ob, b1, b2, fun z => ?_, fun z => ?_, hidT_get b3 (free b3 (fun xs n z => by rw [b6] at z; cases z) fun z => by rw [b6] at z; cases z), b4, b5, b6⟩, fun z => ?_⟩
    · obtain ⟨o2, es, ep, e2, d2, _⟩ := hns
      rw [z, e2] at b3; cases b3; rw [d2] at b6; cases b6
    · rw [z, hob] at b3; cases b3; cases b6
    · obtain ⟨o2, es, ep, e2, d2, _⟩ := hns
      rw [z, hob] at e2; cases e2; cases d2
  have hMd : L2.Mod K mg (hidT s1.heap H) := ⟨KB, nsB hns, ⟨mb, nsB hbn, hbb⟩, let ⟨mc, z1, z2⟩ := hlim; ⟨mc, nsB z1, z2⟩⟩
  have e0 : Env0 P w K mg (hidT s1.heap H) callerA [] s1 H := ⟨rfl, hMd, fun b o e => of_hidT e, Nat.le_of_eq (hidT_size _ _), trivial, fun b hb => absurd (show b ∈ ([] : List Addr) from hb) (by simp), hok, .of_eq hg⟩
  refine codeAny_mono ((F _ KB (nsB hns) TB).go callerA [] s1 H ⟨[.ref a], []⟩ [.ref a] [.ref a] _ _ rfl hr e0 (hbind s1 (.ref a)) (.cons rfl .nil) (hsp H tT sq)) fun r s' q => ?_
  match r, q with
  | .error e, q =>
    obtain ⟨_, _, _, _, _, _, _, _, _, _, _, _, z⟩ := q
    exact z.elim
  | .ok .next, q => exact False.elim q
  | .ok .brk, q => exact False.elim q
  | .ok .cont, q => exact False.elim q
  | .ok (.ret u), q =>
    obtain ⟨v, H', os, bare, un, hok2, rr, qv⟩ := q
    obtain rfl : v = .bl true := qv
    obtain rfl : u = Value.bool true := rr
    have old : ∀ b o, b ∉ T → s1.heap.get? b = some o → s'.heap.get? b = some o := fun b o nb e => by
      cases z : H b with
      | none => exact un.keep b o e z (fun y => absurd (show b ∈ ([] : List Addr) from y) (by simp)) (by simp)
      | some ho =>
        rcases Hin z with ⟨c, _⟩ | ⟨rfl, _, rfl⟩
        · exact absurd c nb
        · have z2 := un.frzs _ _ _ z
          have e2 := (hok2 _ _ z2).1
          rw [ha] at e; cases e; exact e2
    have tabs : ∀ p ∈ cs, ∃ more : Array Value, s'.heap.get? p.2 = some { cls := .none, data := .fields more } := fun p hp => by
      obtain ⟨more, z⟩ := un.tbls p.2 #[] (tT p hp); exact ⟨_, hok2 p.2 _ z⟩
    refine ⟨rfl, ⟨fun b o e => ?_, fun b o e => ?_⟩, os, bare⟩
    · by_cases hb : b ∈ T
      · rw [← hT] at hb
        obtain ⟨p, hp, rfl⟩ := List.mem_map.mp hb
        obtain ⟨more, hm⟩ := tabs p hp
        have hob := (hcs p hp).ob
        rw [hob] at e; cases e
        exact .inr (.inl ⟨((hcs p hp).hd.tab hob).isCodeTable, rfl, #[], more, rfl, by rw [Array.empty_append]; exact hm⟩)
      · exact .inl (old b o hb e)
    · by_cases hb : b ∈ T
      · rw [← hT] at hb
        obtain ⟨p, hp, rfl⟩ := List.mem_map.mp hb
        obtain ⟨more, hm⟩ := tabs p hp
        exact ⟨_, hm⟩
      · exact ⟨o, old b o hb e⟩
def LawG (l : PySem.W.OpenLaw) (w : World) (K : PySem.W.Frag) (k n : Nat) (mg : Str → Option Value) (fa : Addr) (h : Heap) : Prop :=
  ∃ (fd : FuncData) (cs : List (Addr × Addr)) (sp : Sp), (∀ p ∈ cs, Tb K h p) ∧ (∀ (s : Shared) (u : Value), BindsTo s fd ⟨[u], []⟩ [("script", u)]) ∧
    (∀ (H : Hp) (a : Addr) (ns : List Int), ns.length ≤ n → (∀ z ∈ ns, Builtin.Int.intBits z ≤ 1048576) → (∀ p ∈ cs, H p.2 = some (.tbl #[])) → SqL K H a (ns.map V.int) → sp [.ref a] H (fun v _ => v = .bl true) fun _ _ _ => False) ∧
    ∀ base : Heap, K.In base → base.Ns mainGlobals mg → (∀ p ∈ cs, LamX.TabB base mg p.1 p.2) → FnG l.prog w K mg base k fa fd ["script"] sp
theorem walkG {l : PySem.W.OpenLaw} {n k : Nat} {q : Program} {loose : List Str} {XP : (Str → Option Value) → Heap → Prop} {YP : World → Heap → Prop} {d : DefRec} (hn : l.most = some n) (hn2 : n ≤ sizeLine) (hdf : d.params.defaults = []) (hr : Room k callerA)
    (F : ∀ (w : World) (mg : Str → Option Value) (fa : Addr) (h : Heap), YP w h → h.Ns mainGlobals mg → mg d.name = some (.ref fa) → ∃ K : PySem.W.Frag, K.In h ∧ LawG l w K k n mg fa h) : PySem.W.WalkO q loose XP YP l.row.toRowW d [] (fun f vs => PySem.call f vs) :=
  Att.attach_callB hn hdf fun w s0 s1 mg mb fa o pm cd doc a vs ns G Y ho hd hcd hmg hobj hints hlen hbits hg => by
    obtain ⟨K, KX, fd, cs, sp, hcs, hb, hsp, hF⟩ := F w mg fa _ Y G.T.g hmg
    exact callG KX G.T.g G.T.b G.T.builtins G.T.nolimit hg hcs G.T.bmain hobj hints (Nat.le_trans hlen hn2) hr hF hb fun H hH hS => hsp H a ns hlen hbits hH hS
theorem law_at {l : PySem.W.OpenLaw} {mg : Str → Option Value} {fa : List He.Fa} {fn : List He.DefD} {ts : List He.Tab} {tf : List He.Defn} {ex : PySem.W.Frag → Bool} {h : Heap} {fa' : Addr} {kk n : Nat} {Fc : List Int → List Wv → Mem → Out Wv} {Zs : List Int → Zt} (KX : K.In h) (c : He.SaysX fa fn ts tf ex w h K) (hm : ∀ S : List Int, S.length ≤ n → (∀ z ∈ S, Builtin.Int.intBits z ≤ 1048576) → ∃ M, Fc S [.scr] [] = .ok (.bl true) M) (hZ : ∀ S, (Zs S).S = S ∧ (Zs S).K = K ∧ ∀ p ∈ (Zs S).T, p.1 ∈ tf.map fun q => (He.cT K q).2)
    (hb : ∀ (s : Shared) (v : Value), BindsTo s fd ⟨[v], []⟩ [("script", v)])
    (hF : ∀ base : Heap, K.In base → base.Ns mainGlobals mg → (∀ p ∈ tf.map (He.cT K), LamX.TabB base mg p.1 p.2) → ∀ S : List Int, FnG l.prog w K mg base kk fa' fd ["script"] (spL (Zs S) (Fc S))) :
    LawG l w K kk n mg fa' h := by
  refine ⟨fd, tf.map (He.cT K), fun vs H Q E => ∃ S, spL (Zs S) (Fc S) vs H Q E, fun p hp => ?_, hb, fun H a ns hl hbits hT hS => ?_, fun base KB GB TB => ⟨fun vs H Q E ⟨S, q⟩ => (hF base KB GB TB S).ln vs H Q E q, fun A outer s H args us vs Q E hg hr e0 bb rv ⟨S, q⟩ => (hF base KB GB TB S).go A outer s H args us vs Q E hg hr e0 bb rv q⟩⟩
  · obtain ⟨q, h1, rfl⟩ := List.mem_map.mp hp
    exact ⟨c.empty q h1, c.out q h1, PySem.W.codeHd_of_K KX (c.hd q h1)⟩
  · obtain ⟨h1, h2, h3⟩ := hZ ns
    refine ⟨ns, a, rfl, by rw [h1, h2]; exact hS, fun p hp => ?_, hm ns hl hbits, fun H' => rfl⟩
    obtain ⟨q, g1, g2⟩ := List.mem_map.mp (h3 p hp)
    have z := hT (He.cT K q) (List.mem_map.mpr ⟨q, g1, rfl⟩)
    rw [g2] at z
    exact LamX.TabS.nil z
end
end MP
end
section
set_option Elab.async false
set_option linter.all false
set_option maxRecDepth 100000
namespace MP
open PySem PySem.Spec PyProof.Rows L2
section
variable {X : Cx} {Z : Zt} {Wx : Wish} {G : Pg} {C C1 : Nat → List Wv → Mem → Out Wv} {a b c e : Expr} {ea : Ex} {pos p p2 p3 kpos apos mpos : Pos}
variable {pins : List (Addr × Obj)} {σ : L2.St} {H H1 : Hp} {s : Shared} {ι ι1 : List Addr} {M : Mem} {sw : Sw}
theorem e_dict2 (k : Bx X Z Wx G) {k1 k2 : Str} {v1 v2 : Int} {j1 j2 j3 j4 : Nat} {q1 q2 q3 q4 : Pos} :
    PE X (.Dict [some (.Constant (.str k1) j1 q1), some (.Constant (.str k2) j2 q2)] [.Constant (.int v1) j3 q3, .Constant (.int v2) j4 q4] pos) (TEx Z Wx G C C1 (.dict2 k1 v1 k2 v2)) := by
  refine ⟨fun pins s σ H Q I ⟨ι, sw, M, sr, R, h⟩ => ?_⟩
  simp only [evE] at h
  have h := (show Prim (Out.chk (decide (k1 ≠ k2)) (.ok (.ref M.length) (M ++ [.dct false [(.str k1, .int v1), (.str k2, .int v2)]]))) from Prim.ok.chk).out h
  obtain ⟨c, h⟩ := rOut.chk h
  have hne : k1 ≠ k2 := of_decide_eq_true c
  refine wpAny_Dict_pairs (knd := mixKind X.prog X.w) (pairs := [(eval (.Constant (.str k1) j1 q1) X.env, do let x ← eval (.Constant (.int v1) j3 q3) X.env; standAt pos; pure x), (eval (.Constant (.str k2) j2 q2) X.env, do let x ← eval (.Constant (.int v2) j4 q4) X.env; standAt pos; pure x)]) rfl (by simp) (by simp) ?_
  refine evalPairs_cons (wpAny_Constant_str (wpAny_bind (wpAny_Constant_int (wpAny_bind (wpAny_standAt (wpAny_pure ?_))))))
  refine evalPairs_cons (wpAny_Constant_str (wpAny_bind (wpAny_Constant_int (wpAny_bind (wpAny_standAt (wpAny_pure ?_))))))
  have hp : H s.heap.objs.size = none := I.hok.fresh (Nat.le_refl _)
  refine evalPairs_nil ⟨[(.inr k1, .int v1 (s.toks + 1)), (.inr k2, .int v2 (s.toks + 1 + 1 + 1))], ⟨kV_is (k := .inr k1) ⟨_, rfl⟩, rfl, kV_is (k := .inr k2) ⟨_, rfl⟩, rfl, trivial⟩, ⟨_, #[], 0, Heap.get?_push_size _ rfl, ⟨rfl, rfl, rfl⟩, rfl, fun e he => by simp at he, .nil, List.nodup_nil⟩, fun h' hd hs => ?_⟩
  obtain ⟨o', es', ep', e1, e2, e3, e4, e5, e6⟩ := hd
  refine ⟨.ref s.heap.objs.size, _, I.laid (a := s.heap.objs.size) (o := DctO s.heap.objs.size o') (fun b u q => hs.extBut b u (Nat.ne_of_lt (Heap.lt_size q)) (Heap.get?_push_of_some _ q)) (Nat.le_refl _) (DctR.ok_new e1), rfl, ?_⟩
  have ex := Ext.alloc (ho := DctO s.heap.objs.size o') ι hp
  refine h (.ref s.heap.objs.size) _ (ι ++ [s.heap.objs.size]) ex (R.alloc hp ?_) (.ref (snoc_ix R _))
  have hn2 : ¬ (Wv.str k1 = Wv.str k2) := fun z => hne (Wv.str.inj z)
  have ep : dput (dput [] (.str k1) (.int v1)) (.str k2) (.int v2) = [(.str k1, .int v1), (.str k2, .int v2)] := by
    simp only [dput, if_neg hn2]
  refine ⟨o', es', ep', upd_same, e2, e3, beq_eq_false_iff_ne.mpr (Ne.symm (Nat.ne_of_lt I.big)), by show 2 ≤ sizeLine; decide, ?_, .inl rfl, ?_⟩
  · simp [hne]
  · refine pairs_back (P := X.prog) k.w.symm (fun e he => e4 e (Array.mem_toList_iff.mp he)) e5 ?_
    rw [← ep]
    exact PvR.put (k := .str k2) (v := .int v2) (x := .int v2) rfl (by simp [dput]) (PvR.put (k := .str k1) (v := .int v1) (x := .int v1) rfl List.nodup_nil .nil ⟨_, rfl⟩ (.int _)) ⟨_, rfl⟩ (.int _)
end
section
variable {X : Cx} {Z : Zt} {Wx : Wish} {G : Pg} {C C1 : Nat → List Wv → Mem → Out Wv} {fu : Nat} {a b c : Expr} {el : El} {pos : Pos}
end
end MP
end
section
set_option Elab.async false
set_option linter.all false
set_option maxRecDepth 100000
namespace MP
open PySem PySem.Spec PyProof.Rows L2
structure DayAt (h : Heap) (vs : Array Value) (ks : List PyData) : Prop where
  len : vs.size = ks.length
  at_ : ∀ i v, vs[i]? = some v → ∃ d0 n r, ks.getD i .none = .tuple [.int n, .tuple (d0 :: .int n :: r)] ∧ Reads h v (.tuple (d0 :: .int n :: r)) []
section
variable {X : Cx} {Z : Zt} {Wx : Wish} {G : Pg} {C C1 : Nat → List Wv → Mem → Out Wv} {a b c e : Expr} {ea : Ex} {pos p p1 p2 p3 p4 kpos bpos : Pos} {j j2 : Nat}
variable {pins : List (Addr × Obj)} {σ : L2.St} {H H1 : Hp} {s : Shared} {ι ι1 : List Addr} {M : Mem} {sw : Sw}
end
end MP
end
section
set_option Elab.async false
set_option linter.all false
set_option maxRecDepth 100000
namespace MP
open PySem PySem.Spec PyProof.Rows L2
mutual
/-- what has no lists reads as one thing -/
theorem one_rd {h : Heap} : ∀ {d e : PyData} {v : Value} {as bs : List Addr}, noL d = true → Reads h v d as → Reads h v e bs → d = e
  | .none, _, _, _, _, _, r, q => by cases r; cases q; rfl
  | .bool _, _, _, _, _, _, r, q => by cases r; cases q; rfl
  | .int _, _, _, _, _, _, r, q => by cases r; cases q; rfl
  | .str _, _, _, _, _, _, r, q => by cases r; cases q; rfl
  | .list _, _, _, _, _, n, _, _ => by simp [noL] at n
  | .dict _, _, _, _, _, n, _, _ => by simp [noL] at n
  | .tuple xs, e, _, _, _, n, r, q => by
    cases r with
    | tuple a1 a2 a3 a4 =>
      cases q with
      | tuple b1 b2 b3 b4 =>
        rw [a1] at b1; cases b1
        rw [a3] at b3; cases b3
        rw [one_rds (by simpa [noL] using n) a4 b4]
      | list b1 b2 b3 b4 =>
        rw [a1] at b1; cases b1
        rw [a2] at b2; exact absurd b2 (by decide)
      | dict b1 b2 b3 b4 b5 =>
        rw [a1] at b1; cases b1
        rw [a2] at b2; exact absurd b2 (by decide)
theorem one_rds {h : Heap} : ∀ {ds es : List PyData} {vs : List Value} {as bs : List Addr}, noLs ds = true → ReadsAll h vs ds as → ReadsAll h vs es bs → ds = es
  | [], _, _, _, _, _, r, q => by cases r; cases q; rfl
  | d :: ds, _, _, _, _, n, r, q => by
    cases r with
    | cons a1 a2 =>
      cases q with
      | cons b1 b2 =>
        rw [noLs, Bool.and_eq_true] at n
        rw [one_rd n.1 a1 b1, one_rds n.2 a2 b2]
end
section
open PySem.SeqAt AutoSeq1 MeetsSeq MeetsSeq2 MeetsSeq3 SeqRoads2
end
end MP
end
section
set_option Elab.async false
set_option linter.all false
set_option maxRecDepth 100000
namespace MP
open PySem PySem.Spec PyProof.Rows L2
section
variable {A : Around} {s : Shared}
end
end MP
end
section
set_option Elab.async false
set_option linter.all false
set_option maxRecDepth 100000
namespace MP
open PySem PySem.Spec PyProof.Rows L2
section
variable {prog : Program} {w : World} {A : Around} {s : Shared} {E : Value → Shared → Prop}
end
end MP
end
section
set_option Elab.async false
set_option linter.all false
set_option maxRecDepth 100000
namespace MP
open PySem PySem.Spec PyProof.Rows L2
section
variable {prog : Program} {w : World} {A : Around} {E : Value → Shared → Prop} {s : Shared} {β : Type} {R : Value → β → Prop}
structure KM (s : Shared) (a K : Addr) (h0 : Heap) (e1 : Nat) (ks : List PyData) (i : Nat) (s' : Shared) : Prop where
  ex : ∃ h tk kA c, s' = { s with heap := h, toks := tk } ∧ W.KeepsBut a h0 h ∧ h.get? K = some (seqObj "list" kA c) ∧ h.get? a = some (seqObj "list" #[] e1) ∧ W.EachIs (fun v k => Reads h v k [] ∧ W.alike k k = true) kA.toList (ks.take i)
end
end MP
end
section
set_option Elab.async false
set_option linter.all false
set_option maxRecDepth 100000
namespace MP
open PySem PySem.Spec PyProof.Rows L2
mutual
theorem noL_plain : ∀ {d : PyData}, noL d = true → d.plain = true
  | .none, _ => rfl
  | .bool _, _ => rfl
  | .int _, _ => rfl
  | .str _, _ => rfl
  | .list _, n => by simp [noL] at n
  | .dict _, n => by simp [noL] at n
  | .tuple xs, n => by
    simp only [PyData.plain]
    exact noLs_plain (by simpa [noL] using n)
theorem noLs_plain : ∀ {ds : List PyData}, noLs ds = true → PyData.plainAll ds = true
  | [], _ => rfl
  | d :: ds, n => by
    rw [noLs, Bool.and_eq_true] at n
    simp only [PyData.plainAll, noL_plain n.1, noLs_plain n.2, Bool.and_self]
end
section
variable {X : Cx} {Z : Zt} {Wx : Wish} {G : Pg} {C C1 : Nat → List Wv → Mem → Out Wv} {a b c e : Expr} {ea : Ex} {pos p p2 p3 kpos apos mpos : Pos}
variable {pins : List (Addr × Obj)} {σ : L2.St} {H H1 : Hp} {s : Shared} {ι ι1 : List Addr} {M : Mem} {sw : Sw}
end
end MP
end
section
set_option Elab.async false
set_option linter.all false
set_option maxRecDepth 100000
namespace MP
open PySem PySem.Spec PyProof.Rows L2
def txtOf (e : Int × Value) : Str := match e.2 with | .str k _ => k | _ => Str.empty
def TxtE (P : Program) (w : World) (e : Int × Value) : Prop := ∃ k tk, e.2 = Value.str k tk ∧ e.1 = (PySem.strKind P w).hash k
def SetS (P : Program) (w : World) (h : Heap) (a : Addr) (xs : List Str) : Prop :=
  ∃ o es ep t, h.get? a = some o ∧ o.ExactSet ∧ o.data = .set es ep t ∧ (∀ e ∈ es.toList, TxtE P w e) ∧ (es.toList.map txtOf).Perm xs ∧ xs.Nodup ∧
    es.size < scanBound ∧ t.fits es.size = true ∧ Ris t.place.toList ∧ (w.params.followText "set-order" = true ∨ t.led = true)
section
variable {P : Program} {w : World} {A : Around} {E : Value → Shared → Prop} {s : Shared} {a : Addr} {xs : List Str}
theorem SetS.at {h h' : Heap} (R : SetS P w h a xs) (k : ∀ o, h.get? a = some o → h'.get? a = some o) : SetS P w h' a xs := by
  obtain ⟨o, es, ep, t, ho, r⟩ := R
  exact ⟨o, es, ep, t, k o ho, r⟩
theorem new_led (v : Value) {Q₁ : Value → Shared → Prop}
    (h : Q₁ (.ref s.heap.objs.size) { s with heap := s.heap.push { cls := .type "set", dict := none, data := .set #[] 0 (.fresh 0 0 (!w.params.followText "set-order")) } }) :
    codeAny (model P w) A (.call (.builtin "set.__new__") ⟨[.type "set", v], []⟩) (wants Q₁ E) s := by
  refine codeAny_of_tree ?_
  show wpAny _ A.in1 (do checkBuiltinCall "set.__new__" ⟨[.type "set", v], []⟩; again (.builtin "set.__new__" ⟨[.type "set", v], []⟩)) _ _ s
  refine wpAny_bind (wpAny_of_eq (PySem.F.newCall_set_1 v) (wpAny_pure ⟨plainId_quiet F.plain_set_new _, codeAny_builtin F.entry_set_new ?_⟩))
  rw [Around.under_plainId F.plain_set_new _]
  unfold Builtin.«set.__new__» Builtin.Frozenset.newClass
  have hsub := sub_set_self
  obtain ⟨hp, g, d, tk, os⟩ := s
  dsimp only
  wp_walk
  refine wpAny_askSetting (wpAny_pure ?_)
  dsimp only
  simp only [newObj]
  refine wpAny_bind (wpAny_alloc (wpAny_pure ?_))
  exact wpAny_pure h
end
section
variable {prog : Program} {w : World} {A : Around} {R : Result → Shared → Prop} {I : Addr} {fp wr : List Addr} {G : Array GenState → Array GenState → Prop} {n : Nat} {P : Nat → Value → Prop} {St : Nat → Shared → Prop}
end
section
variable {prog : Program} {w : World} {A : Around} {E : Value → Shared → Prop} {s : Shared}
end
end MP
end
section
set_option Elab.async false
set_option linter.all false
set_option maxRecDepth 100000
namespace MP
open PySem PySem.Spec PyProof.Rows L2
section
variable {P : Program} {w : World} {A : Around} {E : Value → Shared → Prop} {s : Shared} {a : Addr} {xs : List Str}
end
section
variable {X : Cx} {Z : Zt} {Wx : Wish} {G : Pg} {C C1 : Nat → List Wv → Mem → Out Wv} {a b c e : Expr} {ea : Ex} {pos p p2 p3 : Pos}
variable {pins : List (Addr × Obj)} {σ : L2.St} {H H1 : Hp} {s : Shared} {ι ι1 : List Addr} {M : Mem} {sw : Sw}
end
end MP
end
section
set_option Elab.async false
set_option linter.all false
set_option maxRecDepth 100000
namespace MP
open PySem PySem.Spec PyProof.Rows L2
section
variable {X : Cx} {Z : Zt} {Wx : Wish} {G : Pg} {C C1 : Nat → List Wv → Mem → Out Wv} {a b c e tg : Expr} {ea eb ec : Ex} {pos p p2 p3 : Pos}
variable {pins : List (Addr × Obj)} {σ : L2.St} {H H1 : Hp} {s : Shared} {ι ι1 : List Addr} {M : Mem} {sw : Sw}
end
end MP
end
section
set_option Elab.async false
set_option linter.all false
set_option maxRecDepth 100000
namespace MP
open PySem PySem.Spec PyProof.Rows L2
section
variable {X : Cx} {Z : Zt} {Wx : Wish} {G : Pg} {C C1 : Nat → List Wv → Mem → Out Wv} {a b c e tg : Expr} {ea eb ec : Ex} {pos p p2 p3 : Pos}
variable {pins : List (Addr × Obj)} {σ : L2.St} {H H1 : Hp} {s : Shared} {ι ι1 : List Addr} {M : Mem} {sw : Sw}
end
end MP
end
section
set_option Elab.async false
set_option linter.all false
set_option maxRecDepth 100000
namespace MP
open PySem PySem.Spec PyProof.Rows L2
structure TryOk (K : PySem.W.Frag) (mg : Str → Option Value) (Z : Zt) (x x1 x2 x3 : Str) (c1 c2 c3 : Nat) : Prop where
  B : ∃ B, mg x = some (.ref B) ∧ ∀ c ∈ [c1, c2, c3], PySem.W.exmOne K (.ref (Z.exc c)) (.ref B) = some true
  cl : ∀ c ∈ [c1, c2, c3], ExcC K (Z.exc c)
  m1 : mg x1 = some (.ref (Z.exc c1))
  m2 : mg x2 = some (.ref (Z.exc c2))
  m3 : mg x3 = some (.ref (Z.exc c3))
  kit : ∀ c ∈ [c1, c2, c3], ∀ d ∈ [c1, c2, c3], PySem.W.kitOne K (.ref (Z.exc c)) (.ref (Z.exc d)) = some (decide (c = d))
  nd : c1 ≠ c2 ∧ c1 ≠ c3 ∧ c2 ≠ c3
section
variable {X : Cx} {Z : Zt} {Wx : Wish} {G : Pg} {C C1 : Nat → List Wv → Mem → Out Wv} {fu : Nat}
theorem Bx.tr (k : Bx X Z Wx G) {pn : List (Addr × Obj)} {xe : Value → Shared → Prop} {W : Wish} (tk : Takes (X.tr pn xe) (wxO Z W)) : Bx (X.tr pn xe) Z W G :=
  ⟨⟨k.K, k.P, k.w, k.calm, k.un, k.gd⟩, k.hS, k.nd, tk⟩
end
end MP
end
section
set_option Elab.async false
set_option linter.all false
set_option maxRecDepth 100000
namespace MP
open PySem PySem.Spec PyProof.Rows L2
end MP
end
section
set_option Elab.async false
set_option linter.all false
set_option maxRecDepth 100000
namespace MP
open PySem PySem.Spec PyProof.Rows L2
structure TabOk (w : World) (K : PySem.W.Frag) (mg : Str → Option Value) (x : Str) (kvs : List (Str × Wv)) : Prop where
  ex : ∃ d es n, mg x = some (.ref d) ∧ KDict K w d es n ∧ (∀ z, kvs.lookup z = none → PySem.W.nsIn K d z = some none) ∧ ∀ z wv, kvs.lookup z = some wv → ∃ u v, PySem.W.nsIn K d z = some (some u) ∧ RelV v u ∧ ∀ (Z : Zt) (ι : List Addr) (H : Hp), Z.K = K → WR Z ι H wv v
section
variable {X : Cx} {Z : Zt} {Wx : Wish} {G : Pg} {C C1 : Nat → List Wv → Mem → Out Wv} {a b c e tg : Expr} {ea eb ec : Ex} {pos p p2 p3 : Pos}
variable {pins : List (Addr × Obj)} {σ : L2.St} {H H1 : Hp} {s : Shared} {ι ι1 : List Addr} {M : Mem} {sw : Sw}
end
end MP
end
section
set_option Elab.async false
set_option linter.all false
set_option maxRecDepth 100000
namespace MP
open PySem PySem.Spec PyProof.Rows L2
end MP
end
section
set_option Elab.async false
set_option linter.all false
set_option maxRecDepth 100000
namespace MP
open PySem PySem.Spec PyProof.Rows L2
section
variable {P : Program} {w : World} {A : Around} {E : Value → Shared → Prop} {env : Env} {s : Shared} {e f : Expr}
end
def rankE (p1 p2 p3 p4 p5 p6 p7 p8 p9 : Pos) (j1 j2 j3 : Nat) : Expr := .Subscript (.Subscript (.Subscript (.Attribute (.Name "self" p1) "words" p2) (.UnaryOp .USub (.Constant (.int 1) j1 p3) p4) p5) (.Constant (.int ((1 : Nat) : Int)) j2 p6) p7) (.Constant (.int ((2 : Nat) : Int)) j3 p8) p9
structure RkFn (K : PySem.W.Frag) (g : Addr) : Prop where
  ex : ∃ (x qual : Str) (params : Arguments) (scope : Scope) (kws : List (Str × V)) (fd : FuncData) (p1 p2 p3 p4 p5 p6 p7 p8 p9 p10 : Pos) (j1 j2 j3 : Nat), FunD K x qual params [.Return (some (rankE p1 p2 p3 p4 p5 p6 p7 p8 p9 j1 j2 j3)) p10] scope [] kws g fd ∧
    (∀ (s : Shared) (u : Value), BindsTo s fd ⟨[u], []⟩ [("self", u)]) ∧ scope.kind = .function ∧ scope.isCoroutine = false ∧ scope.isGenerator = false ∧ (∀ y ∈ scope.names, y.2 ≠ .cell) ∧ scope.names.lookup ("self" : Str) = some .local
structure RkH (K : PySem.W.Frag) (H : Hp) (s : Shared) (u : Value) (d : PyData) : Prop where
  ex : ∃ (a C dx : Addr) (fs : List (Str × V)) (q : Addr) (xs : List V) (v : V) (ds es : List PyData) (i : Int) (n : Str) (g : Addr), u = .ref a ∧ d = .tuple [.int i, .str n] ∧ H a = some (.ins C dx fs) ∧ Cls K C ∧ NoAttr K C "words" ∧ NoAttr K C "name" ∧ Meth K C "rank" g ∧ RkFn K g ∧
    fs.lookup ("rank" : Str) = none ∧ fs.lookup ("words" : Str) = some (.ref q) ∧ fs.lookup ("name" : Str) = some (.str n) ∧ H q = some (.lst (xs ++ [v])) ∧ (∀ u', RelV v u' → Reads s.heap u' (.tuple ds) []) ∧ ds[1]? = some (.tuple es) ∧ es[2]? = some (.int i)
section
variable {X : Cx} {pins : List (Addr × Obj)} {σ : L2.St} {H : Hp} {s : Shared} {A : Around} {E : Value → Shared → Prop}
end
section
variable {X : Cx} {Z : Zt} {Wx : Wish} {G : Pg} {C C1 : Nat → List Wv → Mem → Out Wv} {a b c e : Expr} {ea : Ex} {pos p p2 p3 kpos : Pos}
variable {pins : List (Addr × Obj)} {σ : L2.St} {H H1 : Hp} {s : Shared} {ι ι1 : List Addr} {M : Mem} {sw : Sw}
theorem RkH.mono {K : PySem.W.Frag} {u : Value} {d : PyData} {h' : Heap} {tk : Nat} (h : RkH K H s u d) (kp : ∀ b o, s.heap.get? b = some o → h'.get? b = some o) : RkH K H { s with heap := h', toks := tk } u d := by
  obtain ⟨a, C, dx, fs, q, xs, v, ds, es, i, n, g, h0, h00, h1, h2, h3, h4, h5, h6, h7, h8, h9, h10, h11, h12, h13⟩ := h.ex
  exact ⟨a, C, dx, fs, q, xs, v, ds, es, i, n, g, h0, h00, h1, h2, h3, h4, h5, h6, h7, h8, h9, h10, fun u' r => PyProof.Rows.Reads.keeps kp (h11 u' r), h12, h13⟩
end
end MP
end
section
set_option Elab.async false
set_option linter.all false
set_option maxRecDepth 100000
namespace MP
open PySem PySem.Spec PyProof.Rows L2
def LkSw (Z : Zt) (ι : List Addr) (H : Hp) (ps : List (Nat × Ob)) (dl : Option (Addr × Obj)) : Prop := match dl with
  | none => ∀ M, lockM ps M = M ∧ unlkM ps M = M
  | some (d, o) => ∃ l kvs, ps = [(l, .dct false kvs)] ∧ ι[l]? = some d ∧ DctR Z ι H d true kvs ∧ H d = some (lkO true d o)
structure LkW (Z : Zt) (ι ι1 : List Addr) (H H1 : Hp) (M : Mem) (ps : List (Nat × Ob)) (dl : Option (Addr × Obj)) : Prop where
  ext : Ext ι ι1 H (ulH dl H1)
  rm : RM Z ι1 (lockM ps M) H1
  lk : LkSw Z ι1 H1 ps dl
theorem Lk.w {X : Cx} {Z : Zt} {ι ι1 : List Addr} {H H1 : Hp} {M : Mem} {ps : List (Nat × Ob)} {dl : Option (Addr × Obj)} (L : Lk X Z ι ι1 H H1 M ps dl) : LkW Z ι ι1 H H1 M ps dl := ⟨L.ext, L.rm, by
  have h := L.lk
  cases dl with
  | none => exact h
  | some p => obtain ⟨l, kvs, a, b, c, d, _⟩ := h; exact ⟨l, kvs, a, b, c, d⟩⟩
section
variable {X : Cx} {Z : Zt} {Wx : Wish} {G : Pg} {C C1 : Nat → List Wv → Mem → Out Wv} {a b c e tg iter elt tg1 iter1 : Expr} {es : List Expr} {ea eb ec ee ek ev : Ex} {el : El} {it it2 : MP.It} {pos p p2 p3 apos : Pos}
variable {pins : List (Addr × Obj)} {σ : L2.St} {H H1 H2 B : Hp} {s : Shared} {ι ι1 ι2 : List Addr} {M : Mem} {sw : Sw} {ps pd : List (Nat × Ob)} {dl : Option (Addr × Obj)} {ds : List Addr}
theorem LkW.step (L : LkW Z ι ι1 H H1 M ps dl) : Ext ι ι1 H H1 := by
  cases dl with
  | none => exact L.ext
  | some p =>
    obtain ⟨d, o⟩ := p
    obtain ⟨l, kvs, ep, hl, D, hd⟩ := L.lk
    have E := L.ext
    have hm : d ∈ ι1 := List.mem_of_getElem? hl
    refine ⟨E.pre, fun x q h nt hx => ?_, fun x ob φ h => ?_, fun x h => ?_⟩
    · have h1 : upd H1 d (DctO d o) x = some q := E.frm x q h nt hx
      by_cases hxd : x = d
      · subst hxd
        rw [upd_same] at h1
        cases h1
        rcases hx with z | z
        · obtain ⟨κ, rfl, hκ⟩ := E.pre
          rcases List.mem_append.mp hm with y | y
          · exact absurd y z
          · exact absurd nt (hκ x y _ h)
        · exact absurd z (lkO_noI false x o)
      · rw [upd_ne hxd] at h1; exact h1
    · have h1 : upd H1 d (DctO d o) x = some (.frz ob (.ext φ)) := E.frz x ob φ h
      by_cases hxd : x = d
      · rw [hxd, upd_same] at h1; cases h1
      · rw [upd_ne hxd] at h1; exact h1
    · have hxd : x ≠ d := fun z => by rw [z] at h; exact h _ hd (lkO_noT true d o)
      refine E.dom x fun q e n => ?_
      have e : upd H1 d (DctO d o) x = some q := e
      rw [upd_ne hxd] at e
      exact h q e n
theorem LkW.nf {d : Addr} {o : Obj} (L : LkW Z ι ι1 H H1 M ps (some (d, o))) : ∀ ob φ, H d ≠ some (.frz ob (.ext φ)) := fun ob φ h => by
  have h1 : upd H1 d (DctO d o) d = some (.frz ob (.ext φ)) := L.ext.frz d ob φ h
  rw [upd_same] at h1
  cases h1
theorem unlkM_app (ps pd : List (Nat × Ob)) (M : Mem) : unlkM (ps ++ pd) M = unlkM ps (unlkM pd M) := by
  induction ps with
  | nil => rfl
  | cons p r ih =>
    obtain ⟨l, o⟩ := p
    cases o with
    | lst ws => exact ih
    | ins c fs => exact ih
    | dct z kvs =>
      cases z with
      | true => exact ih
      | false => show (unlkM (r ++ pd) M).set l _ = (unlkM r (unlkM pd M)).set l _; rw [ih]
inductive Pile (B : Hp) (Z : Zt) (ι : List Addr) (H : Hp) : List Addr → List (Nat × Ob) → Prop where
  | nil : Pile B Z ι H [] []
  | idle {ds : List Addr} {ps pd : List (Nat × Ob)} : (∀ M, unlkM ps M = M) → Pile B Z ι H ds pd → Pile B Z ι H ds (ps ++ pd)
  | lock {ds : List Addr} {pd : List (Nat × Ob)} {l : Nat} {d : Addr} {kvs : List (Wv × Wv)} : ι[l]? = some d → DctR Z ι H d true kvs → (∀ o φ, B d ≠ some (.frz o (.ext φ))) → d ∉ ds → Pile B Z ι H ds pd → Pile B Z ι H (d :: ds) ((l, .dct false kvs) :: pd)
theorem Pile.mono (h : Pile B Z ι H ds pd) (le : Le ι ι1 H H1) (k : ∀ d o, H d = some (lkO true d o) → H1 d = some (lkO true d o)) : Pile B Z ι1 H1 ds pd := by
  induction h with
  | nil => exact .nil
  | idle h _ ih => exact .idle h ih
  | @lock ds pd l d kvs hl D nf nd _ ih =>
    refine .lock (le.ix l d hl) ?_ nf nd ih
    obtain ⟨o, es, ep, h1, h2, h3, h4, h5, h6, h7, h8⟩ := D
    exact ⟨o, es, ep, k d o h1, h2, h3, h4, h5, h6, h7, L2.Paired.mapP h8 fun _ _ z => z.mono le⟩
theorem Pile.go (h : Pile B Z ι H ds pd) (x : Ext ι ι1 H H1) : Pile B Z ι1 H1 ds pd := h.mono x.le fun d o e => x.frz d o _ e
theorem Pile.at_ (h : Pile B Z ι H ds pd) : ∀ d ∈ ds, d ∈ ι ∧ (∃ o, H d = some (lkO true d o)) ∧ ∀ o φ, B d ≠ some (.frz o (.ext φ)) := by
  induction h with
  | nil => intro d hd; cases hd
  | idle h _ ih => exact ih
  | lock hl D nf nd _ ih =>
    intro x hx
    rcases List.mem_cons.mp hx with rfl | hx
    · obtain ⟨o, es, ep, h1, _⟩ := D
      exact ⟨List.mem_of_getElem? hl, ⟨o, h1⟩, nf⟩
    · exact ih x hx
inductive UlS (X : Cx) : Hp → Hp → Prop where
  | refl (H : Hp) : UlS X H H
  | step {H H1 : Hp} {d : Addr} {o : Obj} : UlS X H H1 → H1 d = some (lkO true d o) → (∀ o' φ, X.H_0 d ≠ some (.frz o' (.ext φ))) → UlS X H (upd H1 d (DctO d o))
theorem Pile.un (h : Pile B Z ι H ds pd) (hx : ∀ d o φ, X.H_0 d = some (.frz o (.ext φ)) → B d = some (.frz o (.ext φ))) (R : RM Z ι M H) :
    ∃ H', UlS X H H' ∧ RM Z ι (unlkM pd M) H' ∧ Le ι ι H H' ∧ (∀ a, a ∉ ds → H' a = H a) ∧ ∀ ι0, Ext ι0 ι B H → Ext ι0 ι B H' := by
  induction h with
  | nil => exact ⟨H, .refl H, R, (Ext.refl ι H).le, fun _ _ => rfl, fun _ h => h⟩
  | idle h _ ih =>
    obtain ⟨H', u, R', le, fr, ex⟩ := ih
    exact ⟨H', u, by rw [unlkM_app, h]; exact R', le, fr, ex⟩
  | @lock ds pd l d kvs hl D nf nd _ ih =>
    obtain ⟨H', u, R', le, fr, ex⟩ := ih
    obtain ⟨o, es, ep, h1, h2, h3, h4, h5, h6, h7, h8⟩ := D
    have hd : H' d = some (lkO true d o) := by rw [fr d nd]; exact h1
    have le2 : Le ι ι H' (upd H' d (DctO d o)) := Le.write R' hl
    have le3 : Le ι ι H (upd H' d (DctO d o)) := ⟨fun _ _ h => h, fun a q h i => le2.imm a q (le.imm a q h i) i⟩
    have hlt : l < (unlkM pd M).length := by rw [← R'.len]; exact (List.getElem?_eq_some_iff.mp hl).1
    have hM : (unlkM pd M)[l]? = some (unlkM pd M)[l] := by simp [hlt]
    refine ⟨_, .step u hd fun o' φ e => nf o' φ (hx d o' φ e), ?_, le3, fun a ha => ?_, fun ι0 E => ?_⟩
    · show RM Z ι ((unlkM pd M).set l (.dct false kvs)) _
      refine R'.write hM hl hd (lkO_noT true d o) (fun q z => by cases z) ?_
      exact ⟨o, es, ep, upd_same, h2, h3, h4, h5, h6, h7, L2.Paired.mapP h8 fun _ _ z => z.mono le3⟩
    · rw [upd_ne (fun z => ha (by rw [z]; exact List.mem_cons_self)), fr a fun z => ha (List.mem_cons_of_mem _ z)]
    · have E := ex ι0 E
      refine ⟨E.pre, fun x q h nt hq => ?_, fun x ob φ h => ?_, fun x h => ?_⟩
      · have h1 := E.frm x q h nt hq
        have hxd : x ≠ d := fun z => by rw [z, hd] at h1; cases h1; rw [z] at h; exact nf _ _ h
        rw [upd_ne hxd]; exact h1
      · have h1 := E.frz x ob φ h
        have hxd : x ≠ d := fun z => by rw [z] at h; exact nf _ _ h
        rw [upd_ne hxd]; exact h1
      · have hxd : x ≠ d := fun z => by rw [z] at h; exact h.upd_self (lkO_noT false d o)
        exact E.dom x (h.upd_ne hxd)
end
end MP
end
section
set_option Elab.async false
set_option linter.all false
set_option maxRecDepth 100000
namespace MP
open PySem PySem.Spec PyProof.Rows L2
section
variable {prog : Program} {w : World} {A : Around} {E : Value → Shared → Prop} {s : Shared}
end
section
variable {X : Cx} {Z : Zt} {Wx : Wish} {G : Pg} {C C1 : Nat → List Wv → Mem → Out Wv} {a b c e : Expr} {ea : Ex} {pos p p2 p3 : Pos}
variable {pins : List (Addr × Obj)} {σ : L2.St} {H H1 : Hp} {s : Shared} {ι ι1 : List Addr} {M : Mem} {sw : Sw}
theorem vals_ints : ∀ {us : List Value} {ns : List Int}, IntsAre us ns → Vals (ns.map V.int) us
  | _, _, .nil => .nil
  | _, _, .cons k tk h => .cons ⟨tk, rfl⟩ (vals_ints h)
end
end MP
end
section
set_option Elab.async false
set_option linter.all false
set_option maxRecDepth 100000
namespace MP
open PySem PySem.Spec PyProof.Rows L2
section
variable {X : Cx} {Z : Zt} {Wx : Wish} {G : Pg} {C C1 : Nat → List Wv → Mem → Out Wv} {a b c e tg : Expr} {ea eb ec : Ex} {pos p p2 p3 : Pos}
variable {pins : List (Addr × Obj)} {σ : L2.St} {H H1 : Hp} {s : Shared} {ι ι1 : List Addr} {M : Mem} {sw : Sw}
end
end MP
end
section
set_option Elab.async false
set_option linter.all false
set_option maxRecDepth 100000
namespace MP
open PySem PySem.Spec PyProof.Rows L2
section
variable {prog : Program} {w : World} {A : Around} {R : Result → Shared → Prop} {s : Shared} {kx vx t0 i0 t1 i1 : Expr} {scope : Scope} {pos : Pos} {it acc : Value} {D : Addr} {env : Env}
end
section
variable {X : Cx} {Z : Zt} {Wx : Wish} {G : Pg} {C C1 : Nat → List Wv → Mem → Out Wv} {a b c e tg iter elt tg1 iter1 kx vx : Expr} {es : List Expr} {ea eb ec ee ek ev : Ex} {el : El} {it it2 : MP.It} {pos p p2 p3 apos : Pos}
variable {pins : List (Addr × Obj)} {σ : L2.St} {H H1 H2 B : Hp} {s : Shared} {ι ι1 ι2 : List Addr} {M : Mem} {sw : Sw} {ps pd : List (Nat × Ob)} {dl : Option (Addr × Obj)} {ds : List Addr}
end
end MP
end
section
set_option Elab.async false
set_option linter.all false
set_option maxRecDepth 100000
namespace MP
open PySem PySem.Spec PyProof.Rows L2
structure LenOk (P : Program) (w : World) (K : PySem.W.Frag) (mg : Str → Option Value) (base : Heap) (A : Around) (Z : Zt) (G : Pg) (C1 : Nat → List Wv → Mem → Out Wv) : Prop where
  ex : ∀ c kk i, G.cls c = some kk → kk.meths.lookup ("__len__" : Str) = some i → ∃ f n fd ps, Cls K (Z.cls c) ∧ Meth K (Z.cls c) "__len__" f ∧ FnG P w K mg base n f fd ps (spI Z (C1 i)) ∧ Room (n + 1) A ∧ Binds K fd ps []
section
variable {X : Cx} {Z : Zt} {Wx : Wish} {G : Pg} {C C1 : Nat → List Wv → Mem → Out Wv} {a : Expr} {ea : Ex} {pos p : Pos}
end
end MP
end
section
set_option Elab.async false
set_option linter.all false
set_option maxRecDepth 100000
namespace MP
open PySem PySem.Spec PyProof.Rows L2
section
variable {κ : Type} [DecidableEq κ] {P : Program} {w : World}
structure Mild (B : HeapKind P w κ) : Prop where
  st : B.Stays
  cls : ∀ {A : Around} {E : Value → Shared → Prop} {s : Shared} {x : κ} {b : Addr} {Q : Bool → Shared → Prop}, B.is s.heap x b → Q false s → wpAny (model P w) A (ofAClassStatement 8 (.ref b)) Q E s
  byv : ∀ {A : Around} {E : Value → Shared → Prop} {s : Shared} {x : κ} {b : Addr} {Q : Bool → Shared → Prop}, B.is s.heap x b → (∀ z, Q z s) → wpAny (model P w) A (hashByValue 8 (.ref b)) Q E s
def mrow (B : HeapKind P w κ) (m : Addr × κ) : Int × Value := (B.hash m.2, .ref m.1)
structure MSet (B : HeapKind P w κ) (h : Heap) (c : Addr) (ms : List (Addr × κ)) (es : Array (Int × Value)) (ep : Nat) (t : SetTable) : Prop where
  obj : ∃ o, h.get? c = some o ∧ o.ExactSet ∧ o.data = .set es ep t
  ent : es.toList = ms.map (mrow B)
  tab : L2.TabOk t (ms.map fun m => B.hash m.2)
  once : (ms.map (·.2)).Nodup
  mem : ∀ m ∈ ms, B.is h m.2 m.1
  free : ms.length * 5 < t.mask * 3
  low : ms.length < 64
  led : w.params.followText "set-order" = true ∨ t.led = true
variable {B : HeapKind P w κ} {c : Addr} {ms : List (Addr × κ)} {es : Array (Int × Value)} {ep : Nat} {t : SetTable} {h : Heap}
theorem ent_size (e : es.toList = ms.map (mrow B)) : es.size = ms.length := by
  rw [← Array.length_toList, e, List.length_map]
theorem MSet.size (S : MSet B h c ms es ep t) : es.size = ms.length := ent_size S.ent
theorem fits_of {n : Nat} (h1 : t.place.size = n) (h2 : t.dummies = #[]) (h3 : n ≤ t.mask) : t.fits n = true := by
  unfold SetTable.fits SetTable.fill
  rw [h2, h1]
  simpa using h3
theorem MSet.fits (S : MSet B h c ms es ep t) : t.fits es.size = true := by
  have e := S.tab.sz
  have f := S.free
  rw [List.length_map] at e
  rw [S.size]
  exact fits_of e S.tab.dm (by omega)
theorem MSet.at (S : MSet B h c ms es ep t) {i : Nat} {m : Addr × κ} (e : ms[i]? = some m) : es[i]? = some (mrow B m) := by
  have q := congrArg (·[i]?) S.ent
  simp only [List.getElem?_map, e] at q
  simpa using q
theorem MSet.hashAt (S : MSet B h c ms es ep t) {i : Nat} {m : Addr × κ} (e : ms[i]? = some m) : (es[i]?.map (·.1)).getD 0 = B.hash m.2 := by
  rw [S.at e]
  rfl
theorem MSet.stays (S : MSet B h c ms es ep t) (W : Mild B) {h' : Heap} (k : ∀ b o, h.get? b = some o → h'.get? b = some o) : MSet B h' c ms es ep t := by
  obtain ⟨o, e, r⟩ := S.obj
  exact ⟨⟨o, k c o e, r⟩, S.ent, S.tab, S.once, fun m hm => W.st.stays (fun b o _ _ e _ => k b o e) (S.mem m hm), S.free, S.low, S.led⟩
theorem Mild.over (W : Mild B) {x : κ} {b : Addr} {o : Obj} {h' : Heap} (hx : B.is h x b) (ho : h.get? c = some o) (hd : o.data = .set es ep t) (sb : Heap.SameBut c h h') : B.is h' x b :=
  W.st.stays (fun d o' vs n e1 e2 => by
    refine (sb.2 d fun z => ?_).trans e1
    rw [z, ho] at e1
    cases e1
    rw [hd] at e2
    cases e2) hx
variable {A : Around} {E : Value → Shared → Prop} {s : Shared}
theorem Mild.unseen (W : Mild B) {x : κ} {b : Addr} {Q : Bool → Shared → Prop} (hx : B.is s.heap x b) : ∀ {ys : List Value}, (∀ y ∈ ys, ∃ z d, y = Value.ref d ∧ B.is s.heap z d) → Q false s → wpAny (model P w) A (searchCouldBeSeen (.ref b) ys) Q E s := by
  intro ys hy hq
  unfold searchCouldBeSeen
  refine wpAny_bind (wpAny_forIn_list _ (fun left r s1 => s1 = s ∧ r.1 = none ∧ ∀ y ∈ left, ∃ z d, y = Value.ref d ∧ B.is s.heap z d) _ ?step ?fin _ _ ⟨rfl, rfl, hy⟩)
  case step =>
    rintro y left r s1 ⟨rfl, er, al⟩
    have nx : ∀ y ∈ left, ∃ z d, y = Value.ref d ∧ B.is s1.heap z d := fun u hu => al u (.tail _ hu)
    obtain ⟨z, d, rfl, hz⟩ := al y (.head _)
    dsimp only
    refine wpAny_ite_split (fun _ => wpAny_pure ⟨rfl, rfl, nx⟩) fun _ => ?_
    refine wpAny_bind (B.quiet hx ?_)
    refine wpAny_bind (B.quiet hz ?_)
    refine wpAny_bind (W.cls hx ?_)
    refine wpAny_bind (W.cls hz ?_)
    exact wpAny_pure ⟨rfl, rfl, nx⟩
  case fin =>
    rintro ⟨r1, r2⟩ s1 ⟨rfl, er, _⟩
    cases er
    exact wpAny_pure hq
abbrev stn (t : SetTable) (g : Int) (n : Nat) : SetTable.Probe := nth t.mask (runAt t.mask (SetTable.bits g % (t.mask + 1)) (SetTable.bits g)) n
theorem stn_dm (t : SetTable) (g : Int) (n : Nat) : (stn t g n).dummy = none := by
  have key : ∀ (m : Nat) (p : SetTable.Probe), p.dummy = none → (nth t.mask p m).dummy = none := by
    intro m
    induction m with
    | zero => exact fun _ z => z
    | succ m ih =>
      intro p z
      refine ih _ ?_
      unfold adv
      by_cases q : p.more > 0
      all_goals (first | (rw [if_pos q]; exact z) | (rw [if_neg q]; exact z) | (split <;> exact z))
  exact key n _ rfl
theorem stn_add (t : SetTable) (g : Int) (n q : Nat) : nth t.mask (stn t g n) q = stn t g (n + q) := (nth_add t.mask n _ q).symm
theorem MSet.seek (S : MSet B s.heap c ms es ep t) (W : Mild B) {x : κ} {b : Addr} (hx : B.is s.heap x b) (hu : B.room A) {n : Nat} (n1 : n < 10 * SetTable.turns t.mask)
    (n2 : (stn t (B.hash x) n).j ∉ t.place.toList) (n3 : ∀ q, q < n → (stn t (B.hash x) q).j ∈ t.place.toList) {Q : SetFound → Shared → Prop}
    (yes : x ∈ ms.map (·.2) → Q (.there none) s) (no : x ∉ ms.map (·.2) → Q (.free (stn t (B.hash x) n).j false) s) : ∀ (f d : Nat) (z : Option SetTable.Probe),
    z.getD (t.probeStart (B.hash x)) = stn t (B.hash x) d → d ≤ n → n < d + f → (∀ (i : Nat) m, ms[i]? = some m → m.2 = x → ∃ q, d ≤ q ∧ q < n ∧ t.place.toList[i]? = some (stn t (B.hash x) q).j) →
    wpAny (model P w) A (setSearchFrom c (.ref b) (B.hash x) true f z) Q E s := by
  intro f
  induction f with
  | zero => intro d z _ h1 h2; exact absurd h2 (by omega)
  | succ f ih =>
    intro d z hz h1 h2 back
    obtain ⟨o, ho, hex, hd⟩ := S.obj
    have sp := go_spec t S.tab.ris S.tab.dm (fun i => (es[i]?.map (·.1)).getD 0) (B.hash x) (10 * SetTable.turns t.mask) (n - d) (stn t (B.hash x) d) (stn_dm t _ d) (by omega)
      (fun q hq => by rw [stn_add]; exact n3 _ (by omega)) (by rw [stn_add, Nat.add_sub_cancel' h1]; exact n2)
    simp only [stn_add, Nat.add_sub_cancel' h1] at sp
    rw [setSearchFrom_succ]
    refine wpAny_bind (wpAny_setState_of ho hd S.fits ?_)
    dsimp only
    refine wp_if_neg (by unfold SetTable.gaveWay; rw [mask_odd S.tab.mok]; decide) ?_
    rw [hz]
    have og : ∀ {i : Nat} {m : Addr × κ} {q : Nat}, ms[i]? = some m → m.2 = x → (∀ k' i' : Nat, k' < q → t.place.toList[i']? = some (stn t (B.hash x) (d + k')).j → (es[i']?.map fun e : Int × Value => e.1).getD 0 ≠ B.hash x) → ∃ q', d + q ≤ q' ∧ q' < n ∧ t.place.toList[i]? = some (stn t (B.hash x) q').j := by
      intro i m q e1 e2 hno
      obtain ⟨q', a1, a2, a3⟩ := back i m e1 e2
      refine ⟨q', Nat.le_of_not_lt fun lt => ?_, a2, a3⟩
      refine hno (q' - d) i (by omega) (by rw [Nat.add_sub_cancel' a1]; exact a3) ?_
      rw [S.hashAt e1, e2]
    rcases sp with ⟨q, i, hq, hi, hh, hno, hp⟩ | ⟨hno, hp⟩
    · rw [show t.probe (fun i => (es[i]?.map (·.1)).getD 0) (B.hash x) (stn t (B.hash x) d) = _ from hp]
      dsimp only
      have il : i < ms.length := by
        have u := (List.getElem?_eq_some_iff.mp hi).1
        rw [Array.length_toList, S.tab.sz, List.length_map] at u
        exact u
      obtain ⟨m, em⟩ : ∃ m, ms[i]? = some m := ⟨_, List.getElem?_eq_getElem il⟩
      have mm : m ∈ ms := List.mem_of_getElem? em
      have sl : t.slot (stn t (B.hash x) (d + q)).j = .live i := slot_live S.tab.ris hi
      have go : wpAny (model P w) A (searchRest c (.ref b) (B.hash x) true f es t (stn t (B.hash x) (d + q)).j i (stn t (B.hash x) (d + (q + 1)))) Q E s := by
        unfold searchRest
        rw [S.at em]
        refine wpAny_bind (wpAny_holding (B.eqBool hu (S.mem m mm) hx ?_))
        refine wpAny_bind (wpAny_setState_of ho hd S.fits ?_)
        by_cases e : m.2 = x
        · refine wp_if_pos (by rw [decide_eq_true e]; rfl) (wpAny_pure (yes (e ▸ List.mem_map_of_mem mm)))
        · have df : decide (m.2 = x) = false := decide_eq_false e
          refine wp_if_neg (by rw [df]; decide) ?_
          rw [sameMem]
          simp only [if_true, sl, S.at em, mrow]
          refine wpAny_bind (wpAny_isSame_ref_self (wpAny_bind (wpAny_pure ?_)))
          simp only [if_true, df]
          refine wp_if_neg (by decide) ?_
          refine ih (d + (q + 1)) _ rfl (by omega) (by omega) fun i0 m0 e1 e2 => ?_
          obtain ⟨q', a1, a2, a3⟩ := og e1 e2 hno
          refine ⟨q', ?_, a2, a3⟩
          rcases Nat.lt_or_ge (d + q) q' with lt | ge
          · omega
          · have eq : q' = d + q := Nat.le_antisymm ge a1
            subst eq
            have s0 := slot_live S.tab.ris a3
            rw [sl] at s0
            cases s0
            rw [em] at e1
            cases e1
            exact absurd e2 e
      by_cases hl : t.led = true
      · exact wp_if_neg (by simp [hl]) go
      · refine wp_if_pos (by simp [hl]) (wpAny_bind (W.unseen hx (fun y hy => ?_) (wp_if_neg (by decide) go)))
        obtain ⟨e, he, rfl⟩ := List.mem_map.mp hy
        have he2 : e ∈ es.toList := by
          have u := Array.mem_toList_iff.mp he
          exact Array.mem_toList_iff.mpr (Array.mem_filter.mp u).1
        rw [S.ent] at he2
        obtain ⟨m2, h3, rfl⟩ := List.mem_map.mp he2
        exact ⟨_, _, rfl, S.mem m2 h3⟩
    · rw [show t.probe (fun i => (es[i]?.map (·.1)).getD 0) (B.hash x) (stn t (B.hash x) d) = _ from hp]
      refine wpAny_pure (no fun hm => ?_)
      obtain ⟨m, mm, e⟩ := List.mem_map.mp hm
      obtain ⟨i, e1⟩ := List.getElem?_of_mem mm
      obtain ⟨q', a1, a2, a3⟩ := og (q := n - d) e1 e (fun k' i' lt => hno k' i' lt)
      omega
theorem MSet.search (S : MSet B s.heap c ms es ep t) (W : Mild B) {x : κ} {b : Addr} (hx : B.is s.heap x b) (hu : B.room A) {Q : SetFound → Shared → Prop} (yes : x ∈ ms.map (·.2) → Q (.there none) s)
    (no : ∀ n, x ∉ ms.map (·.2) → (stn t (B.hash x) n).j ∉ t.place.toList → (∀ q, q < n → (stn t (B.hash x) q).j ∈ t.place.toList) → Q (.free (stn t (B.hash x) n).j false) s) :
    wpAny (model P w) A (setSearch c (.ref b) (B.hash x) true) Q E s := by
  have fr := S.free
  obtain ⟨n, n1, n2, n3⟩ := S.tab.first (by rw [List.length_map]; omega) (B.hash x)
  have big : n < 0 + 100000 := by
    refine Nat.lt_trans n1 ?_
    unfold SetTable.turns
    rcases S.tab.mok with e | e | e <;> rw [e] <;> decide
  unfold setSearch
  refine S.seek W hx hu n1 n2 n3 yes (fun z => no n z n2 n3) 100000 0 none rfl (Nat.zero_le _) big fun i m e1 e2 => ?_
  have e3 : (ms.map fun m => B.hash m.2)[i]? = some (B.hash x) := by rw [List.getElem?_map, e1, ← e2]; rfl
  have il : i < t.place.toList.length := by
    have u := (List.getElem?_eq_some_iff.mp e3).1
    rw [← S.tab.sz, ← Array.length_toList] at u
    exact u
  obtain ⟨q, lt, e⟩ := S.tab.before n2 e3 (List.getElem?_eq_getElem il)
  exact ⟨q, Nat.zero_le _, lt, by rw [List.getElem?_eq_getElem il, ← e]⟩
theorem all_back {α : Type} : ∀ l : List α, (List.range l.length).filterMap (fun i => l[i]?) = l
  | [] => rfl
  | x :: l => by
    rw [List.length_cons, List.range_succ_eq_map, List.filterMap_cons_some (f := fun i => (x :: l)[i]?) (a := 0) (b := x) rfl, List.filterMap_map]
    exact congrArg (x :: ·) (all_back l)
theorem laid_rows (ent : es.toList = ms.map (mrow B)) {order : Array Nat} (hp : order.toList.Perm (List.range ms.length)) : ∃ ns : List (Addr × κ), ns.Perm ms ∧
    (order.filterMap (es[·]?)).toList = ns.map (mrow B) ∧ ns.map (fun m => B.hash m.2) = order.toList.map fun i => (es.map (·.1)).getD i 0 := by
  have at_ : ∀ i, es[i]? = (ms[i]?).map (mrow B) := fun i => by
    rw [← Array.getElem?_toList, ent, List.getElem?_map]
  refine ⟨order.toList.filterMap fun i => ms[i]?, ?_, ?_, ?_⟩
  · have u := hp.filterMap fun i => ms[i]?
    rw [all_back] at u
    exact u
  · rw [Array.toList_filterMap, List.map_filterMap]
    exact congrArg (fun f => List.filterMap f order.toList) (funext at_)
  · have : ∀ l : List Nat, (∀ i ∈ l, i < ms.length) → (l.filterMap fun i => ms[i]?).map (fun m => B.hash m.2) = l.map fun i => (es.map (·.1)).getD i 0 := by
      intro l
      induction l with
      | nil => intro _; rfl
      | cons i l ih =>
        intro al
        have hi := al i (.head _)
        rw [List.filterMap_cons_some (List.getElem?_eq_getElem hi), List.map_cons, List.map_cons, ih fun j hj => al j (.tail _ hj)]
        congr 1
        have u := at_ i
        rw [List.getElem?_eq_getElem hi] at u
        simp [Array.getD_eq_getD_getElem?, Array.getElem?_map, u, mrow]
    exact this _ fun i hi => List.mem_range.mp (hp.mem_iff.mp hi)
theorem Mild.relay (W : Mild B) {o : Obj} (ho : s.heap.get? c = some o) (hex : o.ExactSet) (hd : o.data = .set es ep t) (ent : es.toList = ms.map (mrow B)) (sz : t.place.size = es.size) (dm : t.dummies = #[])
    (bd : es.size ≤ t.mask) (once : (ms.map (·.2)).Nodup) (mem : ∀ m ∈ ms, B.is s.heap m.2 m.1) (low : ms.length < 64) (ld : w.params.followText "set-order" = true ∨ t.led = true) {want M : Nat} (e1 : SetTable.sizeAbove want - 1 = M) (hM : MaskOk M)
    (e2 : SetTable.sizeAbove want ≤ 128) (e3 : ms.length * 5 < M * 3) {Q : Unit → Shared → Prop}
    (q : ∀ h' ns es' ep' t', Heap.SameBut c s.heap h' → MSet B h' c ns es' ep' t' → ns.Perm ms → Q () { s with heap := h' }) : wpAny (model P w) A (setRelay c want) Q E s := by
  have n1 := ent_size ent
  obtain ⟨u, order, r1, r2, r3, r4, r5, r6, r7⟩ := relaid_ok t (hs := es.map (·.1)) (wanted := want) e1 hM (by rw [Array.size_map, n1]; omega)
  rw [Array.size_map, n1] at r2
  obtain ⟨ns, p1, p2, p3⟩ := laid_rows ent r2
  rw [← p3] at r3
  have n2 : (order.filterMap (es[·]?)).size = es.size := by rw [ent_size p2, n1, p1.length_eq]
  rw [setRelay_eq]
  refine wpAny_bind (wpAny_setState_of ho hd (fits_of sz dm bd) ?_)
  refine wp_if_neg (by rw [sizeLine_eq]; omega) ?_
  rw [r1]
  refine wpAny_bind (wp_if_neg (by rw [n2]; simp) (wpAny_pure ?_))
  have sb : Heap.SameBut c s.heap (s.heap.update c (Obj.putSet (order.filterMap (es[·]?)) u)) := Heap.SameBut.update ..
  have sz2 : u.place.size = ns.length := by rw [r3.sz, List.length_map]
  refine wpAny_storeSet_of ho hd ?_ (by rw [n2, n1, sizeLine_eq]; omega)
  exact q _ ns _ _ u sb ⟨⟨_, store_at ho hd, ⟨hex.1, hex.2.1, hex.2.2⟩, rfl⟩, p2, r3, (p1.map _).nodup_iff.mpr once, fun m hm => W.over (mem m (p1.mem_iff.mp hm)) ho hd sb, by rw [p1.length_eq, r4]; exact e3, by rw [p1.length_eq]; exact low, by rw [r5]; exact ld⟩ p1
theorem put_in {α : Type} (l : List α) (n : Nat) (x : α) : (l.take n ++ x :: l.drop n).Perm (x :: l) := by
  have u : (l.take n ++ x :: l.drop n).Perm (x :: (l.take n ++ l.drop n)) := List.perm_middle
  rwa [List.take_append_drop] at u
def lastPart (c : Addr) (n : Nat) (es : Array (Int × Value)) (t : SetTable) : Sem Bool :=
  storeSet c es t >>= fun _ => if (!false && t.tooFull) = true then (setRelay c (SetTable.grown (n + 1)) >>= fun _ => pure true) else pure true
theorem MSet.add (S : MSet B s.heap c ms es ep t) (W : Mild B) {x : κ} {b : Addr} (hx : B.is s.heap x b) (hu : B.room A) (few : ms.length + 1 < 64) {Q : Bool → Shared → Prop}
    (q : ∀ z h' ns es' ep' t', Heap.SameBut c s.heap h' → MSet B h' c ns es' ep' t' → ns.length ≤ ms.length + 1 → (∀ m ∈ ns, m = (b, x) ∨ m ∈ ms) → (∀ y, y ∈ ns.map (·.2) ↔ y = x ∨ y ∈ ms.map (·.2)) → Q z { s with heap := h' }) :
    wpAny (model P w) A (setAddHashed c (.ref b) (B.hash x)) Q E s := by
  obtain ⟨o, ho, hex, hd⟩ := S.obj
  have fr := S.free
  have n1 := S.size
  unfold setAddHashed
  refine wpAny_holding ?_
  rw [show (100000 : Nat) = 99999 + 1 from rfl, setAddHashedIn_succ]
  refine wpAny_bind (wpAny_setState_of ho hd S.fits ?_)
  refine wp_if_neg (by simp [byScan, Value.scannable]) ?_
  refine wpAny_bind (S.search W hx hu (fun hm => ?_) fun n hm h1 h2 => ?_)
  · exact wpAny_pure (q false s.heap ms es ep t (.refl c s.heap) S (Nat.le_succ _) (fun _ z => .inr z) fun y => ⟨.inr, fun z => z.elim (fun e => by rw [e]; exact hm) id⟩)
  refine wpAny_bind (wpAny_setState_of ho hd S.fits ?_)
  obtain ⟨p1, p2, p3, p4, p5, p6, p7, p8, p9⟩ := S.tab.put h1 h2
  rw [List.length_map] at p2 p9
  dsimp only
  generalize hu1 : t.put (stn t (B.hash x) n).j = pu at p1 p3 p4 p5 p9 ⊢
  obtain ⟨t1, j⟩ := pu
  dsimp only at p1 p3 p4 p5 p9 ⊢
  rw [← p1] at p2 p3
  have ent : (SetTable.insertAt es j (B.hash x, Value.ref b)).toList = (ms.take j ++ (b, x) :: ms.drop j).map (mrow B) := by
    rw [SetTable.toList_insertAt, S.ent, List.map_append, List.map_cons, List.map_take, List.map_drop]
    rfl
  have pm := put_in ms j (b, x)
  have eh : (ms.take j ++ (b, x) :: ms.drop j).map (fun m => B.hash m.2) = (ms.map fun m => B.hash m.2).take j ++ B.hash x :: (ms.map fun m => B.hash m.2).drop j := by
    rw [List.map_append, List.map_cons, List.map_take, List.map_drop]
  rw [← eh] at p3
  generalize SetTable.insertAt es j (B.hash x, Value.ref b) = es1 at ent ⊢
  generalize ms.take j ++ (b, x) :: ms.drop j = ms1 at ent pm p3
  have len1 : ms1.length = ms.length + 1 := pm.length_eq
  have n2 := ent_size ent
  have keys1 : ∀ {ns : List (Addr × κ)}, ns.Perm ms1 → ∀ y, y ∈ ns.map (·.2) ↔ y = x ∨ y ∈ ms.map (·.2) := fun pn y => by
    rw [((pn.trans pm).map (·.2)).mem_iff, List.map_cons, List.mem_cons]
  have once1 : (ms1.map (·.2)).Nodup := (pm.map (·.2)).nodup_iff.mpr (List.nodup_cons.mpr ⟨hm, S.once⟩)
  have rest : ∀ t2 : SetTable, t2.place = t1.place → t2.mask = t1.mask → t2.dummies = t1.dummies → t2.led = t1.led → t2.tooFull = t1.tooFull → t2.fill = t1.fill → L2.TabOk t2 (ms1.map fun m => B.hash m.2) →
      wpAny (model P w) A (lastPart c es.size es1 t2) Q E s := by
    intro t2 y1 y2 y3 yl y4 y5 T
    have ld2 : w.params.followText "set-order" = true ∨ t2.led = true := by rw [yl, p5]; exact S.led
    refine wpAny_bind (wpAny_storeSet_of ho hd ?_ (by rw [n2, len1, sizeLine_eq]; omega))
    have sb : Heap.SameBut c s.heap (s.heap.update c (Obj.putSet es1 t2)) := Heap.SameBut.update ..
    have ho1 := store_at (es' := es1) (t' := t2) ho hd
    generalize s.heap.update c (Obj.putSet es1 t2) = h1 at sb ho1 ⊢
    have mem1 : ∀ m ∈ ms1, B.is h1 m.2 m.1 := fun m hm1 => by
      rcases List.mem_cons.mp (pm.mem_iff.mp hm1) with e | e
      · rw [e]; exact W.over hx ho hd sb
      · exact W.over (S.mem m e) ho hd sb
    have fl : t2.tooFull = decide ((ms.length + 1) * 5 ≥ t.mask * 3) := by
      unfold SetTable.tooFull
      rw [y5, p9, y2, p4]
    by_cases full : (ms.length + 1) * 5 ≥ t.mask * 3
    · have big : ∀ M, SetTable.sizeAbove (SetTable.grown (es.size + 1)) - 1 = M → MaskOk M → SetTable.sizeAbove (SetTable.grown (es.size + 1)) ≤ 128 → (ms.length + 1) * 5 < M * 3 →
          wpAny (model P w) A (setRelay c (SetTable.grown (es.size + 1))) (fun _ s' => wpAny (model P w) A (pure true) Q E s') E { s with heap := h1 } := fun M b1 b2 b3 b4 =>
        W.relay (s := { s with heap := h1 }) ho1 ⟨hex.1, hex.2.1, hex.2.2⟩ rfl ent (by rw [n2, T.sz, List.length_map]) T.dm
          (by rw [n2, len1, y2, p4]; rcases S.tab.mok with e | e | e <;> rw [e] at fr ⊢ <;> omega) once1 mem1 (by omega) ld2 b1 b2 b3 (by rw [len1]; exact b4)
          fun h2 ns es2 ep2 t3 sb2 S2 pn => wpAny_pure (q true h2 ns es2 ep2 t3 (sb.trans sb2) S2 (by rw [pn.length_eq, len1]; exact Nat.le_refl _) (fun m z => List.mem_cons.mp (pm.mem_iff.mp (pn.mem_iff.mp z))) (keys1 pn))
      have two : (t.mask = 7 ∧ es.size = 4) ∨ (t.mask = 31 ∧ es.size = 18) := by
        rcases S.tab.mok with e | e | e <;> rw [e] at fr full <;> omega
      rw [if_pos (by rw [fl]; simpa using full)]
      refine wpAny_bind ?_
      rcases two with ⟨_, e⟩ | ⟨_, e⟩
      · exact big 31 (by rw [e]; exact congrArg (· - 1) size_20) (.inr (.inl rfl)) (by rw [e, show (4 + 1 : Nat) = 5 from rfl, size_20]; decide) (by omega)
      · exact big 127 (by rw [e]; exact congrArg (· - 1) size_76) (.inr (.inr rfl)) (by rw [e, show (18 + 1 : Nat) = 19 from rfl, size_76]; decide) (by omega)
    · rw [if_neg (by rw [fl]; simpa using full)]
      refine wpAny_pure (q true h1 ms1 es1 _ t2 sb ⟨⟨_, ho1, ⟨hex.1, hex.2.1, hex.2.2⟩, rfl⟩, ent, T, once1, mem1, by rw [len1, y2, p4]; omega, by omega, ld2⟩ (by omega) (fun m z => List.mem_cons.mp (pm.mem_iff.mp z)) (keys1 (.refl _)))
  have t1ok := rest t1 rfl rfl rfl rfl rfl rfl p3
  have t2ok := rest { t1 with plain := false } rfl rfl rfl rfl rfl rfl ⟨p3.ris, p3.dm, p3.sz, p3.mok, p3.bd, p3.reach⟩
  have both : ∀ z : Bool, wpAny (model P w) A (lastPart c es.size es1 (if z = true then t1 else { t1 with plain := false })) Q E s := fun z => by
    cases z
    · exact t2ok
    · exact t1ok
  by_cases pl : t1.plain = true
  · exact wp_if_pos pl (wpAny_bind (W.byv hx fun z => both z))
  · exact wp_if_neg pl (wpAny_bind (wpAny_pure (both true)))
theorem MSet.moves (S : MSet B h c ms es ep t) {h' : Heap} (k1 : ∀ o, h.get? c = some o → h'.get? c = some o) (far : ∀ m ∈ ms, B.is h' m.2 m.1) : MSet B h' c ms es ep t := by
  obtain ⟨o, e, r⟩ := S.obj
  exact ⟨⟨o, k1 o e, r⟩, S.ent, S.tab, S.once, far, S.free, S.low, S.led⟩
theorem MSet.none {h : Heap} {a : Addr} (ho : h.get? a = some { cls := .type "set", dict := none, data := .set #[] 0 (.fresh 0 0 (!w.params.followText "set-order")) }) : MSet B h a [] #[] 0 (.fresh 0 0 (!w.params.followText "set-order")) where
  obj := ⟨_, ho, ⟨rfl, rfl, rfl⟩, rfl⟩
  ent := rfl
  tab := ⟨List.Pairwise.nil, rfl, rfl, .inl rfl, (fun x hx => nomatch hx), fun i _ _ hi => (nomatch hi)⟩
  once := List.nodup_nil
  mem := fun _ hm => nomatch hm
  free := by show 0 * 5 < 7 * 3; decide
  low := by show 0 < 64; decide
  led := by
    show _ ∨ (!w.params.followText "set-order") = true
    cases w.params.followText "set-order"
    · exact .inr rfl
    · exact .inl rfl
def Held (B : HeapKind P w κ) (h : Heap) (S : Addr) (ks : List (Addr × κ)) (i : Nat) : Prop :=
  ∃ ns es ep t, MSet B h S ns es ep t ∧ ns.length ≤ i ∧ (∀ m ∈ ns, m ∈ ks) ∧ ∀ y, y ∈ ns.map (·.2) ↔ y ∈ (ks.take i).map (·.2)
theorem Held.next {ks : List (Addr × κ)} {i : Nat} {m : Addr × κ} (em : ks[i]? = some m) {ns ns' : List (Addr × κ)} (e : ∀ y, y ∈ ns.map (·.2) ↔ y ∈ (ks.take i).map (·.2))
    (e' : ∀ y, y ∈ ns'.map (·.2) ↔ y = m.2 ∨ y ∈ ns.map (·.2)) (y : κ) : y ∈ ns'.map (·.2) ↔ y ∈ (ks.take (i + 1)).map (·.2) := by
  rw [e', e, List.take_succ, em, List.map_append, List.mem_append]
  show _ ↔ _ ∨ y ∈ [m.2]
  rw [List.mem_singleton]
  exact or_comm
theorem fill_keys (W : Mild B) {I : Addr} {fp wr : List Addr} {G : Array GenState → Array GenState → Prop} {n : Nat} {Pv : Nat → Value → Prop} {St : Nat → Shared → Prop} {R : Result → Shared → Prop}
    (wk : WalksS P w A.in1 I fp wr G n Pv St) (S : Addr) (out : S ∉ fp) (ks : List (Addr × κ)) (hn : n = ks.length) (few : ks.length < 64) (hv : ∀ i v, Pv i v → ∃ m, ks[i]? = some m ∧ v = .ref m.1)
    (h0 : Heap) (mem : ∀ m ∈ ks, B.is h0 m.2 m.1) (S0 : h0.get? S = none) (wr0 : ∀ b ∈ wr, h0.get? b = none) (hu : B.room A.in1) : ∀ (k i : Nat) (s : Shared), n = i + k → St i s →
      (∀ b o, h0.get? b = some o → s.heap.get? b = some o) → Held B s.heap S ks i →
      (∀ s', Moved (S :: wr) G s s' → Held B s'.heap S ks n → (∀ b o, h0.get? b = some o → s'.heap.get? b = some o) → R (.ok (.ret .none)) s') →
      codeAny (model P w) A (.builtin "set.update.loop" ⟨[.ref S, .ref I], []⟩) R s := by
  have outw : S ∉ wr := fun z => out (wk.sub _ z)
  have put : ∀ b ∈ wr, b ∈ S :: wr := fun b z => .tail _ z
  have kept : ∀ {s s' : Shared}, Moved wr G s s' → (∀ b o, h0.get? b = some o → s.heap.get? b = some o) → ∀ b o, h0.get? b = some o → s'.heap.get? b = some o := fun mv f b o e =>
    mv.heap b o (fun z => by rw [wr0 b z] at e; cases e) (f b o e)
  intro k
  induction k with
  | zero =>
    intro i s ei hst f ⟨ns, es, ep, t, hS, len, sub, e⟩ hR
    obtain rfl : n = i := ei
    refine codeAny_builtin PyProof.Rows.F.entry_set_update_loop ?_
    rw [Around.under_plainId PyProof.Rows.F.plain_set_update_loop _]
    show wpAny _ A.in1 (pyNext (.ref I) >>= _) _ _ s
    refine wpAny_bind (wk.done s _ _ hst fun s' mv => ?_)
    have f' := kept mv f
    exact wpAny_pure (hR s' (mv.mono put) ⟨ns, es, ep, t, hS.moves (fun o q => mv.heap S o outw q) (fun m z => W.st.stays (fun b o _ _ q _ => f' b o q) (mem m (sub m z))), len, sub, e⟩ f')
  | succ k ih =>
    intro i s ei hst f ⟨ns, es, ep, t, hS, len, sub, e⟩ hR
    have lt : i < n := by omega
    refine codeAny_builtin PyProof.Rows.F.entry_set_update_loop ?_
    rw [Around.under_plainId PyProof.Rows.F.plain_set_update_loop _]
    show wpAny _ A.in1 (pyNext (.ref I) >>= _) _ _ s
    refine wpAny_bind (wk.item i s _ _ lt hst fun v s' hp hst' mv => ?_)
    obtain ⟨m, em, rfl⟩ := hv i v hp
    have f' := kept mv f
    have hS' := hS.moves (fun o q => mv.heap S o outw q) fun m z => W.st.stays (fun b o _ _ q _ => f' b o q) (mem m (sub m z))
    have hm : B.is s'.heap m.2 m.1 := W.st.stays (fun b o _ _ q _ => f' b o q) (mem m (List.mem_of_getElem? em))
    show wpAny _ A.in1 (holding [Value.ref m.1] (setAdd S (.ref m.1)) >>= _) _ _ s'
    refine wpAny_bind (wpAny_holding ?_)
    unfold setAdd
    refine wpAny_holding (wpAny_bind (B.pyHash hu hm ?_))
    refine MSet.add (s := { s' with toks := s'.toks + B.draws m.2 }) hS' W hm hu (by omega) fun z h' ns' es' ep' t' sb hS2 len2 sub2 e2 => ?_
    have f2 : ∀ b o, h0.get? b = some o → h'.get? b = some o := fun b o q => (sb.2 b fun z => by rw [z, S0] at q; cases q).trans (f' b o q)
    refine wpAny_pure ⟨plainId_quiet PyProof.Rows.F.plain_set_update_loop _, ih (i + 1) _ (by omega) (wk.frame _ s' _ _ hst' (Nat.le_add_right _ _) fun b hb o q => ?_) f2 ⟨ns', es', ep', t', hS2, by omega, fun m' z => (sub2 m' z).elim (fun q => q ▸ List.mem_of_getElem? em) (sub m'), Held.next em e e2⟩ fun s2 mv2 hH f3 => ?_⟩
    · exact (sb.2 b fun z => out (z ▸ hb)).trans q
    · refine hR s2 (Moved.trans wk.gtrans ((mv.mono put).then_heap (Nat.le_add_right _ _) fun b o hb q => ?_) mv2) hH f3
      exact (sb.2 b fun z => hb (z ▸ List.mem_cons_self)).trans q
set_option maxHeartbeats 3200000 in
theorem set_of_keys (W : Mild B) {l : Addr} {items : Array Value} (ks : List (Addr × κ)) {Q : Value → Shared → Prop}
    (hh : A.handled = none) (hl : s.heap.IsList l items) (hit : items.toList = ks.map fun m => Value.ref m.1) (mem : ∀ m ∈ ks, B.is s.heap m.2 m.1) (few : ks.length < 64) (hu : B.room A.in1.in1.in1)
    (h : ∀ (h' : Heap) (tk : Nat), Held B h' s.heap.objs.size ks ks.length → (∀ b o, s.heap.get? b = some o → h'.get? b = some o) → Q (.ref s.heap.objs.size) { s with heap := h', toks := tk }) :
    wpAny (model P w) A (call (.type "set") [.ref l]) Q E s := by
  have hisz : items.size = ks.length := by rw [← Array.length_toList, hit, List.length_map]
  obtain ⟨c, tl, hmro⟩ := PySem.F.called_set.mro
  have hmade := PySem.F.called_set.made
  have hsub := PySem.F.called_set.sub
  refine wpAny_call (codeAny_of_tree ?_)
  show wpAny _ _ (callAny (.type "set") _) _ _ _
  refine wpAny_pure ⟨Code.quiet_builtin _ (by decide +kernel), codeAny_builtin PySem.F.entry_type_call ?_⟩
  rw [Around.under_plain (weight_type_call_type "set" [.ref l] []) rfl]
  have h1 := PySem.F.called_set.notType
  have h2 := PySem.F.called_set.canCreate
  have hct := PySem.F.typeCall_set_1 (.ref l)
  repeat (any_goals (first | assumption | wp_step))
  refine codeAny_mono (new_led (.ref l) (E := E) (Q₁ := fun obj s₁ => obj = .ref s.heap.objs.size ∧ s₁ = { s with heap := s.heap.push { cls := .type "set", dict := none, data := .set #[] 0 (.fresh 0 0 (!w.params.followText "set-order")) } }) ⟨rfl, rfl⟩) fun r s₁ hr => ?_
  cases r with
  | error e => exact hr
  | ok fl =>
    cases fl with
    | ret obj =>
      obtain ⟨rfl, rfl⟩ := hr
      have hS : (s.heap.push { cls := .type "set", dict := none, data := .set #[] 0 (.fresh 0 0 (!w.params.followText "set-order")) }).get? s.heap.objs.size = some { cls := .type "set", dict := none, data := .set #[] 0 (.fresh 0 0 (!w.params.followText "set-order")) } := Heap.get?_push_size _ rfl
      have hT : Shared.TypeIs { s with heap := s.heap.push { cls := .type "set", dict := none, data := .set #[] 0 (.fresh 0 0 (!w.params.followText "set-order")) } } (.ref s.heap.objs.size) "set" := ⟨_, hS, rfl⟩
      have hli := PySem.F.called_set.init.lookup
      have hbi := PySem.F.called_set.init.bind (.ref s.heap.objs.size)
      repeat (any_goals (first | assumption | wp_step))
      refine codeAny_mono (codeAny_call_builtin (R := wants (fun r s₂ => r = .none ∧ ∃ h' tk, s₂ = { s with heap := h', toks := tk } ∧ Held B h' s.heap.objs.size ks ks.length ∧
          (∀ b o, s.heap.get? b = some o → h'.get? b = some o)) E) PySem.F.called_set.init.plain PySem.F.entry_set_init (check_set_init_1 hT ?_)) fun r₂ s₂ hr₂ => ?_
      · obtain ⟨ol, hol, hcl, nl, hdl⟩ := hl
        obtain ⟨ocls, odict, odata, oslots⟩ := ol
        simp only at hcl hdl
        subst hcl; subst hdl
        have hol' : (s.heap.push { cls := .type "set", dict := none, data := .set #[] 0 (.fresh 0 0 (!w.params.followText "set-order")) }).get? l = some { cls := .type "list", dict := odict, data := .seq items nl, slots := oslots } := Heap.get?_push_of_some _ hol
        have hsls := PySem.F.sub_list_set
        have hslf := PySem.F.sub_list_frozenset
        have hne : (Value.type "list" == Value.type "dict") = false := by decide
        have hl1 : (s.heap.push { cls := .type "set", dict := none, data := .set #[] 0 (.fresh 0 0 (!w.params.followText "set-order")) }).IsList l items := ⟨_, hol', rfl, nl, rfl⟩
        unfold Builtin.«set.__init__» noKeywords Builtin.Frozenset.updateFrom
        generalize hPI : pyIter = PI
        wp_walk
        subst hPI
        refine wpAny_pyIter_list hl1 ?_
        refine wpAny_bind (wpAny_runValue ?_)
        have hlS : l < s.heap.objs.size := Heap.lt_size hol
        have hh3 : A.in1.in1.in1.handled = none := by simp [hh]
        have hneI : l ≠ (s.heap.push { cls := .type "set", dict := none, data := .set #[] 0 (.fresh 0 0 (!w.params.followText "set-order")) }).objs.size := by
          rw [Heap.size_push]; exact Nat.ne_of_lt (Nat.lt_succ_of_lt hlS)
        have hSf : s.heap.objs.size ∉ [(s.heap.push { cls := .type "set", dict := none, data := .set #[] 0 (.fresh 0 0 (!w.params.followText "set-order")) }).objs.size, l] := by
          rw [Heap.size_push]; simp only [List.mem_cons, List.mem_singleton, List.not_mem_nil, or_false, not_or]
          exact ⟨Nat.ne_of_lt (Nat.lt_succ_self _), Nat.ne_of_gt hlS⟩
        have hval : ∀ (i : Nat) (v : Value), items[i]? = some v → ∃ m, ks[i]? = some m ∧ v = .ref m.1 := fun i v hv => by
          rw [← Array.getElem?_toList, hit, List.getElem?_map] at hv
          obtain ⟨m, e, rfl⟩ := Option.map_eq_some_iff.mp hv
          exact ⟨m, e, rfl⟩
        have fresh : ∀ b, s.heap.objs.size ≤ b → s.heap.get? b = none := fun b hb => by
          cases e : s.heap.get? b with
          | none => rfl
          | some o => exact absurd (Heap.lt_size e) (Nat.not_lt.mpr hb)
        refine fill_keys W ((Walks.list hh3 _ l hneI items).toS) s.heap.objs.size hSf ks hisz few hval s.heap mem (fresh _ (Nat.le_refl _))
          (fun b hb => fresh b (by rw [List.mem_singleton.mp hb, Heap.size_push]; exact Nat.le_succ _)) hu items.size 0 _ (by omega)
          ⟨⟨_, Heap.get?_push_size _ rfl, rfl, rfl⟩, (hl1.push _)⟩ (fun b o e => Heap.get?_push_of_some _ (Heap.get?_push_of_some _ e)) ?hS0 ?hR
        case hS0 =>
          have hget : ((s.heap.push { cls := .type "set", dict := none, data := .set #[] 0 (.fresh 0 0 (!w.params.followText "set-order")) }).push { cls := .type "list_iterator", data := .fields #[.ref l, .int 0 0] }).get? s.heap.objs.size
              = some { cls := .type "set", dict := none, data := .set #[] 0 (.fresh 0 0 (!w.params.followText "set-order")) } := Heap.get?_push_of_some _ hS
          exact ⟨[], #[], 0, _, MSet.none hget, Nat.le_refl 0, (fun _ z => nomatch z), fun y => Iff.rfl⟩
        case hR =>
          intro s' hm hS' hk'
          obtain ⟨h', g2, d', tk', os'⟩ := s'
          have eg : g2 = s.gens := hm.gens
          have ed : d' = s.drawn := hm.drawn
          have eo : os' = s.os := hm.os
          subst eg; subst ed; subst eo
          show wpAny _ _ _ _ _ _
          refine wpAny_pure ?_
          show wpAny _ _ (ret Value.none) _ _ _
          rw [hisz] at hS'
          exact wpAny_pure ⟨rfl, h', tk', rfl, hS', hk'⟩
      · cases r₂ with
        | error e => exact hr₂
        | ok fl₂ =>
          cases fl₂ with
          | ret r =>
            obtain ⟨rfl, h', tk, rfl, hS', hk'⟩ := hr₂
            repeat (any_goals (first | assumption | wp_step))
            exact h _ _ hS' hk'
          | _ => exact hr₂.elim
    | _ => exact hr.elim
end
section
variable {P : Program} {w : World}
def NoCls (P : Program) (w : World) (s : Shared) (n : Nat) (v : Value) : Prop := ∀ (A : Around) (E : Value → Shared → Prop) (Q : Bool → Shared → Prop), Q false s → wpAny (model P w) A (ofAClassStatement n v) Q E s
def SomeBy (P : Program) (w : World) (s : Shared) (n : Nat) (v : Value) : Prop := ∀ (A : Around) (E : Value → Shared → Prop) (Q : Bool → Shared → Prop), (∀ z, Q z s) → wpAny (model P w) A (hashByValue n v) Q E s
theorem noCls_tup {s : Shared} {n m : Nat} {a : Addr} {o : Obj} {vs : Array Value} (ho : s.heap.get? a = some o) (hc : o.cls = .type "tuple") (hd : o.data = .seq vs m) (al : ∀ v ∈ vs.toList, NoCls P w s n v) : NoCls P w s (n + 1) (.ref a) := by
  intro A E Q q
  have T : s.TypeIs (.ref a) "tuple" := ⟨o, ho, hc⟩
  unfold ofAClassStatement
  refine wpAny_bind (wpAny_typeOf T ?_)
  refine wp_if_pos (by decide) (wpAny_bind (wpAny_pure (wp_if_neg (by decide) ?_)))
  refine wpAny_bind (wpAny_seqItems ho hd ?_)
  dsimp only
  refine wpAny_bind ?_
  rw [← Array.forIn_toList]
  refine wpAny_forIn_list _ (fun left r s' => s' = s ∧ r.1 = none ∧ ∀ v ∈ left, NoCls P w s n v) _ ?step ?fin _ _ ⟨rfl, rfl, al⟩
  case step =>
    rintro v left r s' ⟨rfl, er, al⟩
    refine wpAny_bind (al v (.head _) A E _ ?_)
    exact wpAny_pure ⟨rfl, rfl, fun u hu => al u (.tail _ hu)⟩
  case fin =>
    rintro ⟨r1, r2⟩ s' ⟨rfl, er, _⟩
    cases er
    exact wpAny_pure q
theorem someBy_tup {s : Shared} {n m : Nat} {a : Addr} {o : Obj} {vs : Array Value} (ho : s.heap.get? a = some o) (hc : o.cls = .type "tuple") (hd : o.data = .seq vs m) (al : ∀ v ∈ vs.toList, SomeBy P w s n v) : SomeBy P w s (n + 1) (.ref a) := by
  intro A E Q q
  have T : s.TypeIs (.ref a) "tuple" := ⟨o, ho, hc⟩
  unfold hashByValue
  refine wpAny_bind (wpAny_specialOf T PySem.F.slot_tuple_hash.lookup ?_)
  refine wpAny_bind (wpAny_seqItems ho hd ?_)
  refine wpAny_bind ?_
  show wpAny _ _ (forIn vs _ _) _ _ s
  rw [← Array.forIn_toList]
  refine wpAny_forIn_list _ (fun left r s' => s' = s ∧ ∀ v ∈ left, SomeBy P w s n v) _ ?step ?fin _ _ ⟨rfl, al⟩
  case step =>
    rintro v left r s' ⟨rfl, al⟩
    refine wpAny_bind (al v (.head _) A E _ fun z => ?_)
    cases z
    · exact wpAny_pure (by first | exact ⟨rfl, q false⟩ | (show wpAny _ _ _ _ _ _; exact wpAny_pure (q false)) | (constructor; rfl; exact wpAny_pure (q false)))
    · exact wpAny_pure ⟨rfl, fun u hu => al u (.tail _ hu)⟩
  case fin =>
    rintro ⟨r1, r2⟩ s' ⟨rfl, _⟩
    cases r1
    · exact wpAny_pure (q true)
    · exact wpAny_pure (q _)
mutual
theorem noCls_key : ∀ (k : NestedKey) (v : Value) (n : Nat) (s : Shared), NestedIs s.heap k v → k.depth ≤ n → NoCls P w s n v
  | .none, _, n, s, x, _ => by cases x; intro A E Q q; cases n <;> exact wpAny_pure q
  | .num i, _, n, s, x, _ => by cases x <;> (intro A E Q q; cases n <;> exact wpAny_pure q)
  | .text y, _, n, s, x, _ => by cases x; intro A E Q q; cases n <;> exact wpAny_pure q
  | .tup ks, _, n, s, x, hn => by
    simp only [NestedKey.depth] at hn
    obtain ⟨n, rfl⟩ : ∃ m, n = m + 1 := ⟨n - 1, by omega⟩
    cases x with
    | tup a b c d => exact noCls_tup a b c (noCls_keys ks _ n s d (by omega))
theorem noCls_keys : ∀ (ks : List NestedKey) (vs : List Value) (n : Nat) (s : Shared), NestedAll s.heap ks vs → NestedKey.depthAll ks ≤ n → ∀ v ∈ vs, NoCls P w s n v
  | [], _, n, s, x, _, v, hv => by cases x; cases hv
  | k :: ks, _, n, s, x, hn, v, hv => by
    simp only [NestedKey.depthAll] at hn
    cases x with
    | cons a b =>
      cases hv with
      | head => exact noCls_key k _ n s a (by omega)
      | tail _ hv => exact noCls_keys ks _ n s b (by omega) v hv
end
mutual
theorem someBy_key : ∀ (k : NestedKey) (v : Value) (n : Nat) (s : Shared), NestedIs s.heap k v → SomeBy P w s n v
  | .none, _, n, s, x => by cases x; intro A E Q q; cases n <;> exact wpAny_pure (q true)
  | .num i, _, n, s, x => by cases x <;> (intro A E Q q; cases n <;> exact wpAny_pure (q true))
  | .text y, _, n, s, x => by cases x; intro A E Q q; cases n <;> exact wpAny_pure (q false)
  | .tup ks, _, 0, s, x => by cases x; intro A E Q q; exact wpAny_pure (q false)
  | .tup ks, _, n + 1, s, x => by
    cases x with
    | tup a b c d => exact someBy_tup a b c (someBy_keys ks _ n s d)
theorem someBy_keys : ∀ (ks : List NestedKey) (vs : List Value) (n : Nat) (s : Shared), NestedAll s.heap ks vs → ∀ v ∈ vs, SomeBy P w s n v
  | [], _, n, s, x, v, hv => by cases x; cases hv
  | k :: ks, _, n, s, x, v, hv => by
    cases x with
    | cons a b =>
      cases hv with
      | head => exact someBy_key k _ n s a
      | tail _ hv => exact someBy_keys ks _ n s b v hv
end
theorem nested_mild : Mild (nestedKind P w) where
  st := nestedKind_stays
  cls := fun {A E s x b Q} h q => noCls_key x _ 8 s h.1 h.2 A E Q q
  byv := fun {A E s x b Q} h q => someBy_key x _ 8 s h.1 A E Q q
end
section
variable {X : Cx} {Z : Zt} {Wx : Wish} {G : Pg} {C C1 : Nat → List Wv → Mem → Out Wv} {a : Expr} {ea : Ex} {pos p p2 p3 : Pos}
variable {pins : List (Addr × Obj)} {σ : L2.St} {H H1 : Hp} {s : Shared} {ι ι1 : List Addr} {M : Mem} {sw : Sw}
theorem keys_at (I : L2.Inv X pins σ H s) (hK : X.K = Z.K) : ∀ {ws : List Wv} {vs : List V} {us : List Value}, WsR Z ι H ws vs → Vals vs us → ws.all keyT = true →
    ∃ ks : List (Addr × NestedKey), us = ks.map (fun m => Value.ref m.1) ∧ ks.map (·.2) = ws.map toNK ∧ ∀ m ∈ ks, (nestedKind X.prog X.w).is s.heap m.2 m.1
  | _, _, _, .nil, .nil, _ => ⟨[], rfl, rfl, fun _ h => nomatch h⟩
  | w :: ws, _, _, .cons r1 r2, .cons v1 v2, h => by
    rw [List.all_cons, Bool.and_eq_true] at h
    obtain ⟨b, rfl⟩ := keyT_ref h.1 r1
    obtain ⟨ks, e1, e2, e3⟩ := keys_at I hK r2 v2 h.2
    cases v1
    refine ⟨(b, toNK w) :: ks, by rw [e1]; rfl, by rw [List.map_cons, e2]; rfl, fun m hm => ?_⟩
    rcases List.mem_cons.mp hm with e | e
    · rw [e]; exact keyT_is I hK h.1 r1
    · exact e3 m e
theorem onc_fold : ∀ (ws acc : List Wv), acc.Nodup → (ws.foldl (fun acc x => if x ∈ acc then acc else acc ++ [x]) acc).Nodup ∧ ∀ y, y ∈ ws.foldl (fun acc x => if x ∈ acc then acc else acc ++ [x]) acc ↔ y ∈ acc ∨ y ∈ ws
  | [], acc, h => ⟨h, fun y => by simp⟩
  | w :: ws, acc, h => by
    rw [List.foldl_cons]
    by_cases c : w ∈ acc
    · rw [if_pos c]
      obtain ⟨a1, a2⟩ := onc_fold ws acc h
      refine ⟨a1, fun y => ?_⟩
      rw [a2, List.mem_cons]
      exact ⟨fun z => z.elim .inl fun z => .inr (.inr z), fun z => z.elim .inl fun z => z.elim (fun e => .inl (e ▸ c)) .inr⟩
    · rw [if_neg c]
      obtain ⟨a1, a2⟩ := onc_fold ws (acc ++ [w]) (List.nodup_append.mpr ⟨h, by simp, fun x hx y hy e => c (by rw [← List.mem_singleton.mp hy, ← e]; exact hx)⟩)
      refine ⟨a1, fun y => ?_⟩
      rw [a2, List.mem_append, List.mem_singleton, List.mem_cons, or_assoc]
theorem onc_once (ws : List Wv) : (oncW ws).Nodup ∧ ∀ y, y ∈ oncW ws ↔ y ∈ ws := by
  obtain ⟨a1, a2⟩ := onc_fold ws [] List.nodup_nil
  exact ⟨a1, fun y => (a2 y).trans (by simp)⟩
theorem onc_count {ws : List Wv} (h : ws.all keyT = true) {ks : List NestedKey} (nd : ks.Nodup) (e : ∀ y, y ∈ ks ↔ y ∈ ws.map toNK) : ks.length = (oncW ws).length := by
  obtain ⟨a1, a2⟩ := onc_once ws
  have nd2 : ((oncW ws).map toNK).Nodup := by
    unfold List.Nodup at a1 ⊢
    rw [List.pairwise_map]
    refine a1.imp_of_mem fun {x y} hx hy ne z => ne ?_
    have kx := List.all_eq_true.mp h x ((a2 x).mp hx)
    have ky := List.all_eq_true.mp h y ((a2 y).mp hy)
    cases x with
    | tup xs =>
      cases y with
      | tup ys => exact toNK_inj 8 _ _ kx ky z
      | _ => cases ky
    | _ => cases kx
  have pm : ks.Perm ((oncW ws).map toNK) := (List.perm_ext_iff_of_nodup nd nd2).mpr fun y => by
    rw [e, List.mem_map, List.mem_map]
    exact ⟨fun ⟨w, h1, h2⟩ => ⟨w, (a2 w).mpr h1, h2⟩, fun ⟨w, h1, h2⟩ => ⟨w, (a2 w).mp h1, h2⟩⟩
  rw [pm.length_eq, List.length_map]
def tLenKeys (Z : Zt) (X : Cx) (ta : TE) : TE := fun σ H Q => ta σ H fun x H1 => ∃ (ι : List Addr) (l : Addr) (ws : List Wv) (vs : List V), x = V.ref l ∧ SqL X.K H1 l vs ∧ WsR Z ι H1 ws vs ∧ ws.all keyT = true ∧ ws.length < 64 ∧ Q (.int (oncW ws).length) H1
theorem pe_lenKeys {ta : TE} (k : XOk X Z) (hg : Gl X "len") (hm : X.mg "len" = none) (hg2 : Gl X "set") (hm2 : X.mg "set" = none) (ha : PE X a ta)
    (na : starEach [a] X.env = (false, eval a X.env) :: starEach [] X.env := by rfl) : PE X (.Call (.Name "len" p) [.Call (.Name "set" p2) [a] [] p3] [] pos) (tLenKeys Z X ta) := by
  refine ⟨fun pins s σ H Q I h => ?_⟩
  refine Call_ (ld_blt I hg hm PySem.boot_len ?_)
  refine PyProof.Rows.callWith_builtin1 (PyProof.Rows.args_cons ?_ rfl) rfl rfl
  refine Call_ (ld_blt I hg2 hm2 PyProof.Rows.boot_set ?_)
  refine PyProof.Rows.callWith_type1 (PyProof.Rows.args_cons (thn (ha.run pins s σ H _ I h) fun v s1 ⟨x, H1, I1, r1, q1⟩ => PyProof.Rows.args_nil ?_) na) na rfl
  obtain ⟨ι, l, ws, vs, rfl, hq, wr, kt, few, q1⟩ := q1
  cases r1
  obtain ⟨its, r, pl, hz⟩ := I1.list hq
  obtain ⟨ks, e1, e2, e3⟩ := keys_at I1 k.K wr r kt
  have len : ks.length = ws.length := by
    have u := congrArg List.length e2
    rwa [List.length_map, List.length_map] at u
  refine set_of_keys nested_mild ks (I1.ok.hd k.calm) pl.isList (by simpa using e1) e3 (by omega) (by have := k.un; show X.A.units + 1 + 1 + 1 + 8 < cLine; omega) fun h' tk hH hk => ?_
  obtain ⟨ns, es, ep, t, hS, len2, sub, e⟩ := hH
  rw [List.take_length, e2] at e
  have sz : es.size = (oncW ws).length := by rw [hS.size, ← onc_count kt hS.once e, List.length_map]
  have low := hS.low
  rw [← hS.size] at low
  obtain ⟨o, ho, hex, hd⟩ := hS.obj
  refine PyProof.Rows.args_nil ?_
  have I2 : Inv X pins σ H1 { s1 with heap := h', toks := tk } := I1.kept fun b o e => hk b o e
  refine call_len_set ho hex hd hS.fits (by omega) ⟨.int (oncW ws).length, H1, I2.tok _, ⟨_, by rw [sz]⟩, q1⟩
theorem e_lset (k : Bx X Z Wx G) (hm : X.mg "len" = none) (hm2 : X.mg "set" = none) (ha : PE X a (TEx Z Wx G C C1 ea)) (hg : gloB X.env "len" = true := by kernel_rfl) (hg2 : gloB X.env "set" = true := by kernel_rfl)
    (he : starEach [a] X.env = (false, eval a X.env) :: starEach [] X.env := by rfl) : PE X (.Call (.Name "len" p) [.Call (.Name "set" p2) [a] [] p3] [] pos) (TEx Z Wx G C C1 (.bi .lset (.cons ea .nil))) := by
  obtain ⟨h1, _, _⟩ := gloB_ok hg
  obtain ⟨g1, _, _⟩ := gloB_ok hg2
  refine (pe_lenKeys k.toXOk h1 hm g1 hm2 ha he).weak fun σ H Q h => ?_
  obtain ⟨ι, sw, M, sr, R, h⟩ := h
  have ev : evE G C C1 (.bi .lset (.cons ea .nil)) = fun sw M => (evE G C C1 ea sw M).bind fun w M => biW G .lset [w] M := by
    funext σ M
    simp only [evE, evL]
    cases evE G C C1 ea σ M <;> rfl
  rw [ev] at h
  refine tE.seqE sr R h fun w M1 v H1 ι1 e1 R1 q1 s1 h1 => ?_
  have h1' := (Prim.ofO.bind fun _ _ => Prim.ok : Prim (biW G .lset [w] M1)).out h1
  unfold biW at h1'
  cases ez : lstOf w M1 with
  | none => rw [ez] at h1'; cases h1'
  | some ws =>
    rw [ez] at h1'
    by_cases c : (decide (ws.length < 64) && ws.all keyT) = true
    · simp only [Option.bind_some, if_pos c] at h1'
      rw [Bool.and_eq_true, decide_eq_true_eq] at c
      obtain ⟨ad, vs, rfl, hl, wr⟩ := lstOf_at R1 q1 ez
      exact ⟨ι1, ad, ws, vs, rfl, SqL.of hl, wr, c.2, c.1, h1' _ H1 ι1 (.refl _ _) R1 (.int _)⟩
    · simp only [Option.bind_some, if_neg c] at h1'
      cases h1'
end
end MP
end
section
set_option Elab.async false
set_option linter.all false
set_option maxRecDepth 100000
namespace MP
open PySem PySem.Spec PyProof.Rows L2
section
variable {X : Cx} {Z : Zt} {Wx : Wish} {G : Pg} {C C1 : Nat → List Wv → Mem → Out Wv} {a b c e : Expr} {es : List Expr} {ea eb ec ee : Ex} {el : El} {pos p p2 p3 apos : Pos}
variable {pins : List (Addr × Obj)} {σ : L2.St} {H H1 H2 : Hp} {s : Shared} {ι ι1 ι2 : List Addr} {M : Mem} {sw : Sw}
abbrev pk (ks : List Str) (xs : List V) : List (Key × V) := (ks.map Sum.inr).zip xs
structure DPs (X : Cx) (Z : Zt) (Wx : Wish) (G : Pg) (C C1 : Nat → List Wv → Mem → Out Wv) (pos : Pos) (keys : List (Option Expr)) (values : List Expr) (ks : List Str) (el : El) : Prop where
  run : ∀ (pins : List (Addr × Obj)) (s : Shared) (σ : L2.St) (H : Hp) (Q : List V → Hp → Prop), L2.Inv X pins σ H s → TAx Z Wx G C C1 el σ H Q →
    wpAny (model X.prog X.w) X.A (evalPairs (pairTrees keys values X.env pos)) (fun vs s' => ∃ xs H', L2.Inv X pins σ H' s' ∧ VV ((pk ks xs).map fun kv => (kV kv.1, kv.2)) vs ∧ ks.length = xs.length ∧ Q xs H') X.xe s
end
structure Try4 (K : PySem.W.Frag) (mg : Str → Option Value) (Z : Zt) (x x1 x2 x3 x4 : Str) (c1 c2 c3 c4 : Nat) : Prop where
  B : ∃ B, mg x = some (.ref B) ∧ ∀ c ∈ [c1, c2, c3, c4], PySem.W.exmOne K (.ref (Z.exc c)) (.ref B) = some true
  cl : ∀ c ∈ [c1, c2, c3, c4], ExcC K (Z.exc c)
  m1 : mg x1 = some (.ref (Z.exc c1))
  m2 : mg x2 = some (.ref (Z.exc c2))
  m3 : mg x3 = some (.ref (Z.exc c3))
  m4 : mg x4 = some (.ref (Z.exc c4))
  kit : ∀ c ∈ [c1, c2, c3, c4], ∀ d ∈ [c1, c2, c3, c4], PySem.W.kitOne K (.ref (Z.exc c)) (.ref (Z.exc d)) = some (decide (c = d))
  nd : [c1, c2, c3, c4].Nodup
section
variable {X : Cx} {Z : Zt} {Wx : Wish} {G : Pg} {C C1 : Nat → List Wv → Mem → Out Wv} {fu : Nat}
end
end MP
end
section
set_option Elab.async false
set_option linter.all false
set_option maxRecDepth 100000
namespace MP
open PySem PySem.Spec PyProof.Rows L2
theorem toD_tup {S : List Int} {M : Mem} {m : Nat} {ws : List Wv} {d : PyData} (e : toD S M m (.tup ws) = some d) : ∃ ds k, m = k + 1 ∧ toDs S M k ws = some ds ∧ d = .tuple ds := by
  cases m with
  | zero => simp only [toD] at e; cases e
  | succ k =>
    simp only [toD] at e
    obtain ⟨ds, e1, rfl⟩ := Option.map_eq_some_iff.mp e
    exact ⟨ds, k, rfl, e1, rfl⟩
mutual
theorem eqv_key {S : List Int} {M : Mem} : ∀ (n m : Nat) (a b : Wv) (da db : PyData), keyIn n a = true → keyIn n b = true → toD S M m a = some da → toD S M m b = some db → PyData.eqv da db = true → a = b
  | n, m, .non, b, da, db, _, kb, ea, eb, h => by
    simp only [toD] at ea
    cases ea
    cases b with
    | non => rfl
    | int j => simp only [toD] at eb; cases eb; simp [PyData.eqv] at h
    | str j => simp only [toD] at eb; cases eb; simp [PyData.eqv] at h
    | tup us => obtain ⟨ds, k, rfl, e1, rfl⟩ := toD_tup eb; simp [PyData.eqv] at h
    | _ => simp [keyIn] at kb
  | n, m, .int i, b, da, db, _, kb, ea, eb, h => by
    simp only [toD] at ea
    cases ea
    cases b with
    | non => simp only [toD] at eb; cases eb; simp [PyData.eqv] at h
    | int j => simp only [toD] at eb; cases eb; simp [PyData.eqv] at h; rw [h]
    | str j => simp only [toD] at eb; cases eb; simp [PyData.eqv] at h
    | tup us => obtain ⟨ds, k, rfl, e1, rfl⟩ := toD_tup eb; simp [PyData.eqv] at h
    | _ => simp [keyIn] at kb
  | n, m, .str i, b, da, db, _, kb, ea, eb, h => by
    simp only [toD] at ea
    cases ea
    cases b with
    | non => simp only [toD] at eb; cases eb; simp [PyData.eqv] at h
    | int j => simp only [toD] at eb; cases eb; simp [PyData.eqv] at h
    | str j => simp only [toD] at eb; cases eb; simp [PyData.eqv] at h; rw [h]
    | tup us => obtain ⟨ds, k, rfl, e1, rfl⟩ := toD_tup eb; simp [PyData.eqv] at h
    | _ => simp [keyIn] at kb
  | n + 1, m, .tup ws, b, da, db, ka, kb, ea, eb, h => by
    obtain ⟨ds, k, rfl, e1, rfl⟩ := toD_tup ea
    cases b with
    | non => simp only [toD] at eb; cases eb; simp [PyData.eqv] at h
    | int j => simp only [toD] at eb; cases eb; simp [PyData.eqv] at h
    | str j => simp only [toD] at eb; cases eb; simp [PyData.eqv] at h
    | tup us =>
      obtain ⟨ds', k', hk, e2, rfl⟩ := toD_tup eb
      cases hk
      simp only [keyIn] at ka kb
      simp only [PyData.eqv] at h
      rw [eqv_keys n k ws us ds ds' ka kb e1 e2 h]
    | _ => simp [keyIn] at kb
  | 0, m, .tup ws, b, _, _, ka, _, _, _, _ => by simp [keyIn] at ka
  | n, m, .bl b, _, _, _, ka, _, _, _, _ => by simp [keyIn] at ka
  | n, m, .ref b, _, _, _, ka, _, _, _, _ => by simp [keyIn] at ka
  | n, m, .scr, _, _, _, ka, _, _, _, _ => by simp [keyIn] at ka
theorem eqv_keys {S : List Int} {M : Mem} : ∀ (n m : Nat) (a b : List Wv) (da db : List PyData), keyTup n a = true → keyTup n b = true → toDs S M m a = some da → toDs S M m b = some db → PyData.eqvAll da db = true → a = b
  | n, m, [], b, da, db, _, _, ea, eb, h => by
    simp only [toDs] at ea
    cases ea
    cases b with
    | nil => rfl
    | cons b bs =>
      simp only [toDs] at eb
      split at eb
      · cases eb; simp [PyData.eqvAll] at h
      · cases eb
  | n, m, a :: as, b, da, db, ka, kb, ea, eb, h => by
    simp only [toDs] at ea
    split at ea
    · rename_i d ds e1 e2
      cases ea
      cases b with
      | nil => simp only [toDs] at eb; cases eb; simp [PyData.eqvAll] at h
      | cons b bs =>
        simp only [toDs] at eb
        split at eb
        · rename_i d' ds' f1 f2
          cases eb
          simp only [PyData.eqvAll, Bool.and_eq_true] at h
          simp only [keyTup, Bool.and_eq_true] at ka kb
          rw [eqv_key n m a b d d' ka.1 kb.1 e1 f1 h.1, eqv_keys n m as bs ds ds' ka.2 kb.2 e2 f2 h.2]
        · cases eb
    · cases ea
end
section
variable {X : Cx} {Z : Zt} {Wx : Wish} {G : Pg} {C C1 : Nat → List Wv → Mem → Out Wv} {a : Expr} {ea : Ex} {pos p p2 p3 : Pos}
variable {pins : List (Addr × Obj)} {σ : L2.St} {H H1 : Hp} {s : Shared} {ι ι1 : List Addr} {M : Mem} {sw : Sw}
end
end MP
end
section
set_option Elab.async false
set_option linter.all false
set_option maxRecDepth 100000
namespace MP
open PySem PySem.Spec PyProof.Rows L2
theorem lam_str {P : Program} {w : World} {A : Around} {s : Shared} {f c' : Addr} {q x : Str} {params : Arguments} {scope : Scope} {pm ctv u : Value} {D d : PyData} {E : Value → Shared → Prop} {mg mb : Str → Option Value} {pos p p2 : Pos} (hroom : A.depth < recursionLimit)
    (hgd : A.guards = some []) (hun : A.units + 100 < cLine)
    (ho : s.heap.get? f = some (PySem.W.kla_obj "<lambda>" q params (.Call (.Name "str" p) [.Name x p2] [] pos) scope [] pm c' ctv)) (hcd : s.heap.CodeRec (.ref c') q) (hlim : s.heap.NoLimit) (hco : scope.isCoroutine = false) (hgen : scope.isGenerator = false) (hkind : scope.kind = .function) (hcell : ∀ y ∈ scope.names, y.2 ≠ .cell) (hx : scope.names.lookup x = some .local) (hst : scope.names.lookup ("str" : Str) = some NameKind.globalImplicit)
    (hbind : bindArgs (PySem.W.kla_fn "<lambda>" q params (.Call (.Name "str" p) [.Name x p2] [] pos) scope [] pm (.ref c') ctv) ⟨[u], []⟩ = pure [(x, u)]) (hr : Reads s.heap u D []) (hd : keyD .str D = some d)
    (G1 : s.heap.Ns mainGlobals mg) (g2 : mg "str" = none) (B1 : s.heap.Ns builtinsNs mb) (b2 : mb "str" = some (.type "str")) (hdx : (x == ("__debug__" : Str)) = false) :
    wpAny (model P w) A (call (.ref f) [u]) (PySem.W.KeyPure d s) E s := by
  refine wpAny_call (PySem.W.kla_callFunE hroom ho rfl hco hgen rfl hcd ?_)
  rw [hbind]
  refine wpAny_pure (wpAny_newFunctionEnv hcell (fun y hy => by rw [List.mem_singleton.mp hy]; exact hx) (fun h₁ hns hsb => ⟨hlim.fresh _ hsb, ?_⟩) hkind)
  have kp : ∀ b o, s.heap.get? b = some o → h₁.get? b = some o := fun b o e => hsb.extBut b o (Nat.ne_of_lt (Heap.lt_size e)) (Heap.get?_push_of_some _ e)
  refine PySem.W.kla_codeExpr ?_
  cases D with
  | tuple xs =>
    simp only [keyD] at hd
    split at hd
    · rename_i c
      cases hd
      rw [Bool.and_eq_true, Bool.and_eq_true, Bool.and_eq_true] at c
      obtain ⟨⟨⟨c1, c2⟩, c3⟩, c4⟩ := c
      have hdd : (PyData.tuple xs).depth ≤ 32 := of_decide_eq_true c3
      refine Call_ (Calls.Name_function_global hkind hst (Calls.loadGlobal_builtin (G1.keeps kp) g2 (B1.keeps kp) b2 ?_))
      refine PyProof.Rows.callWith_type1 (PyProof.Rows.args_cons (wpAny_Name (wpAny_loadName_local hkind hx hns (v := u) (by simp) ?_) hdx) rfl) rfl rfl
      refine PyProof.Rows.args_nil ?_
      have hr1 := PyProof.Rows.Reads.keeps kp hr
      cases hr1 with
      | tuple h1 h2 h3 h4 =>
        refine str_of_reads (.tuple h1 h2 h3 h4) c1 (PyData.noDict_hsm (by simpa using c2)) ?_ ?_ (fun _ _ e => e) (fun h' t tk hk => ?_) (of_decide_eq_true c4)
        · exact hgd
        · simp only [PyProof.Rows.units_deeper]
          omega
        · exact ⟨h', tk, rfl, fun b o e => hk b o (kp b o e), .str _ _⟩
    · cases hd
  | _ => simp [keyD] at hd
section
variable {X : Cx} {Z : Zt} {Wx : Wish} {G : Pg} {C C1 : Nat → List Wv → Mem → Out Wv} {a b c e : Expr} {ea : Ex} {pos p p2 p3 kpos : Pos}
variable {pins : List (Addr × Obj)} {σ : L2.St} {H H1 : Hp} {s : Shared} {ι ι1 : List Addr} {M : Mem} {sw : Sw}
theorem e_sortS (k : Bx X Z Wx G) (lm : LmOk X Z) (hroom : X.A.depth + 4 < recursionLimit) {x : Str} {params : Arguments} {scope : Scope} {lpos pb pb2 pb3 : Pos} (hm : X.mg "sorted" = none) (hm2 : X.mg "str" = none) (ha : PE X a (TEx Z Wx G C C1 ea)) (hst : scope.names.lookup ("str" : Str) = some NameKind.globalImplicit := by kernel_rfl) (hdx : (x == ("__debug__" : Str)) = false := by decide)
    (hdef : defaultsOf params X.env = ([], []) := by rfl) (hfree : scope.names.all (fun y => !decide (y.2 = .free) && !decide (y.2 = .cell)) = true := by kernel_rfl) (hco : scope.isCoroutine = false := by rfl) (hgen : scope.isGenerator = false := by rfl) (hkind : scope.kind = .function := by rfl) (hx : scope.names.lookup x = some .local := by rfl)
    (hbind : ∀ q pm c' ctv u, bindArgs (PySem.W.kla_fn "<lambda>" q params (.Call (.Name "str" pb) [.Name x pb2] [] pb3) scope [] pm (.ref c') ctv) ⟨[u], []⟩ = pure [(x, u)] := by intros; rfl)
    (hg : gloB X.env "sorted" = true := by kernel_rfl) (hs : starEach [a] X.env = (false, eval a X.env) :: starEach [] X.env := by rfl)
    (he : backTo pos (starEach [a] X.env) = (false, eval a X.env) :: backTo pos (starEach [] X.env) := by rfl) (hpl : (backTo pos (starEach [a] X.env)).any (·.1) = false := by rfl)
    (hall : (backToKw pos (keywordEach [⟨some "key", .Lambda params (.Call (.Name "str" pb) [.Name x pb2] [] pb3) scope lpos, kpos⟩] X.env)).all (·.1.isSome) = true := by rfl) (hnone : (backToKw pos (keywordEach [⟨some "key", .Lambda params (.Call (.Name "str" pb) [.Name x pb2] [] pb3) scope lpos, kpos⟩] X.env)).any (·.1.isNone) = false := by rfl)
    (hks : (backToKw pos (keywordEach [⟨some "key", .Lambda params (.Call (.Name "str" pb) [.Name x pb2] [] pb3) scope lpos, kpos⟩] X.env)).filterMap (·.1) = [Str.ofString "key"] := by rfl) :
    PE X (.Call (.Name "sorted" p) [a] [⟨some "key", .Lambda params (.Call (.Name "str" pb) [.Name x pb2] [] pb3) scope lpos, kpos⟩] pos) (TEx Z Wx G C C1 (.sortk ea .str)) := by
  obtain ⟨h1, h2, h3⟩ := gloB_ok hg
  obtain ⟨c, P, TB, hcode, hmT, huT⟩ := lm.ex
  refine ⟨fun pins s σ H Q I ⟨ι, sw, M, sr, R, h⟩ => ?_⟩
  simp only [evE] at h
  refine wpAny_Call_Name_kw (ld_blt I h1 hm (by rfl) ?_ h3 h2)
  refine PyProof.Rows.callWith_kw (thn ((pa_cons ha pa_nil hs).run pos pins s σ H (fun vs H1 => ∃ v ι1 M1 w, vs = [v] ∧ RM Z ι1 M1 H1 ∧ WR Z ι1 H1 w v ∧ rOut Z ι1 H1 (newL ((lstOf w M1).bind fun ws => (mapO (keyOf G .str M1) ws).bind fun ds => sortBy ds ws) M1) Q) I
    (tE.seqE sr R h fun w M1 v H1 ι1 e1 R1 q1 s1 h1 => ⟨v, ι1, M1, w, rfl, R1, q1, (prim_newL _ _).out h1⟩)) fun us s1 ⟨vs, H1, I1, r1, v, ι1, M1, w, ev, R1, wr, h4⟩ => ?_) he hpl hall hnone
  subst ev
  obtain ⟨u, rfl, ru⟩ := vals1 r1
  show wpAny _ _ (evalAll [do let v ← eval (.Lambda params (.Call (.Name "str" pb) [.Name x pb2] [] pb3) scope lpos) X.env; standAt pos; pure v]) _ _ s1
  have nofree : ∀ y ∈ scope.names, y.2 ≠ .free ∧ y.2 ≠ .cell := fun y hy => by
    rw [List.all_eq_true] at hfree
    have := hfree y hy
    rw [Bool.and_eq_true] at this
    exact ⟨by simpa using this.1, by simpa using this.2⟩
  have clo : cloFrom X.env.cells scope.names [] = [] := by
    have go : ∀ (l : List (Str × NameKind)), (∀ y ∈ l, y.2 ≠ .free) → cloFrom X.env.cells l [] = [] := by
      intro l
      induction l with
      | nil => intro _; rfl
      | cons y ys ih =>
        intro hy
        obtain ⟨n, kd⟩ := y
        have h0 := hy (n, kd) List.mem_cons_self
        have := ih fun z hz => hy z (List.mem_cons_of_mem _ hz)
        cases kd <;> first | exact absurd rfl h0 | exact this
    exact go _ fun y hy => (nofree y hy).1
  refine wpAny_evalAll_cons (wpAny_bind (LamX.lam_make2 I1 TB hcode hmT huT R1.tab hdef (fun y hy e => absurd e (nofree y hy).1) fun f c' pm ctv H2 s2 I2 x2 t2 of hfn hfr hc => wpAny_bind (wpAny_standAt (wpAny_pure (wpAny_evalAll_nil ?_)))))
  rw [clo] at of
  rw [hks]
  show wpAny _ _ (call (.builtin "sorted") [u] [(Str.ofString "key", .ref f)]) _ _ s2
  obtain ⟨x3, R3⟩ := rm_lam R1 x2 t2
  obtain ⟨out, e, hz, h5⟩ := newL_ok h4
  obtain ⟨zs, e1, e⟩ := Option.bind_eq_some_iff.mp e
  obtain ⟨ds, e2, e3⟩ := Option.bind_eq_some_iff.mp e
  obtain ⟨l, vs, rfl, hl, hws⟩ := lstOf_at R3 (wr.mono x3.le) e1
  cases ru
  obtain ⟨its, rv, pl, hzz⟩ := I2.list (SqL.of (K := X.K) hl)
  obtain ⟨bs, b1, b2, b3, b4⟩ := mapO_each k I2 R3 hws rv e2
  obtain ⟨a1, a2, a3, a4⟩ := sortBy_tri (bs := bs) (out := out) (by rw [b1, b2]; exact e3)
  have hlen : bs.length = zs.length := by rw [← b2, List.length_map]
  obtain ⟨⟨oc, vs', tt, hoc, hdc, hvc⟩, _, _⟩ := I2.hok c' _ hc
  have lim : s2.heap.NoLimit := I2.nolimit
  refine PySem.W.sorted_key_data (fun b : Tri => b.1) pl.isList b4 (alikeAll_of a1) (sortable_of a2) (by rw [hlen, hws.length]; exact hzz) (depth_cap k.toXOk a3) (PyProof.Rows.ksk_s1 _ _) (fun x => PyProof.Rows.ksk_l1 _ _) (fun y => PyProof.Rows.ksk_t1 f y)
    (fun v b hR hb h' tk kp => ?_) fun o cc h' tk kp hnew hat hol eo => ?_
  · obtain ⟨hrel, D, hD, kd⟩ := hR
    obtain ⟨mbx, hb1, hb2⟩ := I2.mod.blt
    exact lam_str (s := { s2 with heap := h', toks := tk }) (by show X.A.depth < recursionLimit; omega) k.toXOk.gd (by have := k.toXOk.un; show X.A.units + 1 + 1 + 100 < cLine; omega) (kp _ _ of) ⟨c', oc, vs', tt, rfl, kp _ _ hoc, hdc, hvc⟩ (lim.keeps kp) hco hgen hkind (fun y hy => (nofree y hy).2) hx hst (hbind _ _ _ _ _) (PyProof.Rows.Reads.keeps kp hD) kd
      ((I2.mod.glob.keeps I2.bk).keeps kp) hm2 ((hb1.keeps I2.bk).keeps kp) ((hb2 _ (by decide)).trans (by first | rfl | decide +kernel)) hdx
  · have eo2 : W.EachIs (fun u (b : Tri) => RelV b.2.2 u) o (bs.mergeSort (W.dataLe false fun b : Tri => b.1)) := eo.mono fun u b hh => hh.1
    have ww : WsR Z ι1 H2 out ((bs.mergeSort (W.dataLe false fun b : Tri => b.1)).map (·.2.2)) := by
      rw [a4]
      exact ws_sorted fun b hb => b3 b ((List.mergeSort_perm _ _).mem_iff.mp hb)
    have h6 : rOut Z ι1 H2 (.ok (.ref M1.length) (M1 ++ [.lst out])) Q := fun v H' ι' y R4 q4 => h5 v H' ι' (x3.trans y) R4 q4
    exact ⟨.ref _, _, I2.laid (t' := tk) kp (Nat.le_succ _) (show ObjOk X.prog X.w _ _ _ (.lst ((bs.mergeSort (W.dataLe false fun b : Tri => b.1)).map (·.2.2))) from ⟨by rw [← ww.length]; exact hz, o, cc, each_vals eo2, hat⟩), rfl, h6.lst R3 ww (I2.hok.fresh (Nat.le_succ _))⟩
end
section
variable {P : Program} {w : World} {K : PySem.W.Frag} {mg : Str → Option Value} {base : Heap} {Z : Zt} {G : Pg} {C C1 : Nat → List Wv → Mem → Out Wv} {fu k : Nat}
theorem fn_law2 {x qual : Str} {params : Arguments} {body : List Stmt} {scope : Scope} {dvs : List V} {kws : List (Str × V)} {f : Addr} {fd : FuncData} {N ps : List Str} {d : Df} {Fc : List Wv → Mem → Out Wv} (F : FunD K x qual params body scope dvs kws f fd) (S : FnScope N ps scope)
    (hZ : Z.P = P ∧ Z.w = w ∧ Z.K = K) (hS : Z.S = G.S) (hslots : d.slots = N.length) (hn : d.npar = ps.length) (hps : ps.length = 1) (hF : ∀ ws M, Fc ws M = runD G C C1 fu d ws M)
    (hbody : ∀ (cdv : Value), (∀ p, He.fAd K p = f → cdv = .ref (He.codeOf K p)) → ∀ (A : Around) (outer : List Env) (s : Shared) (H : Hp) (E : XK), Room k (A.deeper (envOfC qual scope s.heap.objs.size f cdv)) → Bx (cxOf (L2.CX P w) P w K mg base N qual scope f cdv A outer s H E) Z (wxE Z E) G →
      PassesOwn (model P w) (A.deeper (envOfC qual scope s.heap.objs.size f cdv)) (envOfC qual scope s.heap.objs.size f cdv) (cxOf (L2.CX P w) P w K mg base N qual scope f cdv A outer s H E).xe → PSs (cxOf (L2.CX P w) P w K mg base N qual scope f cdv A outer s H E) body (TSl Z (wxE Z E) G C C1 fu d.body)) :
    FnG P w K mg base (k + 1) f fd ps (spL Z Fc) := by
  obtain ⟨oc, od, dV, kV, doc, pm, an, cdv, ct, osl, rfl, lk, hcd, _, _⟩ := F.ex
  have hcv : ∀ p, He.fAd K p = f → cdv = .ref (He.codeOf K p) := fun p hp => by
    obtain ⟨c, rfl⟩ := He.codeIn_ref hcd
    rw [He.codeOf_eq (p := p) (c := c) (by rw [hp]; exact lk) rfl]
  have hlen : ∀ vs H Q E, spL Z Fc vs H Q E → vs.length = ps.length := by
    intro vs H Q E h
    obtain ⟨a, rfl, _⟩ := h
    rw [hps]
    rfl
  refine ⟨hlen, fun A outer s H args us vs Q E hg hr0 e0 hb rv h => LamX.run_ofS lk hcd S hr0 e0 hb rv (hlen vs H Q E h) fun hr => ?_⟩
  · obtain ⟨a, rfl, hq, ht, ⟨M', hrun⟩, hQ⟩ := h
    have B := hbody cdv hcv A outer s H E hr (bx_of hZ hS S hr hg) (passes_of (X := cxOf (L2.CX P w) P w K mg base N qual scope f cdv A outer s H E) rfl)
    rw [hF] at hrun
    unfold runD at hrun
    obtain ⟨hnp, hrun⟩ := Out.chk_okE hrun
    obtain ⟨q, M1, e1, e2⟩ := Out.bind_okE hrun
    rw [hslots] at e1
    have key : ∀ (H' : Hp) (D : Ends), LamX.Tabs Z.T H' → ScR Z.K H' a (Z.S.map V.int) → (∀ H2 ι2, Ext [] ι2 H' H2 → D.rt (.bl true) H2) → TSl Z (wxE Z E) G C C1 fu d.body D (L2.start N [.ref a]) H' := fun H' D t' sc hD => by
      obtain ⟨R, wr⟩ := law_start t' sc
      refine ⟨[], _, [], start_rel wr, R, ?_⟩
      rw [e1]
      obtain ⟨fl, sw⟩ := q
      intro σ2 H2 ι2 x2 R2 s2
      cases fl with
      | nx => cases e2
      | brk => cases e2
      | ct => cases e2
      | ret w =>
        cases e2
        intro v hv
        cases hv
        exact hD H2 ι2 x2
    rcases hq with (hq | ⟨o, hq⟩) | hq
    · refine ⟨_, pss_lock B, a, .lst (Z.S.map V.int), hq, trivial, fun od => key _ _ ?_ (.inl ⟨od, upd_same⟩) fun H2 ι2 x2 => ⟨?_, hQ _⟩⟩
      · intro p hp
        obtain ⟨ps', g1, g2, g3⟩ := ht p hp
        have ne : p.1 ≠ a := fun z => by rw [z, hq] at g1; cases g1
        refine ⟨ps', by rw [upd_ne ne]; exact g1, g2, fun pos cv hc => ?_⟩
        obtain ⟨c, k1, k2⟩ := g3 pos cv hc
        have nc : c ≠ a := fun z => by rw [z, hq] at k2; cases k2
        exact ⟨c, k1, by rw [upd_ne nc]; exact k2⟩
      · exact x2.frm a _ upd_same (fun ps z => by cases z) (.inl (by simp))
    · exact ⟨_, B, key H _ ht (.inl ⟨o, hq⟩) fun H2 _ _ => hQ H2⟩
    · exact ⟨_, B, key H _ ht (.inr fun H' => .inr hq) fun H2 _ _ => hQ H2⟩
end
end MP
end
section
set_option Elab.async false
set_option linter.all false
set_option maxRecDepth 100000
namespace MP
open PySem
def Out.sat {α : Type} (x : Out α) (Q : α → Mem → Prop) : Prop := match x with
  | .ok a M => Q a M
  | _ => False
section
variable {α β : Type} {Q R : α → Mem → Prop}
theorem sat_ok (a : α) (M : Mem) : (Out.ok a M).sat Q ↔ Q a M := Iff.rfl
theorem sat_bind (x : Out α) (f : α → Mem → Out β) (Q : β → Mem → Prop) : (x.bind f).sat Q ↔ x.sat fun a M => (f a M).sat Q := by
  cases x <;> exact Iff.rfl
theorem sat_some (a : α) (M : Mem) : (Out.ofO (some a) M).sat Q ↔ Q a M := Iff.rfl
theorem sat_chk (b : Bool) (x : Out α) : (Out.chk b x).sat Q ↔ b = true ∧ x.sat Q := by
  cases b
  · exact ⟨fun h => h.elim, fun h => by cases h.1⟩
  · exact ⟨fun h => ⟨rfl, h⟩, fun h => h.2⟩
theorem sat_mono {x : Out α} (h : x.sat Q) (m : ∀ a M, Q a M → R a M) : x.sat R := by
  cases x with
  | ok a M => exact m a M h
  | exc _ _ => exact h
  | bad => exact h
theorem sat_ex {x : Out α} (h : x.sat Q) : ∃ a M, x = .ok a M ∧ Q a M := by
  cases x with
  | ok a M => exact ⟨a, M, rfl, h⟩
  | exc _ _ => exact h.elim
  | bad => exact h.elim
theorem sat_of {x : Out α} {a : α} {M : Mem} (e : x = .ok a M) (h : Q a M) : x.sat Q := by rw [e]; exact h
theorem sat_ite (c : Prop) [Decidable c] (x y : Out α) : (if c then x else y).sat Q ↔ if c then x.sat Q else y.sat Q := by
  split <;> exact Iff.rfl
theorem sat_noExc (x : Out α) : x.noExc.sat Q ↔ x.sat Q := by cases x <;> exact Iff.rfl
theorem sat_unlk (ps : List (Nat × Ob)) (x : Out α) : (x.unlk ps).sat Q ↔ x.sat fun a M => Q a (unlkM ps M) := by cases x <;> exact Iff.rfl
theorem sat_ofO (o : Option α) (M : Mem) : (Out.ofO o M).sat Q ↔ ∃ a, o = some a ∧ Q a M := by
  cases o with
  | none => exact ⟨fun h => h.elim, fun ⟨_, h, _⟩ => by cases h⟩
  | some a => exact ⟨fun h => ⟨a, rfl, h⟩, fun ⟨_, h, q⟩ => by cases h; exact q⟩
end
@[simp] theorem getV_0 (w : Wv) (σ : Sw) : getV 0 (some w :: σ) = some w := rfl
@[simp] theorem getV_s (i : Nat) (a : Option Wv) (σ : Sw) : getV (i + 1) (a :: σ) = getV i σ := rfl
theorem pre_get {M M' : Mem} (h : M <+: M') {l : Nat} {o : Ob} (e : M[l]? = some o) : M'[l]? = some o := by
  obtain ⟨L, rfl⟩ := h
  rw [List.getElem?_append_left (List.getElem?_eq_some_iff.mp e).1]
  exact e
theorem pre_set {M M' : Mem} (h : M <+: M') {l : Nat} {o : Ob} (hl : M.length ≤ l) : M <+: M'.set l o := by
  obtain ⟨L, rfl⟩ := h
  rw [List.set_append_right _ _ hl]
  exact ⟨_, rfl⟩
theorem pre_snoc {M M' : Mem} (h : M <+: M') (o : Ob) : M <+: M' ++ [o] := h.trans (List.prefix_append _ _)
theorem pre_len {M M' : Mem} (h : M <+: M') : M.length ≤ M'.length := h.length_le
theorem at_new (M : Mem) (o : Ob) : (M ++ [o])[M.length]? = some o := by simp
variable {G : Pg}
theorem whl_rule {t : Sw → Mem → Out Wv} {b : Sw → Mem → Out (Fl × Sw)} {Q : Fl × Sw → Mem → Prop} (I : Nat → Sw → Mem → Prop)
    (step : ∀ m σ M, I m σ M → (t σ M).sat fun x M1 => ∃ c, truW G x M1 = some c ∧ (c = true → (b σ M1).sat fun r M2 => match r.1 with
      | .nx => ∃ m', m' < m ∧ I m' r.2 M2
      | .ct => ∃ m', m' < m ∧ I m' r.2 M2
      | .brk => Q (.nx, r.2) M2
      | .ret w => Q (.ret w, r.2) M2) ∧ (c = false → Q (.nx, σ) M1)) :
    ∀ (n m : Nat) (σ : Sw) (M : Mem), I m σ M → m < n → (whlGo G t b n σ M).sat Q
  | 0, m, _, _, _, h => absurd h (Nat.not_lt_zero m)
  | n + 1, m, σ, M, hI, h => by
    unfold whlGo
    rw [sat_bind]
    refine sat_mono (step m σ M hI) fun x M1 ⟨c, hc, h1, h2⟩ => ?_
    rw [hc]
    show Out.sat (if c = true then _ else _) Q
    cases c with
    | false => exact h2 rfl
    | true =>
      rw [if_pos rfl, sat_bind]
      refine sat_mono (h1 rfl) fun r M2 hr => ?_
      obtain ⟨fl, σ2⟩ := r
      cases fl with
      | nx => obtain ⟨m', hm, hI'⟩ := hr; exact whl_rule I step n m' _ _ hI' (by omega)
      | ct => obtain ⟨m', hm, hI'⟩ := hr; exact whl_rule I step n m' _ _ hI' (by omega)
      | brk => exact hr
      | ret w => exact hr
theorem for_rule {t : Tg} {b : Sw → Mem → Out (Fl × Sw)} {ps : List (Nat × Ob)} {Q : Fl × Sw → Mem → Prop} (I : List Wv → List Wv → Sw → Mem → Prop)
    (step : ∀ pre x post σ M, I pre (x :: post) σ M → stays ps M = true ∧ ∃ τ, tgW t x σ = some τ ∧ (b τ M).sat fun r M2 => match r.1 with
      | .nx => I (pre ++ [x]) post r.2 M2
      | .ct => I (pre ++ [x]) post r.2 M2
      | .brk => Q (.nx, r.2) M2
      | .ret w => Q (.ret w, r.2) M2)
    (stop : ∀ pre σ M, I pre [] σ M → stays ps M = true ∧ Q (.nx, σ) M) :
    ∀ (xs pre : List Wv) (σ : Sw) (M : Mem), I pre xs σ M → (forGo t b ps xs σ M).sat Q
  | [], pre, σ, M, h => by
    unfold forGo
    rw [sat_chk]
    exact stop pre σ M h
  | x :: xs, pre, σ, M, h => by
    unfold forGo
    rw [sat_chk]
    obtain ⟨h1, τ, h2, h3⟩ := step pre x xs σ M h
    refine ⟨h1, ?_⟩
    rw [h2]
    show Out.sat (Out.bind (b τ M) _) Q
    rw [sat_bind]
    refine sat_mono h3 fun r M2 hr => ?_
    obtain ⟨fl, σ2⟩ := r
    cases fl with
    | nx => exact for_rule I step stop xs _ _ _ hr
    | ct => exact for_rule I step stop xs _ _ _ hr
    | brk => exact hr
    | ret w => exact hr
theorem lc_rule {t : Tg} {c e : Sw → Mem → Out Wv} {ps : List (Nat × Ob)} {σ : Sw} {Q : List Wv → Mem → Prop} (I : List Wv → List Wv → List Wv → Mem → Prop)
    (step : ∀ pre x post acc M, I pre (x :: post) acc M → stays ps M = true ∧ ∃ τ, tgW t x σ = some τ ∧ (c τ M).sat fun b M1 => ∃ q, truW G b M1 = some q ∧
      (q = true → (e τ M1).sat fun y M2 => lenOk (acc.length + 1) = true ∧ I (pre ++ [x]) post (acc ++ [y]) M2) ∧ (q = false → I (pre ++ [x]) post acc M1))
    (stop : ∀ pre acc M, I pre [] acc M → stays ps M = true ∧ Q acc M) :
    ∀ (xs pre acc : List Wv) (M : Mem), I pre xs acc M → (lcGo G t c e ps xs σ acc M).sat Q
  | [], pre, acc, M, h => by
    unfold lcGo
    rw [sat_chk]
    exact stop pre acc M h
  | x :: xs, pre, acc, M, h => by
    unfold lcGo
    rw [sat_chk]
    obtain ⟨h1, τ, h2, h3⟩ := step pre x xs acc M h
    refine ⟨h1, ?_⟩
    rw [h2]
    show Out.sat (Out.bind (c τ M) _) Q
    rw [sat_bind]
    refine sat_mono h3 fun b M1 ⟨q, hq, g1, g2⟩ => ?_
    rw [hq]
    show Out.sat (if q = true then _ else _) Q
    cases q with
    | false => exact lc_rule I step stop xs _ _ _ (g2 rfl)
    | true =>
      rw [if_pos rfl, sat_bind]
      refine sat_mono (g1 rfl) fun y M2 ⟨hl, hI⟩ => ?_
      rw [sat_chk]
      exact ⟨hl, lc_rule I step stop xs _ _ _ hI⟩
theorem lc_pure {t : Tg} {c e : Sw → Mem → Out Wv} {ps : List (Nat × Ob)} {σ : Sw} {M : Mem} {xs : List Wv} (p : Wv → Bool) (f : Wv → Wv) (hs : stays ps M = true) (hl : xs.length ≤ sizeLine)
    (h : ∀ x ∈ xs, ∃ τ, tgW t x σ = some τ ∧ (∃ b, c τ M = .ok b M ∧ truW G b M = some (p x)) ∧ (p x = true → e τ M = .ok (f x) M)) :
    lcGo G t c e ps xs σ [] M = .ok ((xs.filter p).map f) M := by
  have key : ∀ (xs acc : List Wv), acc.length + xs.length ≤ sizeLine → (∀ x ∈ xs, ∃ τ, tgW t x σ = some τ ∧ (∃ b, c τ M = .ok b M ∧ truW G b M = some (p x)) ∧ (p x = true → e τ M = .ok (f x) M)) →
      lcGo G t c e ps xs σ acc M = .ok (acc ++ (xs.filter p).map f) M := by
    intro xs
    induction xs with
    | nil =>
      intro acc _ _
      unfold lcGo
      rw [hs]
      simp [Out.chk]
    | cons x xs ih =>
      intro acc hl h
      obtain ⟨τ, h1, ⟨b, h2, h3⟩, h4⟩ := h x (List.mem_cons_self ..)
      unfold lcGo
      rw [hs, h1]
      simp only [Out.chk, h2, Out.bind_ok, h3, Out.ofO]
      simp only [List.length_cons] at hl
      cases hp : p x with
      | false =>
        simp only [Bool.false_eq_true, if_false]
        rw [ih acc (by omega) fun y hy => h y (List.mem_cons_of_mem _ hy)]
        simp [List.filter_cons, hp]
      | true =>
        simp only [if_true, h4 hp, Out.bind_ok]
        have : lenOk (acc.length + 1) = true := decide_eq_true (by omega)
        rw [this]
        simp only []
        rw [ih (acc ++ [f x]) (by simp; omega) fun y hy => h y (List.mem_cons_of_mem _ hy)]
        simp [List.filter_cons, hp]
  have := key xs [] (by simpa using hl) h
  simpa using this
theorem dc_pure {t : Tg} {c k v : Sw → Mem → Out Wv} {ps : List (Nat × Ob)} {σ : Sw} {M : Mem} {xs : List Wv} (f g : Wv → Wv) (hs : stays ps M = true)
    (h : ∀ x ∈ xs, ∃ τ, tgW t x σ = some τ ∧ (∃ b, c τ M = .ok b M ∧ truW G b M = some true) ∧ k τ M = .ok (f x) M ∧ v τ M = .ok (g x) M) :
    ∀ acc, (∀ pre post x, xs = pre ++ x :: post → keyOk (dputs acc (pre.map fun y => (f y, g y))) (f x) = true ∧ lenOk ((dputs acc (pre.map fun y => (f y, g y))).length + 1) = true) →
    dcGo G t c k v ps xs σ acc M = .ok (dputs acc (xs.map fun y => (f y, g y))) M := by
  induction xs with
  | nil =>
    intro acc _
    unfold dcGo
    rw [hs]
    rfl
  | cons x xs ih =>
    intro acc hk
    obtain ⟨τ, h1, ⟨b, h2, h3⟩, h4, h5⟩ := h x (List.mem_cons_self ..)
    unfold dcGo
    rw [hs, h1]
    simp only [Out.chk, h2, Out.bind_ok, h3, Out.ofO, if_true, h4, h5]
    obtain ⟨k1, k2⟩ := hk [] xs x rfl
    simp only [List.map_nil, dputs] at k1 k2
    rw [k1, k2]
    simp only [Bool.and_self, List.map_cons, dputs]
    refine ih (fun y hy => h y (List.mem_cons_of_mem _ hy)) _ fun pre post y e => ?_
    have := hk (x :: pre) post y (by rw [e]; rfl)
    simpa [dputs] using this
end MP
end
section
set_option Elab.async false
set_option linter.all false
set_option maxRecDepth 100000
namespace MP
open PySem
section
variable (G : Pg) (C C1 : Nat → List Wv → Mem → Out Wv) (fu : Nat)
def kont (r : Sl) (Q : Fl × Sw → Mem → Prop) (q : Fl × Sw) (M : Mem) : Prop := match q.1 with
  | .nx => (evSl G C C1 fu r q.2 M).sat Q
  | f => Q (f, q.2) M
def brS (k : Bool) (a b : Sl) (σ : Sw) (M : Mem) (Q : Fl × Sw → Mem → Prop) : Prop := if k = true then (evSl G C C1 fu a σ M).sat Q else (evSl G C C1 fu b σ M).sat Q
def brE (k : Bool) (a b : Ex) (σ : Sw) (M : Mem) (Q : Wv → Mem → Prop) : Prop := if k = true then (evE G C C1 a σ M).sat Q else (evE G C C1 b σ M).sat Q
def brA (k : Bool) (b : Ex) (σ : Sw) (M : Mem) (x : Wv) (Q : Wv → Mem → Prop) : Prop := if k = true then (evE G C C1 b σ M).sat Q else Q x M
def brO (k : Bool) (b : Ex) (σ : Sw) (M : Mem) (x : Wv) (Q : Wv → Mem → Prop) : Prop := if k = true then Q x M else (evE G C C1 b σ M).sat Q
def tru (x : Wv) (M : Mem) (Q : Bool → Prop) : Prop := ∃ k, truW G x M = some k ∧ Q k
variable {σ : Sw} {M : Mem} {Q : Wv → Mem → Prop} {QS : Fl × Sw → Mem → Prop} {QL : List Wv → Mem → Prop} {QI : List Wv × List (Nat × Ob) → Mem → Prop}
theorem q_nil : (evSl G C C1 fu .nil σ M).sat QS ↔ QS (.nx, σ) M := by simp only [evSl]; exact Iff.rfl
theorem q_cons (s : St) (r : Sl) : (evSl G C C1 fu (.cons s r) σ M).sat QS ↔ (evS G C C1 fu s σ M).sat (kont G C C1 fu r QS) := by
  simp only [evSl, sat_bind]
  cases evS G C C1 fu s σ M with
  | ok q M1 =>
    obtain ⟨f, σ2⟩ := q
    cases f <;> exact Iff.rfl
  | exc _ _ => exact Iff.rfl
  | bad => exact Iff.rfl
theorem k_nx (r : Sl) : kont G C C1 fu r QS (.nx, σ) M ↔ (evSl G C C1 fu r σ M).sat QS := Iff.rfl
theorem k_ret (r : Sl) (w : Wv) : kont G C C1 fu r QS (.ret w, σ) M ↔ QS (.ret w, σ) M := Iff.rfl
theorem k_brk (r : Sl) : kont G C C1 fu r QS (.brk, σ) M ↔ QS (.brk, σ) M := Iff.rfl
theorem k_ct (r : Sl) : kont G C C1 fu r QS (.ct, σ) M ↔ QS (.ct, σ) M := Iff.rfl
theorem q_asg (t : Tg) (e : Ex) : (evS G C C1 fu (.asg t e) σ M).sat QS ↔ (evE G C C1 e σ M).sat fun x M => (Out.ofO (tgW t x σ) M).sat fun σ M => QS (.nx, σ) M := by
  simp only [evS, sat_bind, sat_ok]
theorem q_asgA (o : Ex) (f : Str) (e : Ex) : (evS G C C1 fu (.asgA o f e) σ M).sat QS ↔ (evE G C C1 e σ M).sat fun x M => (evE G C C1 o σ M).sat fun y M => (setA G y f x M).sat fun _ M => QS (.nx, σ) M := by
  simp only [evS, sat_bind, sat_ok]
theorem q_asgS (o i e : Ex) : (evS G C C1 fu (.asgS o i e) σ M).sat QS ↔ (evE G C C1 e σ M).sat fun x M => (evE G C C1 o σ M).sat fun y M => (evE G C C1 i σ M).sat fun z M => (setW y z x M).sat fun _ M => QS (.nx, σ) M := by
  simp only [evS, sat_bind, sat_ok]
theorem q_aug (i : Nat) (p : Op) (e : Ex) : (evS G C C1 fu (.aug i p e) σ M).sat QS ↔ (Out.ofO (getV i σ) M).sat fun x M => (evE G C C1 e σ M).sat fun y M => (augW p x y M).sat fun z M => QS (.nx, σ.set i (some z)) M := by
  simp only [evS, sat_bind, sat_ok]
theorem q_ex (e : Ex) : (evS G C C1 fu (.ex e) σ M).sat QS ↔ (evE G C C1 e σ M).sat fun _ M => QS (.nx, σ) M := by
  simp only [evS, sat_bind, sat_ok]
theorem q_ret (e : Ex) : (evS G C C1 fu (.ret e) σ M).sat QS ↔ (evE G C C1 e σ M).sat fun x M => QS (.ret x, σ) M := by
  simp only [evS, sat_bind, sat_ok]
theorem q_retN : (evS G C C1 fu .retN σ M).sat QS ↔ QS (.ret .non, σ) M := by
  simp only [evS, sat_ok]
theorem q_pass : (evS G C C1 fu .pass σ M).sat QS ↔ QS (.nx, σ) M := by
  simp only [evS, sat_ok]
theorem q_brk : (evS G C C1 fu .brk σ M).sat QS ↔ QS (.brk, σ) M := by
  simp only [evS, sat_ok]
theorem q_cont : (evS G C C1 fu .cont σ M).sat QS ↔ QS (.ct, σ) M := by
  simp only [evS, sat_ok]
theorem q_ifs (t : Ex) (a b : Sl) : (evS G C C1 fu (.ifs t a b) σ M).sat QS ↔ (evE G C C1 t σ M).sat fun x M => tru G x M fun k => brS G C C1 fu k a b σ M QS := by
  simp only [evS, sat_bind, sat_ofO, tru, brS, sat_ite]
theorem q_for (t : Tg) (it : It) (b : Sl) : (evS G C C1 fu (.for_ t it b) σ M).sat QS ↔ (evI G C C1 it σ M).sat fun r M => (forGo t (evSl G C C1 fu b) r.2 r.1 σ (lockM r.2 M)).sat fun q M => QS q (unlkM r.2 M) := by
  simp only [evS, sat_bind, sat_unlk]
theorem q_whl (t : Ex) (b : Sl) : (evS G C C1 fu (.whl t b) σ M).sat QS ↔ (whlGo G (evE G C C1 t) (evSl G C C1 fu b) fu σ M).sat QS := by
  simp only [evS]
theorem b_t (a b : Sl) : brS G C C1 fu true a b σ M QS ↔ (evSl G C C1 fu a σ M).sat QS := by simp only [brS, if_true]
theorem b_f (a b : Sl) : brS G C C1 fu false a b σ M QS ↔ (evSl G C C1 fu b σ M).sat QS := by simp only [brS, Bool.false_eq_true, if_false]
theorem be_t (a b : Ex) : brE G C C1 true a b σ M Q ↔ (evE G C C1 a σ M).sat Q := by simp only [brE, if_true]
theorem be_f (a b : Ex) : brE G C C1 false a b σ M Q ↔ (evE G C C1 b σ M).sat Q := by simp only [brE, Bool.false_eq_true, if_false]
theorem ba_t (b : Ex) (x : Wv) : brA G C C1 true b σ M x Q ↔ (evE G C C1 b σ M).sat Q := by simp only [brA, if_true]
theorem ba_f (b : Ex) (x : Wv) : brA G C C1 false b σ M x Q ↔ Q x M := by simp only [brA, Bool.false_eq_true, if_false]
theorem bo_t (b : Ex) (x : Wv) : brO G C C1 true b σ M x Q ↔ Q x M := by simp only [brO, if_true]
theorem bo_f (b : Ex) (x : Wv) : brO G C C1 false b σ M x Q ↔ (evE G C C1 b σ M).sat Q := by simp only [brO, Bool.false_eq_true, if_false]
theorem t_bl (b : Bool) (Q : Bool → Prop) : tru G (.bl b) M Q ↔ Q b := ⟨fun ⟨k, h, q⟩ => by cases h; exact q, fun q => ⟨b, rfl, q⟩⟩
theorem t_int (i : Int) (Q : Bool → Prop) : tru G (.int i) M Q ↔ Q (i != 0) := ⟨fun ⟨k, h, q⟩ => by cases h; exact q, fun q => ⟨_, rfl, q⟩⟩
theorem t_non (Q : Bool → Prop) : tru G .non M Q ↔ Q false := ⟨fun ⟨k, h, q⟩ => by cases h; exact q, fun q => ⟨_, rfl, q⟩⟩
theorem no_no : Ex.isNo .no = true := rfl
theorem q_var (i : Nat) : (evE G C C1 (.var i) σ M).sat Q ↔ (Out.ofO (getV i σ) M).sat Q := by simp only [evE]
theorem q_con (w : Wv) : (evE G C C1 (.con w) σ M).sat Q ↔ Q w M := by simp only [evE, sat_ok]
theorem q_glb (x : Str) : (evE G C C1 (.glb x) σ M).sat Q ↔ (Out.ofO (G.con x) M).sat Q := by simp only [evE]
theorem q_tup (es : El) : (evE G C C1 (.tup es) σ M).sat Q ↔ (evL G C C1 es σ M).sat fun ws M => lenOk ws.length = true ∧ Q (.tup ws) M := by simp only [evE, sat_bind, sat_chk, sat_ok]
theorem q_lst (es : El) : (evE G C C1 (.lst es) σ M).sat Q ↔ (evL G C C1 es σ M).sat fun ws M => lenOk ws.length = true ∧ Q (.ref M.length) (M ++ [.lst ws]) := by simp only [evE, sat_bind, sat_chk, sat_ok]
theorem q_dict0 : (evE G C C1 .dict0 σ M).sat Q ↔ Q (.ref M.length) (M ++ [.dct false []]) := by simp only [evE, sat_ok]
theorem q_bin (o : Op) (a b : Ex) : (evE G C C1 (.bin o a b) σ M).sat Q ↔ (evE G C C1 a σ M).sat fun x M => (evE G C C1 b σ M).sat fun y M => (binW o x y M).sat Q := by simp only [evE, sat_bind]
theorem q_neg (a : Ex) : (evE G C C1 (.neg a) σ M).sat Q ↔ (evE G C C1 a σ M).sat fun x M => (Out.ofO ((toI x).map fun i => .int (-i)) M).sat Q := by simp only [evE, sat_bind]
theorem q_not (a : Ex) : (evE G C C1 (.not a) σ M).sat Q ↔ (evE G C C1 a σ M).sat fun x M => tru G x M fun b => Q (.bl (!b)) M := by
  simp only [evE, sat_bind, sat_ofO, tru, Option.map_eq_some_iff]
  constructor
  · refine fun h => sat_mono h fun x M h => ?_
    obtain ⟨a, ⟨b, h1, rfl⟩, h2⟩ := h
    exact ⟨b, h1, h2⟩
  · refine fun h => sat_mono h fun x M h => ?_
    obtain ⟨b, h1, h2⟩ := h
    exact ⟨_, ⟨b, h1, rfl⟩, h2⟩
theorem q_and (a b : Ex) : (evE G C C1 (.and a b) σ M).sat Q ↔ (evE G C C1 a σ M).sat fun x M => tru G x M fun c => brA G C C1 c b σ M x Q := by
  simp only [evE, sat_bind, sat_ofO, tru, brA, sat_ite, sat_ok]
theorem q_or (a b : Ex) : (evE G C C1 (.or a b) σ M).sat Q ↔ (evE G C C1 a σ M).sat fun x M => tru G x M fun c => brO G C C1 c b σ M x Q := by
  simp only [evE, sat_bind, sat_ofO, tru, brO, sat_ite, sat_ok]
theorem q_ife (t a b : Ex) : (evE G C C1 (.ife t a b) σ M).sat Q ↔ (evE G C C1 t σ M).sat fun x M => tru G x M fun c => brE G C C1 c a b σ M Q := by
  simp only [evE, sat_bind, sat_ofO, tru, brE, sat_ite]
theorem q_cmp (c : Cm) (a b : Ex) : (evE G C C1 (.cmp c a b) σ M).sat Q ↔ (evE G C C1 a σ M).sat fun x M => (evE G C C1 b σ M).sat fun y M => (cmpW G c x y M).sat Q := by simp only [evE, sat_bind]
theorem q_cmp2 (c d : Cm) (a b e : Ex) : (evE G C C1 (.cmp2 c d a b e) σ M).sat Q ↔ (evE G C C1 a σ M).sat fun x M => (evE G C C1 b σ M).sat fun y M => (cmpW G c x y M).sat fun r M => tru G r M fun k => if k = true then (evE G C C1 e σ M).sat fun z M => (cmpW G d y z M).sat Q else Q r M := by
  simp only [evE, sat_bind, sat_ofO, tru, sat_ite, sat_ok]
theorem q_attr (a : Ex) (f : Str) : (evE G C C1 (.attr a f) σ M).sat Q ↔ (evE G C C1 a σ M).sat fun x M => (attrW G x f M).sat Q := by simp only [evE, sat_bind]
theorem q_sub (a i : Ex) : (evE G C C1 (.sub a i) σ M).sat Q ↔ (evE G C C1 a σ M).sat fun x M => (evE G C C1 i σ M).sat fun y M => (subW G x y M).sat Q := by simp only [evE, sat_bind]
theorem q_slcN (a hi : Ex) (hh : hi.isNo = false) : (evE G C C1 (.slc a .no hi) σ M).sat Q ↔ (evE G C C1 a σ M).sat fun x M => (evE G C C1 hi σ M).sat fun y M => (Out.ofO (toI y) M).sat fun h M => (slcW x none (some h) M).sat Q := by
  simp only [evE, sat_bind, no_no, if_true, sat_ok, hh, Bool.false_eq_true, if_false, sat_ofO, Option.map_eq_some_iff]
  constructor
  · refine fun h => sat_mono h fun x M h => sat_mono h fun y M h => ?_
    obtain ⟨_, ⟨i, h1, rfl⟩, h2⟩ := h
    exact ⟨i, h1, h2⟩
  · refine fun h => sat_mono h fun x M h => sat_mono h fun y M h => ?_
    obtain ⟨i, h1, h2⟩ := h
    exact ⟨_, ⟨i, h1, rfl⟩, h2⟩
theorem q_slc (a lo hi : Ex) (hl : lo.isNo = false) (hh : hi.isNo = false) : (evE G C C1 (.slc a lo hi) σ M).sat Q ↔ (evE G C C1 a σ M).sat fun x M => (evE G C C1 lo σ M).sat fun z M => (Out.ofO (toI z) M).sat fun l M => (evE G C C1 hi σ M).sat fun y M => (Out.ofO (toI y) M).sat fun h M => (slcW x (some l) (some h) M).sat Q := by
  simp only [evE, sat_bind, hl, hh, Bool.false_eq_true, if_false, sat_ofO, Option.map_eq_some_iff]
  constructor
  · refine fun h => sat_mono h fun x M h => sat_mono h fun z M h => ?_
    obtain ⟨_, ⟨i, h1, rfl⟩, h2⟩ := h
    refine ⟨i, h1, sat_mono h2 fun y M h => ?_⟩
    obtain ⟨_, ⟨j, h1, rfl⟩, h2⟩ := h
    exact ⟨j, h1, h2⟩
  · refine fun h => sat_mono h fun x M h => sat_mono h fun z M h => ?_
    obtain ⟨i, h1, h2⟩ := h
    refine ⟨_, ⟨i, h1, rfl⟩, sat_mono h2 fun y M h => ?_⟩
    obtain ⟨j, h1, h2⟩ := h
    exact ⟨_, ⟨j, h1, rfl⟩, h2⟩
theorem q_srev (z : Bool) (a : Ex) : (evE G C C1 (.srev z a) σ M).sat Q ↔ (evE G C C1 a σ M).sat fun x M => (revW z x M).sat Q := by simp only [evE, sat_bind]
theorem q_call (f : Nat) (es : El) (ds : List Wv) : (evE G C C1 (.call f es ds) σ M).sat Q ↔ (evL G C C1 es σ M).sat fun ws M => (C f (ws ++ ds) M).sat Q := by simp only [evE, sat_bind]
theorem q_callk (f : Nat) (es : El) (k : Ex) : (evE G C C1 (.callk f es k) σ M).sat Q ↔ (evL G C C1 es σ M).sat fun ws M => (evE G C C1 k σ M).sat fun w M => (C f (ws ++ [w]) M).sat Q := by simp only [evE, sat_bind]
theorem q_meth (m : Str) (a : Ex) (es : El) (ds : List Wv) : (evE G C C1 (.meth m a es ds) σ M).sat Q ↔ (evE G C C1 a σ M).sat fun x M => (Out.ofO (metW G m x M) M).sat fun f M => (evL G C C1 es σ M).sat fun ws M => (C f (x :: (ws ++ ds)) M).sat Q := by simp only [evE, sat_bind]
theorem q_bm (m : Bm) (a : Ex) (es : El) : (evE G C C1 (.bm m a es) σ M).sat Q ↔ (evE G C C1 a σ M).sat fun x M => bmT m x M = true ∧ (evL G C C1 es σ M).sat fun ws M => (bmW m x ws M).sat Q := by simp only [evE, sat_bind, sat_chk]
theorem q_new (c : Nat) (es : El) : (evE G C C1 (.new c es) σ M).sat Q ↔ (evL G C C1 es σ M).sat fun ws M => (newW G C1 c ws M).sat Q := by simp only [evE, sat_bind]
theorem q_bi (b : Bi) (es : El) : (evE G C C1 (.bi b es) σ M).sat Q ↔ (evL G C C1 es σ M).sat fun ws M => (biW G b ws M).sat Q := by simp only [evE, sat_bind]
theorem q_isi (k : Kd) (a : Ex) : (evE G C C1 (.isi k a) σ M).sat Q ↔ (evE G C C1 a σ M).sat fun x M => (Out.ofO ((isiW k x M).map .bl) M).sat Q := by simp only [evE, sat_bind]
theorem q_lc (e : Ex) (t : Tg) (it : It) (c : Ex) : (evE G C C1 (.lc e t it c) σ M).sat Q ↔ (evI G C C1 it σ M).sat fun r M => (lcGo G t (evE G C C1 c) (evE G C C1 e) r.2 r.1 (wipeW σ t.slots) [] (lockM r.2 M)).sat fun ws M => Q (.ref (unlkM r.2 M).length) (unlkM r.2 M ++ [.lst ws]) := by
  simp only [evE, sat_bind, sat_unlk, sat_noExc, sat_ok]
theorem q_dc (k v : Ex) (t : Tg) (it : It) (c : Ex) : (evE G C C1 (.dc k v t it c) σ M).sat Q ↔ (evI G C C1 it σ M).sat fun r M => (dcGo G t (evE G C C1 c) (evE G C C1 k) (evE G C C1 v) r.2 r.1 (wipeW σ t.slots) [] (lockM r.2 M)).sat fun ws M => Q (.ref (unlkM r.2 M).length) (unlkM r.2 M ++ [.dct false ws]) := by
  simp only [evE, sat_bind, sat_unlk, sat_noExc, sat_ok]
theorem q_sortk (a : Ex) (k : Ke) : (evE G C C1 (.sortk a k) σ M).sat Q ↔ (evE G C C1 a σ M).sat fun x M => (newL ((lstOf x M).bind fun ws => (mapO (keyOf G k M) ws).bind fun ds => sortBy ds ws) M).sat Q := by simp only [evE, sat_bind]
theorem q_sortvM (a : Ex) : (evE G C C1 (.sortvM a) σ M).sat Q ↔ (evE G C C1 a σ M).sat fun x M => (newL ((valsOf x M).bind fun ws => (mapO (keyOf G kday M) ws).bind fun ds => sortMix ds ws) M).sat Q := by simp only [evE, sat_bind]
theorem q_sortm (a : Ex) : (evE G C C1 (.sortm a) σ M).sat Q ↔ (evE G C C1 a σ M).sat fun x M => (newL ((lstOf x M).bind fun ws => (mapO (rnkOf G M) ws).bind fun ds => sortBy ds ws) M).sat Q := by simp only [evE, sat_bind]
theorem q_maxk (a : Ex) : (evE G C C1 (.maxk a) σ M).sat Q ↔ (evE G C C1 a σ M).sat fun x M => (Out.ofO ((lstOf x M).bind fun ws => (mapO (keyOf G kday M) ws).bind fun ds => maxBy ds ws) M).sat Q := by simp only [evE, sat_bind]
theorem q_sortv (a : Ex) (k : Ke) : (evE G C C1 (.sortv a k) σ M).sat Q ↔ (evE G C C1 a σ M).sat fun x M => (newL ((valsOf x M).bind fun ws => (mapO (keyOf G k M) ws).bind fun ds => sortBy ds ws) M).sat Q := by simp only [evE, sat_bind]
theorem q_dict2 (k1 : Str) (v1 : Int) (k2 : Str) (v2 : Int) : (evE G C C1 (.dict2 k1 v1 k2 v2) σ M).sat Q ↔ decide (k1 ≠ k2) = true ∧ Q (.ref M.length) (M ++ [.dct false [(.str k1, .int v1), (.str k2, .int v2)]]) := by simp only [evE, sat_chk, sat_ok]
theorem q_anil : (evL G C C1 .nil σ M).sat QL ↔ QL [] M := by simp only [evL, sat_ok]
theorem q_acons (e : Ex) (es : El) : (evL G C C1 (.cons e es) σ M).sat QL ↔ (evE G C C1 e σ M).sat fun w M => (evL G C C1 es σ M).sat fun ws M => QL (w :: ws) M := by simp only [evL, sat_bind, sat_ok]
theorem q_ival (e : Ex) : (evI G C C1 (.val e) σ M).sat QI ↔ (evE G C C1 e σ M).sat fun x M => (Out.ofO (walkV G x M) M).sat QI := by simp only [evI, sat_bind]
theorem q_items (e : Ex) : (evI G C C1 (.items e) σ M).sat QI ↔ (evE G C C1 e σ M).sat fun x M => (Out.ofO (itmW x M) M).sat fun r M => QI (r.1.map fun p => .tup [p.1, p.2], r.2) M := by simp only [evI, sat_bind, sat_ok]
theorem q_vals (e : Ex) : (evI G C C1 (.vals e) σ M).sat QI ↔ (evE G C C1 e σ M).sat fun x M => (Out.ofO (itmW x M) M).sat fun r M => QI (r.1.map fun p => p.2, r.2) M := by simp only [evI, sat_bind, sat_ok]
theorem q_rng (a b : Ex) : (evI G C C1 (.rng a b) σ M).sat QI ↔ (evE G C C1 a σ M).sat fun x M => (evE G C C1 b σ M).sat fun y M => (Out.ofO (toI x) M).sat fun i M => (Out.ofO (toI y) M).sat fun j M => (rngOk i && rngOk j) = true ∧ QI (rngW i j, []) M := by
  simp only [evI, sat_bind]
  refine ⟨fun h => sat_mono h fun x M h => sat_mono h fun y M h => ?_, fun h => sat_mono h fun x M h => sat_mono h fun y M h => ?_⟩
  · cases ex : toI x with
    | none => rw [ex] at h; exact h.elim
    | some i =>
      cases ey : toI y with
      | none => rw [ex, ey] at h; exact h.elim
      | some j =>
        rw [ex, ey] at h
        rw [sat_chk] at h
        exact h
  · cases ex : toI x with
    | none => rw [ex] at h; exact h.elim
    | some i =>
      cases ey : toI y with
      | none => rw [ex, ey] at h; exact h.elim
      | some j =>
        rw [ex, ey] at h
        simp only [sat_chk]
        exact h
theorem o_add (i j : Int) : (binW .add (.int i) (.int j) M).sat Q ↔ Q (.int (i + j)) M := Iff.rfl
theorem o_sub (i j : Int) : (binW .sub (.int i) (.int j) M).sat Q ↔ Q (.int (i - j)) M := Iff.rfl
theorem o_mul (i j : Int) : (binW .mul (.int i) (.int j) M).sat Q ↔ mulOk i j = true ∧ Q (.int (i * j)) M := by simp only [binW, sat_chk, sat_ok]
theorem o_fdiv (i j : Int) : (binW .fdiv (.int i) (.int j) M).sat Q ↔ (decide (0 < j) && decide (j < 2 ^ 200)) = true ∧ Q (.int (i / j)) M := by simp only [binW, sat_chk, sat_ok]
theorem o_mod (i j : Int) : (binW .mod (.int i) (.int j) M).sat Q ↔ decide (0 < j) = true ∧ Q (.int (i % j)) M := by simp only [binW, sat_chk, sat_ok]
theorem o_pow18 : (binW .pow (.int 10) (.int 18) M).sat Q ↔ Q (.int 1000000000000000000) M := Iff.rfl
theorem o_addT (a b : List Wv) : (binW .add (.tup a) (.tup b) M).sat Q ↔ lenOk (a.length + b.length) = true ∧ Q (.tup (a ++ b)) M := by simp only [binW, sat_chk, sat_ok]
theorem o_addL (a b : Nat) (xs ys : List Wv) (ha : M[a]? = some (.lst xs)) (hb : M[b]? = some (.lst ys)) (hl : lenOk (xs.length + ys.length) = true) (h : Q (.ref M.length) (M ++ [.lst (xs ++ ys)])) : (binW .add (.ref a) (.ref b) M).sat Q := by
  simp only [binW, ha, hb, sat_chk, sat_ok]
  exact ⟨hl, h⟩
theorem ag_add (i j : Int) : (augW .add (.int i) (.int j) M).sat Q ↔ Q (.int (i + j)) M := Iff.rfl
theorem ag_sub (i j : Int) : (augW .sub (.int i) (.int j) M).sat Q ↔ Q (.int (i - j)) M := Iff.rfl
theorem c_lt (i j : Int) : (cmpW G .lt (.int i) (.int j) M).sat Q ↔ Q (.bl (decide (i < j))) M := Iff.rfl
theorem c_gt (i j : Int) : (cmpW G .gt (.int i) (.int j) M).sat Q ↔ Q (.bl (decide (j < i))) M := Iff.rfl
theorem c_le (i j : Int) : (cmpW G .le (.int i) (.int j) M).sat Q ↔ Q (.bl (decide (i ≤ j))) M := Iff.rfl
theorem c_ge (i j : Int) : (cmpW G .ge (.int i) (.int j) M).sat Q ↔ Q (.bl (decide (j ≤ i))) M := Iff.rfl
theorem c_eq (x y : Wv) : (cmpW G .eq x y M).sat Q ↔ ∃ b, eqW G x y M = some b ∧ Q (.bl b) M := by simp only [cmpW, sat_bind, sat_ofO, sat_ok]
theorem c_ne (x y : Wv) : (cmpW G .ne x y M).sat Q ↔ ∃ b, eqW G x y M = some b ∧ Q (.bl (!b)) M := by
  simp only [cmpW, sat_bind, sat_ofO, sat_ok, notO, Option.map_eq_some_iff]
  exact ⟨fun ⟨_, ⟨b, h, e⟩, q⟩ => ⟨b, h, e ▸ q⟩, fun ⟨b, h, q⟩ => ⟨_, ⟨b, h, rfl⟩, q⟩⟩
theorem c_is (x y : Wv) : (cmpW G .is_ x y M).sat Q ↔ ∃ b, isW x y = some b ∧ Q (.bl b) M := by simp only [cmpW, sat_bind, sat_ofO, sat_ok]
theorem c_isn (x y : Wv) : (cmpW G .isn x y M).sat Q ↔ ∃ b, isW x y = some b ∧ Q (.bl (!b)) M := by
  simp only [cmpW, sat_bind, sat_ofO, sat_ok, notO, Option.map_eq_some_iff]
  exact ⟨fun ⟨_, ⟨b, h, e⟩, q⟩ => ⟨b, h, e ▸ q⟩, fun ⟨b, h, q⟩ => ⟨_, ⟨b, h, rfl⟩, q⟩⟩
theorem c_in (x y : Wv) : (cmpW G .in_ x y M).sat Q ↔ ∃ b, inW G x y M = some b ∧ Q (.bl b) M := by simp only [cmpW, sat_bind, sat_ofO, sat_ok]
theorem c_nin (x y : Wv) : (cmpW G .nin x y M).sat Q ↔ ∃ b, inW G x y M = some b ∧ Q (.bl (!b)) M := by
  simp only [cmpW, sat_bind, sat_ofO, sat_ok, notO, Option.map_eq_some_iff]
  exact ⟨fun ⟨_, ⟨b, h, e⟩, q⟩ => ⟨b, h, e ▸ q⟩, fun ⟨b, h, q⟩ => ⟨_, ⟨b, h, rfl⟩, q⟩⟩
theorem u_tup (ws : List Wv) (j : Int) : (subW G (.tup ws) (.int j) M).sat Q ↔ (Out.ofO (atI ws j) M).sat Q := Iff.rfl
theorem u_scr (j : Int) : (subW G .scr (.int j) M).sat Q ↔ ∃ i, atI G.S j = some i ∧ Q (.int i) M := by
  show (Out.ofO ((atI G.S j).map .int) M).sat Q ↔ _
  simp only [sat_ofO, Option.map_eq_some_iff]
  exact ⟨fun ⟨_, ⟨b, h, e⟩, q⟩ => ⟨b, h, e ▸ q⟩, fun ⟨b, h, q⟩ => ⟨_, ⟨b, h, rfl⟩, q⟩⟩
theorem n_scr : (biW G .len [.scr] M).sat Q ↔ Q (.int G.S.length) M := Iff.rfl
theorem n_tup (ws : List Wv) : (biW G .len [.tup ws] M).sat Q ↔ Q (.int ws.length) M := Iff.rfl
theorem n_str (s : Str) : (biW G .len [.str s] M).sat Q ↔ lenOk s.length = true ∧ Q (.int s.length) M := by simp only [biW, sat_chk, sat_ok]
theorem n_abs (i : Int) : (biW G .abs [.int i] M).sat Q ↔ Q (.int (if i < 0 then -i else i)) M := Iff.rfl
theorem n_min2 (i j : Int) : (biW G .min [.int i, .int j] M).sat Q ↔ Q (.int (if j < i then j else i)) M := Iff.rfl
theorem n_min3 (i j k : Int) : (biW G .min [.int i, .int j, .int k] M).sat Q ↔ Q (.int (if k < (if j < i then j else i) then k else (if j < i then j else i))) M := Iff.rfl
theorem n_max2 (i j : Int) : (biW G .max [.int i, .int j] M).sat Q ↔ Q (.int (if j > i then j else i)) M := Iff.rfl
theorem n_lenL (l : Nat) (ws : List Wv) (h : M[l]? = some (.lst ws)) : biW G .len [.ref l] M = .ok (.int ws.length) M := by
  simp only [biW, h]
theorem tg_nm (i : Nat) (w : Wv) : tgW (.nm i) w σ = some (σ.set i (some w)) := rfl
theorem i_int (i : Int) : toI (.int i) = some i := rfl
end
end MP
end
section
set_option Elab.async false
set_option linter.all false
set_option maxRecDepth 100000
namespace MP
open PySem PySem.W
section
variable {G : Pg} {M : Mem} {S : List Int} {n : Nat}
theorem toDs_map {α : Type} {f : α → Wv} {g : α → PyData} : ∀ {xs : List α}, (∀ x ∈ xs, toD S M n (f x) = some (g x)) → toDs S M n (xs.map f) = some (xs.map g)
  | [], _ => by simp only [List.map_nil, toDs]
  | x :: xs, h => by
    simp only [List.map_cons, toDs]
    rw [h x (List.mem_cons_self ..), toDs_map fun y hy => h y (List.mem_cons_of_mem _ hy)]
theorem mapO_map {α β γ : Type} {f : α → β} {g : β → Option γ} {h : α → γ} : ∀ {xs : List α}, (∀ x ∈ xs, g (f x) = some (h x)) → mapO g (xs.map f) = some (xs.map h)
  | [], _ => rfl
  | x :: xs, e => by
    simp only [List.map_cons, mapO]
    rw [e x (List.mem_cons_self ..), mapO_map fun y hy => e y (List.mem_cons_of_mem _ hy)]
theorem toD_lst {l : Nat} {ws : List Wv} {ds : List PyData} (h : M[l]? = some (.lst ws)) (e : toDs S M n ws = some ds) : toD S M (n + 1) (.ref l) = some (.list ds) := by
  simp only [toD, h, e, Option.map_some]
theorem canLayAll_map {α : Type} {g : α → PyData} : ∀ {xs : List α}, (∀ x ∈ xs, (g x).canLay0 = true) → PyData.canLayAll0 (xs.map g) = true
  | [], _ => by simp only [List.map_nil, PyData.canLayAll0]
  | x :: xs, h => by
    simp only [List.map_cons, PyData.canLayAll0]
    rw [h x (List.mem_cons_self ..), canLayAll_map fun y hy => h y (List.mem_cons_of_mem _ hy)]
    rfl
theorem depthAll_map {α : Type} {g : α → PyData} {d : Nat} : ∀ {xs : List α}, (∀ x ∈ xs, (g x).depth ≤ d) → PyData.depthAll (xs.map g) ≤ d
  | [], _ => by simp only [List.map_nil, PyData.depthAll]; exact Nat.zero_le _
  | x :: xs, h => by
    simp only [List.map_cons, PyData.depthAll]
    exact Nat.max_le.mpr ⟨h x (List.mem_cons_self ..), depthAll_map fun y hy => h y (List.mem_cons_of_mem _ hy)⟩
theorem shaped_lst {α : Type} {g : α → PyData} {d : Nat} {xs : List α} (hd : d < 64) (h : ∀ x ∈ xs, (g x).canLay0 = true ∧ (g x).depth ≤ d) : SeqAt.shaped (.list (xs.map g)) = true := by
  unfold SeqAt.shaped
  rw [Bool.and_eq_true]
  refine ⟨?_, decide_eq_true ?_⟩
  · simp only [PyData.canLay0]
    exact canLayAll_map fun x hx => (h x hx).1
  · simp only [PyData.depth]
    have := depthAll_map (g := g) (d := d) (xs := xs) fun x hx => (h x hx).2
    omega
theorem eqW_same {x y : Wv} {d : PyData} (hx : toD G.S M deepD x = some d) (hy : toD G.S M deepD y = some d) (hs : SeqAt.shaped d = true) : eqW G x y M = some true := by
  unfold eqW
  rw [hx, hy]
  simp only [hs, Bool.and_self, if_true]
  have : d.canLay0 = true := by
    unfold SeqAt.shaped at hs
    rw [Bool.and_eq_true] at hs
    exact hs.1
  rw [SeqAt.eqv_refl d this]
theorem eqW_of {x y : Wv} {d e : PyData} (hx : toD G.S M deepD x = some d) (hy : toD G.S M deepD y = some e) (hs : SeqAt.shaped d = true) (ht : SeqAt.shaped e = true) : eqW G x y M = some (PyData.eqv d e) := by
  unfold eqW
  rw [hx, hy]
  simp only [hs, ht, Bool.and_self, if_true]
theorem eqW_nil {x : Wv} {l : Nat} {ds : List PyData} (hx : toD G.S M deepD x = some (.list ds)) (hl : M[l]? = some (.lst [])) (hs : SeqAt.shaped (.list ds) = true) : eqW G x (.ref l) M = some ds.isEmpty := by
  rw [eqW_of (e := .list []) hx (toD_lst (n := 11) hl (by simp only [toDs])) hs (by decide)]
  cases ds <;> rfl
theorem eqW_scr {l : Nat} (hl : M[l]? = some (.lst [])) : eqW G .scr (.ref l) M = some G.S.isEmpty := by
  have h1 : toD G.S M deepD .scr = some (.list (G.S.map .int)) := by simp only [deepD, toD]
  rw [eqW_nil h1 hl (shaped_lst (d := 0) (by omega) fun x _ => ⟨rfl, Nat.le_refl _⟩)]
  simp
theorem eqW_int (i j : Int) : eqW G (.int i) (.int j) M = some (decide (i = j)) := by
  have : PyData.eqv (.int i) (.int j) = decide (i = j) := by simp [PyData.eqv]; rfl
  rw [eqW_of (d := .int i) (e := .int j) (by simp only [deepD, toD]) (by simp only [deepD, toD]) rfl rfl, this]
theorem eqW_str {i j : Str} (hi : SeqAt.shaped (.str i) = true) (hj : SeqAt.shaped (.str j) = true) : eqW G (.str i) (.str j) M = some (decide (i = j)) := by
  have : PyData.eqv (.str i) (.str j) = decide (i = j) := by
    simp only [PyData.eqv]
    by_cases h : i = j
    · subst h; simp
    · simp [h]
  rw [eqW_of (d := .str i) (e := .str j) (by simp only [deepD, toD]) (by simp only [deepD, toD]) hi hj, this]
theorem tg_2 {σ : Sw} (i j : Nat) (a b : Wv) : tgW (.tup [i, j]) (.tup [a, b]) σ = some ((σ.set i (some a)).set j (some b)) := rfl
theorem tg_3 {σ : Sw} (i j k : Nat) (a b c : Wv) : tgW (.tup [i, j, k]) (.tup [a, b, c]) σ = some (((σ.set i (some a)).set j (some b)).set k (some c)) := rfl
theorem at_0 {α : Type} (x : α) (xs : List α) : atI (x :: xs) 0 = some x := rfl
theorem at_1 {α : Type} (x y : α) (xs : List α) : atI (x :: y :: xs) 1 = some y := rfl
theorem at_2 {α : Type} (x y z : α) (xs : List α) : atI (x :: y :: z :: xs) 2 = some z := rfl
theorem at_3 {α : Type} (x y z u : α) (xs : List α) : atI (x :: y :: z :: u :: xs) 3 = some u := rfl
theorem at_4 {α : Type} (x y z u v : α) (xs : List α) : atI (x :: y :: z :: u :: v :: xs) 4 = some v := rfl
theorem mul_l {i j : Int} (h : i.natAbs < 2 ^ 62) : mulOk i j = true := by unfold mulOk; rw [decide_eq_true h]; rfl
theorem mul_r {i j : Int} (h : j.natAbs < 2 ^ 62) : mulOk i j = true := by unfold mulOk; rw [decide_eq_true h, Bool.or_true]
theorem len_ok {n : Nat} (h : n ≤ sizeLine) : lenOk n = true := decide_eq_true h
theorem at_nat {α : Type} {xs : List α} {i : Nat} {x : α} (h : xs[i]? = some x) : atI xs (i : Int) = some x := by
  unfold atI
  rw [if_pos (by omega)]
  simpa using h
end
end MP
end
section
set_option Elab.async false
set_option linter.all false
set_option maxRecDepth 100000
namespace MP
open PySem PySem.W
section
variable {G : Pg} {M : Mem}
def addK (g : List Wv) (k : Wv) : List Wv := if k ∈ g then g else g ++ [k]
def sets (g : List Wv) : List (Wv × Wv) := g.map fun x => (x, .bl true)
theorem dput_sets (g : List Wv) (k : Wv) : dput (sets g) k (.bl true) = sets (addK g k) := by
  unfold sets addK
  induction g with
  | nil => rfl
  | cons x g ih =>
    simp only [List.map_cons, dput]
    by_cases h : x = k
    · subst h; simp
    · rw [if_neg h, ih]
      have h2 : ¬ k = x := fun e => h e.symm
      by_cases hm : k ∈ g
      · simp [hm, h2]
      · simp [hm, h2]
theorem dget_sets (g : List Wv) (k : Wv) : (dget (sets g) k).isSome = decide (k ∈ g) := by
  unfold sets
  induction g with
  | nil => rfl
  | cons x g ih =>
    simp only [List.map_cons, dget]
    by_cases h : x = k
    · subst h; simp
    · rw [if_neg h, ih]
      have h2 : ¬ k = x := fun e => h e.symm
      simp [h2]
theorem sets_len (g : List Wv) : (sets g).length = g.length := by unfold sets; simp
theorem sets_keys (g : List Wv) : (sets g).map (·.1) = g := by unfold sets; simp [List.map_map, Function.comp_def]
theorem keyOk_T {kvs : List (Wv × Wv)} {k : Wv} (h : keyT k = true) (hk : ∀ p ∈ kvs, keyT p.1 = true) : keyOk kvs k = true := by
  unfold keyOk
  rw [h, List.all_eq_true.mpr hk]
  simp
theorem keyOk_sets {g : List Wv} {k : Wv} (h : keyT k = true) (hk : ∀ x ∈ g, keyT x = true) : keyOk (sets g) k = true := by
  refine keyOk_T h fun p hp => ?_
  unfold sets at hp
  obtain ⟨x, hx, rfl⟩ := List.mem_map.mp hp
  exact hk x hx
theorem addK_mem {g : List Wv} {k x : Wv} (h : x ∈ addK g k) : x ∈ g ∨ x = k := by
  unfold addK at h
  split at h
  · exact .inl h
  · rcases List.mem_append.mp h with h | h
    · exact .inl h
    · exact .inr (List.mem_singleton.mp h)
theorem addK_len (g : List Wv) (k : Wv) : (addK g k).length ≤ g.length + 1 := by
  unfold addK
  split
  · omega
  · simp
def keysOf (ws : List Wv) : List Wv := ws.foldl addK []
theorem dputs_sets (g ws : List Wv) : dputs (sets g) (ws.map fun x => (x, .bl true)) = sets (ws.foldl addK g) := by
  induction ws generalizing g with
  | nil => rfl
  | cons x ws ih => simp only [List.map_cons, dputs, List.foldl_cons, dput_sets, ih]
theorem foldl_addK_mem {g ws : List Wv} {x : Wv} (h : x ∈ ws.foldl addK g) : x ∈ g ∨ x ∈ ws := by
  induction ws generalizing g with
  | nil => exact .inl h
  | cons y ws ih =>
    rcases ih h with h | h
    · rcases addK_mem h with h | h
      · exact .inl h
      · exact .inr (h ▸ List.mem_cons_self ..)
    · exact .inr (List.mem_cons_of_mem _ h)
theorem foldl_addK_len (g ws : List Wv) : (ws.foldl addK g).length ≤ g.length + ws.length := by
  induction ws generalizing g with
  | nil => simp
  | cons y ws ih =>
    have := ih (addK g y)
    have := addK_len g y
    simp only [List.foldl_cons, List.length_cons]
    omega
theorem set_self {α : Type} {M : List α} {l : Nat} {o : α} (h : M[l]? = some o) : M.set l o = M := by
  refine List.ext_getElem? fun i => ?_
  rw [List.getElem?_set]
  split
  · rename_i e
    subst e
    rw [if_pos (List.getElem?_eq_some_iff.mp h).1, h]
  · rfl
theorem unlk_lock {l : Nat} {kvs : List (Wv × Wv)} (h : M[l]? = some (.dct false kvs)) : unlkM [(l, .dct false kvs)] (lockM [(l, .dct false kvs)] M) = M := by
  simp only [unlkM, lockM, List.set_set]
  exact set_self h
theorem pre_unlk {M M' : Mem} {l : Nat} {kvs : List (Wv × Wv)} (h : M[l]? = some (.dct false kvs)) (hp : M.set l (.dct true kvs) <+: M') : M <+: M'.set l (.dct false kvs) := by
  obtain ⟨L, rfl⟩ := hp
  have hl : l < M.length := (List.getElem?_eq_some_iff.mp h).1
  rw [List.set_append_left _ _ (by simpa using hl), List.set_set, set_self h]
  exact List.prefix_append _ _
end
end MP
namespace MP
open PySem PySem.W
section
variable {G : Pg} {M : Mem}
theorem walk_lst {l : Nat} {ws : List Wv} (h : M[l]? = some (.lst ws)) : walkV G (.ref l) M = some (ws, [(l, .lst ws)]) := by simp only [walkV, h]
theorem walk_dct {l : Nat} {z : Bool} {kvs : List (Wv × Wv)} (h : M[l]? = some (.dct z kvs)) : walkV G (.ref l) M = some (kvs.map (·.1), [(l, .dct z kvs)]) := by simp only [walkV, h]
theorem stays_lst {l : Nat} {ws : List Wv} (h : M[l]? = some (.lst ws)) : stays [(l, .lst ws)] M = true := by
  unfold stays
  simp [h]
theorem lock_lst (l : Nat) (ws : List Wv) : lockM [(l, .lst ws)] M = M := rfl
theorem unlk_lst (l : Nat) (ws : List Wv) : unlkM [(l, .lst ws)] M = M := rfl
theorem lc_done {t : Tg} {c e : Sw → Mem → Out Wv} {ps : List (Nat × Ob)} {xs ws : List Wv} {σ : Sw} {Q : Wv → Mem → Prop} (h : lcGo G t c e ps xs σ [] (lockM ps M) = .ok ws (lockM ps M)) (hu : unlkM ps (lockM ps M) = M) (q : Q (.ref M.length) (M ++ [.lst ws])) :
    (lcGo G t c e ps xs σ [] (lockM ps M)).sat fun ws M => Q (.ref (unlkM ps M).length) (unlkM ps M ++ [.lst ws]) := by
  rw [h]
  show Q (.ref (unlkM ps (lockM ps M)).length) (unlkM ps (lockM ps M) ++ [.lst ws])
  rw [hu]
  exact q
theorem n_listD {l : Nat} {z : Bool} {kvs : List (Wv × Wv)} (h : M[l]? = some (.dct z kvs)) (hl : kvs.length ≤ sizeLine) : biW G .list [.ref l] M = .ok (.ref M.length) (M ++ [.lst (kvs.map (·.1))]) := by
  simp only [biW, itemsOf, h, newL, List.length_map, len_ok hl, Out.chk]
theorem bm_append {l : Nat} {ws : List Wv} {y : Wv} (h : M[l]? = some (.lst ws)) (hl : ws.length + 1 ≤ sizeLine) : bmW .append (.ref l) [y] M = .ok .non (M.set l (.lst (ws ++ [y]))) := by
  simp only [bmW, h, len_ok hl, Out.chk]
theorem bmT_append {l : Nat} {ws : List Wv} (h : M[l]? = some (.lst ws)) : bmT .append (.ref l) M = true := by simp only [bmT, h]
theorem bmT_get {l : Nat} {z : Bool} {kvs : List (Wv × Wv)} (h : M[l]? = some (.dct z kvs)) : bmT .get (.ref l) M = true := by simp only [bmT, h]
theorem bm_get2 {l : Nat} {z : Bool} {kvs : List (Wv × Wv)} {k d : Wv} (h : M[l]? = some (.dct z kvs)) (hk : keyOk kvs k = true) : bmW .get (.ref l) [k, d] M = .ok ((dget kvs k).getD d) M := by
  simp only [bmW, h, hk, Out.chk]
theorem set_dct {l : Nat} {kvs : List (Wv × Wv)} {k v : Wv} (h : M[l]? = some (.dct false kvs)) (hk : keyOk kvs k = true) (hl : kvs.length + 1 ≤ sizeLine) : setW (.ref l) k v M = .ok () (M.set l (.dct false (dput kvs k v))) := by
  simp only [setW, h, hk, len_ok hl, Bool.and_self, Out.chk]
theorem in_dct {l : Nat} {z : Bool} {kvs : List (Wv × Wv)} {k : Wv} (h : M[l]? = some (.dct z kvs)) (hk : keyOk kvs k = true) : inW G k (.ref l) M = some (dget kvs k).isSome := by
  simp only [inW, h, hk, if_true]
theorem rev_lst {l : Nat} {ws : List Wv} (h : M[l]? = some (.lst ws)) : revW true (.ref l) M = .ok (.ref M.length) (M ++ [.lst ws.tail.reverse]) := by
  simp only [revW, h, if_true]
theorem sub_dct {l : Nat} {z : Bool} {kvs : List (Wv × Wv)} {k v : Wv} (h : M[l]? = some (.dct z kvs)) (hk : keyOk kvs k = true) (hv : dget kvs k = some v) : subW G (.ref l) k M = .ok v M := by
  simp only [subW, h, hk, hv, Out.chk, Out.ofO]
theorem sub_lst {l : Nat} {ws : List Wv} {j : Int} {v : Wv} (h : M[l]? = some (.lst ws)) (hv : atI ws j = some v) : subW G (.ref l) (.int j) M = .ok v M := by
  simp only [subW, h, hv, Out.ofO]
end
end MP
namespace MP
open PySem PySem.W
theorem for_step {t : Tg} {b : Sw → Mem → Out (Fl × Sw)} {ps : List (Nat × Ob)} {x : Wv} {xs : List Wv} {σ τ : Sw} {M : Mem} {Q : Fl × Sw → Mem → Prop} (hs : stays ps M = true) (ht : tgW t x σ = some τ)
    (h : (b τ M).sat fun r M2 => r.1 = .nx ∧ (forGo t b ps xs r.2 M2).sat Q) : (forGo t b ps (x :: xs) σ M).sat Q := by
  unfold forGo
  rw [sat_chk]
  refine ⟨hs, ?_⟩
  rw [ht]
  show Out.sat (Out.bind (b τ M) _) Q
  rw [sat_bind]
  refine sat_mono h fun r M2 ⟨h1, h2⟩ => ?_
  obtain ⟨f, σ2⟩ := r
  simp only at h1
  subst h1
  exact h2
theorem for_nil {t : Tg} {b : Sw → Mem → Out (Fl × Sw)} {ps : List (Nat × Ob)} {σ : Sw} {M : Mem} {Q : Fl × Sw → Mem → Prop} (hs : stays ps M = true) (h : Q (.nx, σ) M) : (forGo t b ps [] σ M).sat Q := by
  unfold forGo
  rw [sat_chk]
  exact ⟨hs, h⟩
end MP
end
section
set_option Elab.async false
set_option linter.all false
set_option maxRecDepth 100000
namespace MP
open PySem PySem.W
mutual
def dat : Wv → PyData
  | .non => .none
  | .int i => .int i
  | .str s => .str s
  | .tup ws => .tuple (dats ws)
  | .bl b => .bool b
  | .ref _ => .none
  | .scr => .none
def dats : List Wv → List PyData
  | [] => []
  | w :: ws => dat w :: dats ws
end
mutual
/-- pure, so deep -/
def pur : Nat → Wv → Bool
  | _, .non => true
  | _, .int _ => true
  | _, .str s => PyData.strOk s
  | n + 1, .tup ws => purs n ws
  | 0, .tup _ => false
  | _, .bl _ => false
  | _, .ref _ => false
  | _, .scr => false
def purs : Nat → List Wv → Bool
  | _, [] => true
  | n, w :: ws => pur n w && purs n ws
end
mutual
theorem toD_pur {S : List Int} {M : Mem} : ∀ {n m : Nat} {w : Wv}, pur n w = true → n ≤ m → toD S M m w = some (dat w)
  | _, _, .non, _, _ => by simp only [toD, dat]
  | _, _, .int _, _, _ => by simp only [toD, dat]
  | _, _, .str _, _, _ => by simp only [toD, dat]
  | 0, _, .tup _, h, _ => by simp [pur] at h
  | n + 1, 0, .tup _, _, h => by omega
  | n + 1, m + 1, .tup ws, h, hm => by
    simp only [pur] at h
    simp only [toD, dat, toDs_pur (n := n) (m := m) h (Nat.le_of_succ_le_succ hm), Option.map_some]
  | _, _, .bl _, h, _ => by simp [pur] at h
  | _, _, .ref _, h, _ => by simp [pur] at h
  | _, _, .scr, h, _ => by simp [pur] at h
theorem toDs_pur {S : List Int} {M : Mem} : ∀ {n m : Nat} {ws : List Wv}, purs n ws = true → n ≤ m → toDs S M m ws = some (dats ws)
  | _, _, [], _, _ => by simp only [toDs, dats]
  | n, m, w :: ws, h, hm => by
    simp only [purs, Bool.and_eq_true] at h
    simp only [toDs, dats, toD_pur h.1 hm, toDs_pur h.2 hm]
end
mutual
theorem ofD_dat : ∀ {n : Nat} {w : Wv}, pur n w = true → ofD (dat w) = some w
  | _, .non, _ => by simp only [ofD, dat]
  | _, .int _, _ => by simp only [ofD, dat]
  | _, .str _, _ => by simp only [ofD, dat]
  | 0, .tup _, h => by simp [pur] at h
  | n + 1, .tup ws, h => by
    simp only [pur] at h
    simp only [ofD, dat, ofDs_dats h, Option.map_some]
  | _, .bl _, h => by simp [pur] at h
  | _, .ref _, h => by simp [pur] at h
  | _, .scr, h => by simp [pur] at h
theorem ofDs_dats : ∀ {n : Nat} {ws : List Wv}, purs n ws = true → ofDs (dats ws) = some ws
  | _, [], _ => by simp only [ofDs, dats]
  | n, w :: ws, h => by
    simp only [purs, Bool.and_eq_true] at h
    simp only [ofDs, dats, ofD_dat h.1, ofDs_dats h.2]
end
mutual
theorem dat_depth : ∀ {n : Nat} {w : Wv}, pur n w = true → (dat w).depth ≤ n
  | _, .non, _ => by simp [dat, PyData.depth]
  | _, .int _, _ => by simp [dat, PyData.depth]
  | _, .str _, _ => by simp [dat, PyData.depth]
  | 0, .tup _, h => by simp [pur] at h
  | n + 1, .tup ws, h => by
    simp only [pur] at h
    simp only [dat, PyData.depth]
    have := dats_depth h
    omega
  | _, .bl _, h => by simp [pur] at h
  | _, .ref _, h => by simp [pur] at h
  | _, .scr, h => by simp [pur] at h
theorem dats_depth : ∀ {n : Nat} {ws : List Wv}, purs n ws = true → PyData.depthAll (dats ws) ≤ n
  | _, [], _ => by simp [dats, PyData.depthAll]
  | n, w :: ws, h => by
    simp only [purs, Bool.and_eq_true] at h
    simp only [dats, PyData.depthAll]
    exact Nat.max_le.mpr ⟨dat_depth h.1, dats_depth h.2⟩
end
mutual
theorem dat_lay : ∀ {n : Nat} {w : Wv}, pur n w = true → (dat w).canLay0 = true
  | _, .non, _ => by simp [dat, PyData.canLay0]
  | _, .int _, _ => by simp [dat, PyData.canLay0]
  | _, .str _, h => by simpa [dat, PyData.canLay0, pur] using h
  | 0, .tup _, h => by simp [pur] at h
  | n + 1, .tup ws, h => by
    simp only [pur] at h
    simp only [dat, PyData.canLay0]
    exact dats_lay h
  | _, .bl _, h => by simp [pur] at h
  | _, .ref _, h => by simp [pur] at h
  | _, .scr, h => by simp [pur] at h
theorem dats_lay : ∀ {n : Nat} {ws : List Wv}, purs n ws = true → PyData.canLayAll0 (dats ws) = true
  | _, [], _ => by simp [dats, PyData.canLayAll0]
  | n, w :: ws, h => by
    simp only [purs, Bool.and_eq_true] at h
    simp only [dats, PyData.canLayAll0, dat_lay h.1, dats_lay h.2, Bool.and_self]
end
mutual
theorem noL_dat : ∀ {n : Nat} {w : Wv}, pur n w = true → noL (dat w) = true
  | _, .non, _ => by simp [dat, noL]
  | _, .int _, _ => by simp [dat, noL]
  | _, .str _, h => by simp [dat, noL]
  | 0, .tup _, h => by simp [pur] at h
  | n + 1, .tup ws, h => by
    simp only [pur] at h
    simp only [dat, noL]
    exact noLs_dats h
  | _, .bl _, h => by simp [pur] at h
  | _, .ref _, h => by simp [pur] at h
  | _, .scr, h => by simp [pur] at h
theorem noLs_dats : ∀ {n : Nat} {ws : List Wv}, purs n ws = true → noLs (dats ws) = true
  | _, [], _ => by simp [dats, noLs]
  | n, w :: ws, h => by
    simp only [purs, Bool.and_eq_true] at h
    simp only [dats, noLs, noL_dat h.1, noLs_dats h.2, Bool.and_self]
end
mutual
theorem alike_dat : ∀ {n : Nat} {w : Wv}, pur n w = true → alike (dat w) (dat w) = true
  | _, .non, _ => by simp [dat, alike]
  | _, .int _, _ => by simp [dat, alike]
  | _, .str _, h => by simp [dat, alike]
  | 0, .tup _, h => by simp [pur] at h
  | n + 1, .tup ws, h => by
    simp only [pur] at h
    simp only [dat, alike]
    exact alikes_dats h
  | _, .bl _, h => by simp [pur] at h
  | _, .ref _, h => by simp [pur] at h
  | _, .scr, h => by simp [pur] at h
theorem alikes_dats : ∀ {n : Nat} {ws : List Wv}, purs n ws = true → alikeAll (dats ws) (dats ws) = true
  | _, [], _ => by simp [dats, alikeAll]
  | n, w :: ws, h => by
    simp only [purs, Bool.and_eq_true] at h
    simp only [dats, alikeAll, alike_dat h.1, alikes_dats h.2, Bool.and_self]
end
mutual
theorem eqv_dat : ∀ {n m : Nat} {v w : Wv}, pur n v = true → pur m w = true → PyData.eqv (dat v) (dat w) = decide (v = w)
  | _, _, .non, .non, _, _ => by simp [dat, PyData.eqv]
  | _, _, .int i, .int j, _, _ => by
    simp only [dat, PyData.eqv, Wv.int.injEq]
    by_cases h : i = j
    · subst h; simp
    · simp [h]
  | _, _, .str i, .str j, _, _ => by
    simp only [dat, PyData.eqv, Wv.str.injEq]
    by_cases h : i = j
    · subst h; simp
    · simp [h]
  | n + 1, m + 1, .tup vs, .tup ws, h1, h2 => by
    simp only [pur] at h1 h2
    simp only [dat, PyData.eqv, eqvs_dats h1 h2, Wv.tup.injEq]
  | 0, _, .tup _, _, h, _ => by simp [pur] at h
  | _, 0, _, .tup _, _, h => by simp [pur] at h
  | _, _, .non, .int _, _, _ => by simp [dat, PyData.eqv]
  | _, _, .non, .str _, _, _ => by simp [dat, PyData.eqv]
  | _, _, .non, .tup _, _, _ => by simp [dat, PyData.eqv]
  | _, _, .int _, .non, _, _ => by simp [dat, PyData.eqv]
  | _, _, .int _, .str _, _, _ => by simp [dat, PyData.eqv]
  | _, _, .int _, .tup _, _, _ => by simp [dat, PyData.eqv]
  | _, _, .str _, .non, _, _ => by simp [dat, PyData.eqv]
  | _, _, .str _, .int _, _, _ => by simp [dat, PyData.eqv]
  | _, _, .str _, .tup _, _, _ => by simp [dat, PyData.eqv]
  | _, _, .tup _, .non, _, _ => by simp [dat, PyData.eqv]
  | _, _, .tup _, .int _, _, _ => by simp [dat, PyData.eqv]
  | _, _, .tup _, .str _, _, _ => by simp [dat, PyData.eqv]
  | _, _, .bl _, _, h, _ => by simp [pur] at h
  | _, _, .ref _, _, h, _ => by simp [pur] at h
  | _, _, .scr, _, h, _ => by simp [pur] at h
  | _, _, _, .bl _, _, h => by simp [pur] at h
  | _, _, _, .ref _, _, h => by simp [pur] at h
  | _, _, _, .scr, _, h => by simp [pur] at h
theorem eqvs_dats : ∀ {n m : Nat} {vs ws : List Wv}, purs n vs = true → purs m ws = true → PyData.eqvAll (dats vs) (dats ws) = decide (vs = ws)
  | _, _, [], [], _, _ => by simp [dats, PyData.eqvAll]
  | _, _, [], _ :: _, _, _ => by simp [dats, PyData.eqvAll]
  | _, _, _ :: _, [], _, _ => by simp [dats, PyData.eqvAll]
  | _, _, v :: vs, w :: ws, h1, h2 => by
    simp only [purs, Bool.and_eq_true] at h1 h2
    simp only [dats, PyData.eqvAll, eqv_dat h1.1 h2.1, eqvs_dats h1.2 h2.2, List.cons.injEq]
    by_cases h : v = w
    · subst h; simp
    · simp [h]
end
theorem shaped_dat {n : Nat} {w : Wv} (h : pur n w = true) (hn : n ≤ 64) : SeqAt.shaped (dat w) = true := by
  unfold SeqAt.shaped
  rw [Bool.and_eq_true]
  exact ⟨dat_lay h, decide_eq_true (Nat.le_trans (dat_depth h) hn)⟩
theorem eqW_pur {G : Pg} {M : Mem} {n m : Nat} {v w : Wv} (h1 : pur n v = true) (h2 : pur m w = true) (hn : n ≤ 12) (hm : m ≤ 12) : eqW G v w M = some (decide (v = w)) := by
  rw [eqW_of (toD_pur h1 hn) (toD_pur h2 hm) (shaped_dat h1 (by omega)) (shaped_dat h2 (by omega)), eqv_dat h1 h2]
end MP
end
section
set_option Elab.async false
set_option linter.all false
set_option maxRecDepth 100000
namespace MP
open PySem PySem.W
mutual
theorem pur_le : ∀ {n m : Nat} {w : Wv}, pur n w = true → n ≤ m → pur m w = true
  | _, _, .non, _, _ => by simp [pur]
  | _, _, .int _, _, _ => by simp [pur]
  | _, _, .str _, h, _ => by simpa [pur] using h
  | 0, _, .tup _, h, _ => by simp [pur] at h
  | n + 1, 0, .tup _, _, h => by omega
  | n + 1, m + 1, .tup ws, h, hm => by
    simp only [pur] at h ⊢
    exact purs_le h (Nat.le_of_succ_le_succ hm)
  | _, _, .bl _, h, _ => by simp [pur] at h
  | _, _, .ref _, h, _ => by simp [pur] at h
  | _, _, .scr, h, _ => by simp [pur] at h
theorem purs_le : ∀ {n m : Nat} {ws : List Wv}, purs n ws = true → n ≤ m → purs m ws = true
  | _, _, [], _, _ => by simp [purs]
  | n, m, w :: ws, h, hm => by
    simp only [purs, Bool.and_eq_true] at h ⊢
    exact ⟨pur_le h.1 hm, purs_le h.2 hm⟩
end
theorem alikeAllB_map {α : Type} {f : α → PyData} {xs : List α} (h : ∀ a ∈ xs, ∀ b ∈ xs, W.alike (f a) (f b) = true) : alikeAllB (xs.map f) = true := by
  unfold alikeAllB
  rw [List.all_eq_true]
  intro d hd
  rw [List.all_eq_true]
  intro e he
  obtain ⟨a, ha, rfl⟩ := List.mem_map.mp hd
  obtain ⟨b, hb, rfl⟩ := List.mem_map.mp he
  exact h a ha b hb
theorem sortableB_tup {α : Type} {f : α → PyData} {xs : List α} (h : ∀ a ∈ xs, ∃ d ds, f a = .tuple (d :: ds)) : sortableB (xs.map f) = true := by
  unfold sortableB
  rw [Bool.or_eq_true]
  refine .inl ?_
  rw [List.all_eq_true]
  intro d hd
  obtain ⟨a, ha, rfl⟩ := List.mem_map.mp hd
  obtain ⟨d, ds, e⟩ := h a ha
  rw [e]
theorem dcap_map {α : Type} {f : α → PyData} {xs : List α} (h : ∀ a ∈ xs, (f a).depth ≤ 32) : (xs.map f).all dcap = true := by
  rw [List.all_eq_true]
  intro d hd
  obtain ⟨a, ha, rfl⟩ := List.mem_map.mp hd
  exact decide_eq_true (h a ha)
end MP
end
section
set_option Elab.async false
set_option linter.all false
set_option maxRecDepth 100000
namespace MP
open PySem PySem.W
end MP
end
section
set_option Elab.async false
set_option linter.all false
set_option maxRecDepth 100000
namespace MP
open PySem PySem.W
section
variable {G : Pg} {C C1 : Nat → List Wv → Mem → Out Wv} {σ : Sw} {M : Mem} {Q : Wv → Mem → Prop} {QI : List Wv × List (Nat × Ob) → Mem → Prop}
theorem q_zip (a b : Ex) : (evI G C C1 (.zip a b) σ M).sat QI ↔ (evE G C C1 a σ M).sat fun x M => (evE G C C1 b σ M).sat fun y M => (Out.ofO (seqL x M) M).sat fun r M => (Out.ofO (seqL y M) M).sat fun q M => QI ((r.1.zip q.1).map fun p => .tup [p.1, p.2], r.2 ++ q.2) M := by simp only [evI, sat_bind, sat_ok]
theorem q_cntT (a b : Ex) : (evE G C C1 (.cntT a b) σ M).sat Q ↔ (evE G C C1 a σ M).sat fun x M => bmT .lcount x M = true ∧ (evE G C C1 b σ M).sat fun y M => (cntW G x y M).sat Q := by simp only [evE, sat_bind, sat_chk]
theorem q_tab (kvs : List (Str × Wv)) (a : Ex) : (evE G C C1 (.tab kvs a) σ M).sat Q ↔ (evE G C C1 a σ M).sat fun x M => (tabW kvs x M).sat Q := by simp only [evE, sat_bind]
theorem q_tnin (kvs : List (Str × Wv)) (a : Ex) : (evE G C C1 (.tnin kvs a) σ M).sat Q ↔ (evE G C C1 a σ M).sat fun x M => (tninW kvs x M).sat Q := by simp only [evE, sat_bind]
theorem q_zipT (a b : Ex) : (evI G C C1 (.zipT a b) σ M).sat QI ↔ (evE G C C1 a σ M).sat fun x M => (evE G C C1 b σ M).sat fun y M => (Out.ofO (zipTW x y) M).sat fun r M => QI (r, []) M := by simp only [evI, sat_bind, sat_ok]
end
end MP
end
section
set_option Elab.async false
set_option linter.all false
set_option maxRecDepth 100000
namespace MP
open PySem PySem.W
section
variable {G : Pg} {C C1 : Nat → List Wv → Mem → Out Wv} {σ : Sw} {M : Mem} {Q : Wv → Mem → Prop}
theorem q_lc2 (e : Ex) (t : Tg) (it : It) (t2 : Tg) (it2 : It) : (evE G C C1 (.lc2 e t it t2 it2) σ M).sat Q ↔ (evI G C C1 it σ M).sat fun r M => (lc2Go t (evI G C C1 it2) t2 (evE G C C1 e) (lockM r.2 M).length r.2 r.1 (wipeW σ (t.slots ++ t2.slots)) [] (lockM r.2 M ++ [.lst []])).sat fun pd M1 => Q (.ref (lockM r.2 M).length) (unlkM r.2 (unlkM pd M1)) := by
  simp only [evE, sat_bind, sat_noExc, sat_ok]
end
theorem unlk_app (ps pd : List (Nat × Ob)) (M : Mem) : unlkM (ps ++ pd) M = unlkM ps (unlkM pd M) := by
  induction ps with
  | nil => rfl
  | cons p r ih =>
    obtain ⟨l, o⟩ := p
    cases o with
    | lst ws => exact ih
    | ins c fs => exact ih
    | dct z kvs =>
      cases z with
      | true => exact ih
      | false => show (unlkM (r ++ pd) M).set l _ = (unlkM r (unlkM pd M)).set l _; rw [ih]
theorem unlk_set (pd : List (Nat × Ob)) (M : Mem) (l : Nat) (o o' : Ob) : (unlkM pd (M.set l o)).set l o' = (unlkM pd M).set l o' := by
  induction pd with
  | nil => show (M.set l o).set l o' = M.set l o'; rw [List.set_set]
  | cons p r ih =>
    obtain ⟨k, q⟩ := p
    cases q with
    | lst ws => exact ih
    | ins c fs => exact ih
    | dct z kvs =>
      cases z with
      | true => exact ih
      | false =>
        show ((unlkM r (M.set l o)).set k _).set l o' = ((unlkM r M).set k _).set l o'
        by_cases hk : k = l
        · subst hk; rw [List.set_set, List.set_set, ih]
        · rw [List.set_comm _ _ hk, ih, List.set_comm _ _ hk]
theorem unlk_far (pd : List (Nat × Ob)) (M : Mem) {n : Nat} (o : Ob) (h : ∀ p ∈ pd, p.1 < n) : unlkM pd (M.set n o) = (unlkM pd M).set n o := by
  induction pd with
  | nil => rfl
  | cons p r ih =>
    obtain ⟨k, q⟩ := p
    have ih := ih fun p hp => h p (List.mem_cons_of_mem _ hp)
    have hk : k < n := h _ (List.mem_cons_self ..)
    cases q with
    | lst ws => exact ih
    | ins c fs => exact ih
    | dct z kvs =>
      cases z with
      | true => exact ih
      | false =>
        show (unlkM r (M.set n o)).set k _ = ((unlkM r M).set k _).set n o
        rw [ih, List.set_comm _ _ (Nat.ne_of_gt hk)]
theorem set_same {M : Mem} {l : Nat} {o : Ob} (h : M[l]? = some o) : M.set l o = M := by
  apply List.ext_getElem?
  intro i
  by_cases hi : l = i
  · subst hi
    rw [List.getElem?_set_self (List.getElem?_eq_some_iff.mp h).1, h]
  · rw [List.getElem?_set_ne hi]
def Sm (M M' : Mem) : Prop := ∀ l < M.length, M'[l]? = M[l]? ∨ ∃ kvs, M[l]? = some (.dct false kvs) ∧ M'[l]? = some (.dct true kvs)
theorem Sm.lst {M M' : Mem} (h : Sm M M') {l : Nat} {ws : List Wv} (e : M[l]? = some (.lst ws)) : M'[l]? = some (.lst ws) := by
  rcases h l (List.getElem?_eq_some_iff.mp e).1 with z | ⟨kvs, z, _⟩
  · rw [z, e]
  · rw [e] at z; cases z
theorem Sm.ins {M M' : Mem} (h : Sm M M') {l : Nat} {c : Nat} {fs : List (Str × Wv)} (e : M[l]? = some (.ins c fs)) : M'[l]? = some (.ins c fs) := by
  rcases h l (List.getElem?_eq_some_iff.mp e).1 with z | ⟨kvs, z, _⟩
  · rw [z, e]
  · rw [e] at z; cases z
theorem Sm.dct {M M' : Mem} (h : Sm M M') {l : Nat} {z : Bool} {kvs : List (Wv × Wv)} (e : M[l]? = some (.dct z kvs)) : ∃ y, M'[l]? = some (.dct y kvs) := by
  rcases h l (List.getElem?_eq_some_iff.mp e).1 with q | ⟨k, q1, q2⟩
  · exact ⟨z, by rw [q, e]⟩
  · rw [e] at q1; cases q1; exact ⟨true, q2⟩
structure Lp (M : Mem) (pd : List (Nat × Ob)) (acc : List Wv) (M' : Mem) : Prop where
  len : M'.length = M.length + 1
  at_n : M'[M.length]? = some (.lst acc)
  sm : Sm M M'
  un : unlkM pd M' = M ++ [.lst acc]
  lt : ∀ p ∈ pd, p.1 < M.length
theorem Lp.put {M M' : Mem} {pd : List (Nat × Ob)} {acc : List Wv} (h : Lp M pd acc M') (y : Wv) : Lp M pd (acc ++ [y]) (M'.set M.length (.lst (acc ++ [y]))) := by
  refine ⟨by simp [h.len], List.getElem?_set_self (by rw [h.len]; omega), fun l hl => ?_, ?_, h.lt⟩
  · rw [List.getElem?_set_ne (Nat.ne_of_gt hl)]; exact h.sm l hl
  · rw [unlk_far _ _ _ h.lt, h.un]; simp
theorem Lp.lock {M M' : Mem} {pd : List (Nat × Ob)} {acc : List Wv} (h : Lp M pd acc M') {l : Nat} {kvs : List (Wv × Wv)} (hl : l < M.length) (e : M'[l]? = some (.dct false kvs)) : Lp M ([(l, .dct false kvs)] ++ pd) acc (lockM [(l, .dct false kvs)] M') := by
  have eM : M[l]? = some (.dct false kvs) := by
    rcases h.sm l hl with q | ⟨k, q1, q2⟩
    · rw [← q, e]
    · rw [e] at q2; cases q2
  refine ⟨by show (M'.set l _).length = _; simp [h.len], ?_, fun k hk => ?_, ?_, fun p hp => ?_⟩
  · show (M'.set l _)[M.length]? = _
    rw [List.getElem?_set_ne (Nat.ne_of_lt hl)]; exact h.at_n
  · show (M'.set l _)[k]? = _ ∨ ∃ kvs', _ ∧ (M'.set l _)[k]? = _
    by_cases hk2 : l = k
    · subst hk2
      exact .inr ⟨kvs, eM, List.getElem?_set_self (by rw [h.len]; omega)⟩
    · rw [List.getElem?_set_ne hk2]; exact h.sm k hk
  · show (unlkM pd (M'.set l _)).set l _ = _
    rw [unlk_set, h.un]
    exact set_same (by rw [List.getElem?_append_left hl]; exact eM)
  · rcases List.mem_append.mp hp with q | q
    · rw [List.mem_singleton.mp q]; exact hl
    · exact h.lt p q
theorem Lp.idle {M M' : Mem} {pd : List (Nat × Ob)} {acc : List Wv} (h : Lp M pd acc M') {l : Nat} {o : Ob} (hl : l < M.length) (e1 : ∀ M, lockM [(l, o)] M = M) (e2 : ∀ M, unlkM [(l, o)] M = M) : Lp M ([(l, o)] ++ pd) acc (lockM [(l, o)] M') := by
  rw [e1]
  exact ⟨h.len, h.at_n, h.sm, by rw [unlk_app, h.un, e2], fun p hp => by
    rcases List.mem_append.mp hp with q | q
    · rw [List.mem_singleton.mp q]; exact hl
    · exact h.lt p q⟩
section
variable {t t2 : Tg} {j : Sw → Mem → Out (List Wv × List (Nat × Ob))} {e : Sw → Mem → Out Wv} {ps : List (Nat × Ob)} {σ : Sw} {M : Mem}
end
end MP
end
section
set_option Elab.async false
set_option linter.all false
set_option maxRecDepth 100000
namespace MP
open PySem
section
variable {G : Pg} {C C1 : Nat → List Wv → Mem → Out Wv} {σ : Sw} {M : Mem} {Q : Wv → Mem → Prop}
end
end MP
end
section
set_option Elab.async false
set_option linter.all false
set_option maxRecDepth 100000
set_option maxHeartbeats 0
namespace Bh
open PySem PySem.Spec PyProof.Rows L2 MP
def ix__wall : Nat := 0
def ix_thing_of : Nat := 1
def ix_in_force : Nat := 2
def ix_deepness : Nat := 3
def ix_World___init__ : Nat := 4
def ix_World_of : Nat := 5
def ix_World_names : Nat := 6
def ix_World_last : Nat := 7
def ix_World_last_share : Nat := 8
def ix_World_last_of : Nat := 9
def ix_World_on_day : Nat := 10
def ix__law_drawn : Nat := 11
def ix__law_day : Nat := 12
def ix__law_place : Nat := 13
def ix__law_right : Nat := 14
def ix__law_base : Nat := 15
def ix__law_truth : Nat := 16
def ix__law_truths : Nat := 17
def ix__law_all_truths : Nat := 18
def ix__law_thing : Nat := 19
def ix__law_seen : Nat := 20
def ix_law : Nat := 21
def N0 : List Str := ["k"]
def ps0 : List Str := ["k"]
def sl__wall : MP.Sl := (.cons (.whl (.con (.bl true)) (.cons .pass
  .nil))
  .nil)
def df__wall : MP.Df := ⟨1, 1, [], sl__wall⟩
def N1 : List Str := ["truth"]
def ps1 : List Str := ["truth"]
def sl_thing_of : MP.Sl := (.cons (.ifs (.cmp .eq (.sub (.var 0) (.con (.int 0))) (.con (.str "share"))) (.cons (.ret (.tup (.cons (.sub (.var 0) (.con (.int 0))) (.cons (.sub (.var 0) (.con (.int 2))) (.cons (.sub (.var 0) (.con (.int 3))) .nil)))))
  .nil) .nil)
  (.cons (.ret (.ife (.cmp .eq (.sub (.var 0) (.con (.int 0))) (.con (.str "release"))) (.tup (.cons (.sub (.var 0) (.con (.int 0))) (.cons (.sub (.var 0) (.con (.int 2))) (.cons (.sub (.var 0) (.con (.int 3))) (.cons (.sub (.var 0) (.con (.int 4))) .nil))))) (.tup (.cons (.sub (.var 0) (.con (.int 0))) (.cons (.sub (.var 0) (.con (.int 2))) .nil)))))
  .nil))
def df_thing_of : MP.Df := ⟨1, 1, [], sl_thing_of⟩
def N2 : List Str := ["truths", "known", "depth", "layers", "gone", "layer", "void", "truth"]
def ps2 : List Str := ["truths"]
def sl_in_force : MP.Sl := (.cons (.asg (.nm 1) (.dc (.var 7) (.con (.bl true)) (.nm 7) (.val (.var 0)) (.con (.bl true))))
  (.cons (.asg (.nm 2) (.con (.int 0)))
  (.cons (.asg (.nm 3) (.lst (.cons (.bi .list (.cons (.var 1) .nil)) .nil)))
  (.cons (.whl (.cmp .lt (.var 2) (.glb "MOST_DEEP")) (.cons (.ex (.bm .append (.var 3) (.cons (.lc (.var 7) (.nm 7) (.val (.var 1)) (.cmp .eq (.call ix_deepness (.cons (.var 7) .nil) []) (.bin .add (.var 2) (.con (.int 1))))) .nil)))
  (.cons (.aug 2 .add (.con (.int 1)))
  .nil)))
  (.cons (.asg (.nm 4) .dict0)
  (.cons (.for_ (.nm 5) (.val (.srev true (.var 3))) (.cons (.for_ (.nm 6) (.val (.var 5)) (.cons (.ifs (.cmp .nin (.var 6) (.var 4)) (.cons (.asgS (.var 4) (.sub (.var 6) (.con (.int 1))) (.con (.bl true)))
  .nil) .nil)
  .nil))
  .nil))
  (.cons (.ret (.lc (.var 7) (.nm 7) (.val (.var 1)) (.and (.cmp .ne (.sub (.var 7) (.con (.int 0))) (.glb "VOID")) (.cmp .nin (.var 7) (.var 4)))))
  .nil)))))))
def df_in_force : MP.Df := ⟨8, 1, [], sl_in_force⟩
def N3 : List Str := ["truth", "found"]
def ps3 : List Str := ["truth"]
def sl_deepness : MP.Sl := (.cons (.asg (.nm 1) (.con (.int 0)))
  (.cons (.whl (.cmp .eq (.sub (.var 0) (.con (.int 0))) (.glb "VOID")) (.cons (.asg (.nm 0) (.sub (.var 0) (.con (.int 1))))
  (.cons (.aug 1 .add (.con (.int 1)))
  .nil)))
  (.cons (.ret (.var 1))
  .nil)))
def df_deepness : MP.Df := ⟨2, 1, [], sl_deepness⟩
def N4 : List Str := ["self", "truths", "found", "truth", "key", "thing", "day"]
def ps4 : List Str := ["self", "truths"]
def sl_World___init__ : MP.Sl := (.cons (.asg (.nm 2) .dict0)
  (.cons (.for_ (.nm 3) (.val (.call ix_in_force (.cons (.var 1) .nil) [])) (.cons (.asg (.nm 4) (.tup (.cons (.call ix_thing_of (.cons (.var 3) .nil) []) (.cons (.sub (.var 3) (.con (.int 1))) .nil))))
  (.cons (.asgS (.var 2) (.var 4) (.bi .max (.cons (.bm .get (.var 2) (.cons (.var 4) (.cons (.var 3) .nil))) (.cons (.var 3) .nil))))
  .nil)))
  (.cons (.asgA (.var 0) "rows" .dict0)
  (.cons (.for_ (.tup [5, 6]) (.val (.bi .sorted (.cons (.var 2) .nil))) (.cons (.asgS (.attr (.var 0) "rows") (.var 5) (.bin .add (.bm .get (.attr (.var 0) "rows") (.cons (.var 5) (.cons (.lst .nil) .nil))) (.lst (.cons (.sub (.var 2) (.tup (.cons (.var 5) (.cons (.var 6) .nil)))) .nil))))
  .nil))
  (.cons (.asgA (.var 0) "kept" .dict0)
  .nil)))))
def df_World___init__ : MP.Df := ⟨7, 2, [], sl_World___init__⟩
def N5 : List Str := ["self", "word", "name", "found", "thing", "rows"]
def ps5 : List Str := ["self", "word", "name"]
def sl_World_of : MP.Sl := (.cons (.asg (.nm 3) (.lst .nil))
  (.cons (.for_ (.tup [4, 5]) (.items (.attr (.var 0) "rows")) (.cons (.ifs (.and (.cmp .eq (.sub (.var 4) (.con (.int 0))) (.var 1)) (.cmp .in_ (.var 2) (.tup (.cons (.con .non) (.cons (.sub (.var 4) (.con (.int 1))) .nil))))) (.cons (.asg (.nm 3) (.bin .add (.var 3) (.var 5)))
  .nil) .nil)
  .nil))
  (.cons (.ret (.sortk (.var 3) (.tup (.sub .v 1) .v)))
  .nil)))
def df_World_of : MP.Df := ⟨6, 3, [.non], sl_World_of⟩
def N6 : List Str := ["self", "word", "found", "thing"]
def ps6 : List Str := ["self", "word"]
def sl_World_names : MP.Sl := (.cons (.asg (.nm 2) .dict0)
  (.cons (.for_ (.nm 3) (.val (.attr (.var 0) "rows")) (.cons (.ifs (.cmp .eq (.sub (.var 3) (.con (.int 0))) (.var 1)) (.cons (.asgS (.var 2) (.sub (.var 3) (.con (.int 1))) (.con (.bl true)))
  .nil) .nil)
  .nil))
  (.cons (.ret (.bi .sorted (.cons (.var 2) .nil)))
  .nil)))
def df_World_names : MP.Df := ⟨4, 2, [], sl_World_names⟩
def N7 : List Str := ["self", "word", "name", "day"]
def ps7 : List Str := ["self", "word", "name", "day"]
def sl_World_last : MP.Sl := (.cons (.ret (.meth "last_of" (.var 0) (.cons (.tup (.cons (.var 1) (.cons (.var 2) .nil))) (.cons (.var 3) .nil)) []))
  .nil)
def df_World_last : MP.Df := ⟨4, 4, [], sl_World_last⟩
def N8 : List Str := ["self", "place", "owner", "day"]
def ps8 : List Str := ["self", "place", "owner", "day"]
def sl_World_last_share : MP.Sl := (.cons (.ex (.call ix__wall (.cons (.con (.int 0)) .nil) []))
  .nil)
def df_World_last_share : MP.Df := ⟨4, 4, [], sl_World_last_share⟩
def N9 : List Str := ["self", "thing", "day", "found", "truth"]
def ps9 : List Str := ["self", "thing", "day"]
def sl_World_last_of : MP.Sl := (.cons (.asg (.nm 3) (.con .non))
  (.cons (.for_ (.nm 4) (.val (.bm .get (.attr (.var 0) "rows") (.cons (.var 1) (.cons (.lst .nil) .nil)))) (.cons (.ifs (.cmp .gt (.sub (.var 4) (.con (.int 1))) (.var 2)) (.cons (.ret (.var 3))
  .nil) .nil)
  (.cons (.asg (.nm 3) (.var 4))
  .nil)))
  (.cons (.ret (.var 3))
  .nil)))
def df_World_last_of : MP.Df := ⟨5, 3, [], sl_World_last_of⟩
def N10 : List Str := ["self", "word", "name", "day"]
def ps10 : List Str := ["self", "word", "name", "day"]
def sl_World_on_day : MP.Sl := (.cons (.ex (.call ix__wall (.cons (.con (.int 1)) .nil) []))
  .nil)
def df_World_on_day : MP.Df := ⟨4, 4, [], sl_World_on_day⟩
def N11 : List Str := ["script", "k", "many", "cell", "turn", "rest"]
def ps11 : List Str := ["script", "k", "many"]
def sl__law_drawn : MP.Sl := (.cons (.asg (.nm 3) (.bin .mul (.con (.int 7)) (.var 1)))
  (.cons (.ifs (.cmp .ne (.var 0) (.lst .nil)) (.cons (.asg (.nm 3) (.sub (.var 0) (.bin .mod (.var 1) (.bi .len (.cons (.var 0) .nil)))))
  (.cons (.asg (.nm 4) (.bin .fdiv (.var 1) (.bi .len (.cons (.var 0) .nil))))
  (.cons (.ifs (.and (.cmp .ge (.var 3) (.bin .pow (.con (.int 10)) (.con (.int 18)))) (.cmp .lt (.var 4) (.con (.int 60)))) (.cons (.asg (.nm 5) (.bin .fdiv (.var 3) (.bin .pow (.con (.int 10)) (.con (.int 18)))))
  (.cons (.whl (.and (.cmp .gt (.var 5) (.con (.int 0))) (.cmp .gt (.var 4) (.con (.int 0)))) (.cons (.asg (.nm 5) (.bin .fdiv (.var 5) (.con (.int 1000000))))
  (.cons (.asg (.nm 4) (.bin .sub (.var 4) (.con (.int 1))))
  .nil)))
  (.cons (.ifs (.cmp .gt (.var 5) (.con (.int 0))) (.cons (.ret (.bin .mod (.bin .mod (.var 5) (.con (.int 1000000))) (.var 2)))
  .nil) .nil)
  .nil))) .nil)
  (.cons (.asg (.nm 3) (.bin .add (.var 3) (.bin .mul (.con (.int 6553)) (.bin .fdiv (.var 1) (.bi .len (.cons (.var 0) .nil))))))
  .nil)))) .nil)
  (.cons (.asg (.nm 3) (.bin .mod (.bin .add (.bin .mul (.bin .mod (.var 3) (.con (.int 2147483563))) (.con (.int 69069))) (.bin .mul (.con (.int 104723)) (.bin .add (.var 1) (.con (.int 1))))) (.con (.int 2147483563))))
  (.cons (.asg (.nm 3) (.bin .mod (.bin .add (.bin .mul (.var 3) (.var 3)) (.bin .fdiv (.var 3) (.con (.int 3)))) (.con (.int 2147483399))))
  (.cons (.ret (.bin .mod (.bin .fdiv (.bin .mod (.bin .add (.bin .mul (.var 3) (.var 3)) (.bin .fdiv (.var 3) (.con (.int 7)))) (.con (.int 2147483647))) (.con (.int 11))) (.var 2)))
  .nil)))))
def df__law_drawn : MP.Df := ⟨6, 3, [], sl__law_drawn⟩
def N12 : List Str := ["script", "at"]
def ps12 : List Str := ["script", "at"]
def sl__law_day : MP.Sl := (.cons (.ret (.call ix__law_drawn (.cons (.var 0) (.cons (.var 1) (.cons (.con (.int 31)) .nil))) []))
  .nil)
def df__law_day : MP.Df := ⟨2, 2, [], sl__law_day⟩
def N13 : List Str := ["script", "at"]
def ps13 : List Str := ["script", "at"]
def sl__law_place : MP.Sl := (.cons (.ret (.sub (.con (.str "abcd")) (.call ix__law_drawn (.cons (.var 0) (.cons (.var 1) (.cons (.con (.int 4)) .nil))) [])))
  .nil)
def df__law_place : MP.Df := ⟨2, 2, [], sl__law_place⟩
def N14 : List Str := ["script", "at", "day", "name", "place", "owner", "rate", "most", "first", "last", "back"]
def ps14 : List Str := ["script", "at", "day"]
def sl__law_right : MP.Sl := (.cons (.asg (.tup [3, 4]) (.tup (.cons (.sub (.con (.str "rstv")) (.call ix__law_drawn (.cons (.var 0) (.cons (.var 1) (.cons (.con (.int 4)) .nil))) [])) (.cons (.call ix__law_place (.cons (.var 0) (.cons (.bin .add (.var 1) (.con (.int 1))) .nil)) []) .nil))))
  (.cons (.asg (.nm 5) (.sub (.con (.str "ow")) (.call ix__law_drawn (.cons (.var 0) (.cons (.bin .add (.var 1) (.con (.int 2))) (.cons (.con (.int 2)) .nil))) [])))
  (.cons (.asg (.tup [6, 7]) (.tup (.cons (.sub (.lst (.cons (.con (.int 3)) (.cons (.con (.int 10)) (.cons (.con (.int 40)) (.cons (.con (.int 9999)) .nil))))) (.call ix__law_drawn (.cons (.var 0) (.cons (.bin .add (.var 1) (.con (.int 3))) (.cons (.con (.int 4)) .nil))) [])) (.cons (.sub (.lst (.cons (.con (.int 5)) (.cons (.con (.int 60)) (.cons (.con (.int 999999)) .nil)))) (.call ix__law_drawn (.cons (.var 0) (.cons (.bin .add (.var 1) (.con (.int 4))) (.cons (.con (.int 3)) .nil))) [])) .nil))))
  (.cons (.asg (.tup [8, 9]) (.sub (.lst (.cons (.tup (.cons (.con (.int 0)) (.cons (.con (.int 364)) .nil))) (.cons (.tup (.cons (.con (.int 5)) (.cons (.con (.int 20)) .nil))) (.cons (.tup (.cons (.con (.int 300)) (.cons (.con (.int 12)) .nil))) .nil)))) (.call ix__law_drawn (.cons (.var 0) (.cons (.bin .add (.var 1) (.con (.int 5))) (.cons (.con (.int 3)) .nil))) [])))
  (.cons (.asg (.nm 10) (.sub (.lst (.cons (.tup (.cons (.con (.int 0)) (.cons (.con (.str "-")) (.cons (.con (.int 0)) .nil)))) (.cons (.tup (.cons (.con (.int 500)) (.cons (.con (.str "c")) (.cons (.con (.int 2)) .nil)))) (.cons (.tup (.cons (.con (.int 300)) (.cons (.con (.str "b")) (.cons (.con (.int 0)) .nil)))) .nil)))) (.call ix__law_drawn (.cons (.var 0) (.cons (.bin .add (.var 1) (.con (.int 6))) (.cons (.con (.int 3)) .nil))) [])))
  (.cons (.ret (.bin .add (.tup (.cons (.con (.str "right")) (.cons (.var 2) (.cons (.var 3) (.cons (.var 4) (.cons (.var 5) (.cons (.bin .add (.con (.int 1)) (.call ix__law_drawn (.cons (.var 0) (.cons (.bin .add (.var 1) (.con (.int 7))) (.cons (.con (.int 5)) .nil))) [])) (.cons (.var 6) (.cons (.var 7) (.cons (.var 8) (.cons (.var 9) .nil))))))))))) (.var 10)))
  .nil))))))
def df__law_right : MP.Df := ⟨11, 3, [], sl__law_right⟩
def N15 : List Str := ["script", "at", "travel", "loss", "found", "k"]
def ps15 : List Str := ["script", "at"]
def sl__law_base : MP.Sl := (.cons (.asg (.nm 2) (.lc (.bin .add (.con (.int 1)) (.call ix__law_drawn (.cons (.var 0) (.cons (.bin .add (.var 1) (.var 5)) (.cons (.con (.int 3)) .nil))) [])) (.nm 5) (.rng (.con (.int 0)) (.con (.int 4))) (.con (.bl true))))
  (.cons (.asg (.nm 3) (.lc (.sub (.lst (.cons (.con (.int 0)) (.cons (.con (.int 0)) (.cons (.con (.int 2)) (.cons (.con (.int 5)) .nil))))) (.call ix__law_drawn (.cons (.var 0) (.cons (.bin .add (.bin .add (.var 1) (.con (.int 4))) (.var 5)) (.cons (.con (.int 4)) .nil))) [])) (.nm 5) (.rng (.con (.int 0)) (.con (.int 4))) (.con (.bl true))))
  (.cons (.asg (.nm 4) (.lst (.cons (.tup (.cons (.con (.str "place")) (.cons (.con (.int 0)) (.cons (.con (.str "a")) (.cons (.con (.str "b")) (.cons (.sub (.var 2) (.con (.int 0))) (.cons (.sub (.var 3) (.con (.int 0))) .nil))))))) .nil)))
  (.cons (.asg (.nm 4) (.bin .add (.var 4) (.lst (.cons (.tup (.cons (.con (.str "place")) (.cons (.con (.int 0)) (.cons (.con (.str "b")) (.cons (.con (.str "c")) (.cons (.sub (.var 2) (.con (.int 1))) (.cons (.sub (.var 3) (.con (.int 1))) .nil))))))) .nil))))
  (.cons (.asg (.nm 4) (.bin .add (.var 4) (.lst (.cons (.tup (.cons (.con (.str "place")) (.cons (.con (.int 0)) (.cons (.con (.str "c")) (.cons (.con (.str "-")) (.cons (.sub (.var 2) (.con (.int 2))) (.cons (.sub (.var 3) (.con (.int 2))) .nil))))))) .nil))))
  (.cons (.asg (.nm 4) (.bin .add (.var 4) (.lst (.cons (.tup (.cons (.con (.str "place")) (.cons (.con (.int 0)) (.cons (.con (.str "d")) (.cons (.con (.str "c")) (.cons (.sub (.var 2) (.con (.int 3))) (.cons (.sub (.var 3) (.con (.int 3))) .nil))))))) .nil))))
  (.cons (.asg (.nm 4) (.bin .add (.var 4) (.lst (.cons (.tup (.cons (.con (.str "dam")) (.cons (.con (.int 0)) (.cons (.con (.str "b")) (.cons (.con (.int 100)) (.cons (.sub (.lst (.cons (.con (.int 0)) (.cons (.con (.int 20)) (.cons (.con (.int 100)) .nil)))) (.call ix__law_drawn (.cons (.var 0) (.cons (.bin .add (.var 1) (.con (.int 8))) (.cons (.con (.int 3)) .nil))) [])) .nil)))))) .nil))))
  (.cons (.asg (.nm 4) (.bin .add (.var 4) (.lst (.cons (.tup (.cons (.con (.str "share")) (.cons (.con (.int 0)) (.cons (.con (.str "b")) (.cons (.con (.str "o")) (.cons (.con (.int 60)) .nil)))))) .nil))))
  (.cons (.asg (.nm 4) (.bin .add (.var 4) (.lst (.cons (.tup (.cons (.con (.str "share")) (.cons (.con (.int 0)) (.cons (.con (.str "b")) (.cons (.con (.str "w")) (.cons (.sub (.lst (.cons (.con (.int 10)) (.cons (.con (.int 50)) .nil))) (.call ix__law_drawn (.cons (.var 0) (.cons (.bin .add (.var 1) (.con (.int 9))) (.cons (.con (.int 2)) .nil))) [])) .nil)))))) .nil))))
  (.cons (.ret (.bin .add (.var 4) (.lc (.call ix__law_right (.cons (.var 0) (.cons (.bin .add (.bin .add (.var 1) (.con (.int 10))) (.bin .mul (.con (.int 10)) (.var 5))) (.cons (.con (.int 0)) .nil))) []) (.nm 5) (.rng (.con (.int 0)) (.con (.int 3))) (.con (.bl true)))))
  .nil))))))))))
def df__law_base : MP.Df := ⟨6, 2, [], sl__law_base⟩
def N16 : List Str := ["script", "at", "day", "way", "amount", "right", "owner", "who", "until"]
def ps16 : List Str := ["script", "at"]
def sl__law_truth : MP.Sl := (.cons (.asg (.tup [2, 3]) (.tup (.cons (.call ix__law_day (.cons (.var 0) (.cons (.var 1) .nil)) []) (.cons (.call ix__law_drawn (.cons (.var 0) (.cons (.bin .add (.var 1) (.con (.int 1))) (.cons (.con (.int 16)) .nil))) []) .nil))))
  (.cons (.asg (.tup [4, 5]) (.tup (.cons (.sub (.lst (.cons (.con (.int 0)) (.cons (.con (.int 4)) (.cons (.con (.int 12)) (.cons (.con (.int 50)) .nil))))) (.call ix__law_drawn (.cons (.var 0) (.cons (.bin .add (.var 1) (.con (.int 2))) (.cons (.con (.int 4)) .nil))) [])) (.cons (.sub (.con (.str "rstv")) (.call ix__law_drawn (.cons (.var 0) (.cons (.bin .add (.var 1) (.con (.int 3))) (.cons (.con (.int 4)) .nil))) [])) .nil))))
  (.cons (.asg (.nm 6) (.sub (.con (.str "ow")) (.call ix__law_drawn (.cons (.var 0) (.cons (.bin .add (.var 1) (.con (.int 4))) (.cons (.con (.int 2)) .nil))) [])))
  (.cons (.ifs (.cmp .lt (.var 3) (.con (.int 6))) (.cons (.ret (.tup (.cons (.con (.str "read")) (.cons (.var 2) (.cons (.call ix__law_place (.cons (.var 0) (.cons (.bin .add (.var 1) (.con (.int 5))) .nil)) []) (.cons (.var 4) .nil))))))
  .nil) .nil)
  (.cons (.ifs (.cmp .lt (.var 3) (.con (.int 10))) (.cons (.ret (.tup (.cons (.con (.str "ask")) (.cons (.var 2) (.cons (.var 5) (.cons (.var 4) .nil))))))
  .nil) .nil)
  (.cons (.ifs (.cmp .eq (.var 3) (.con (.int 10))) (.cons (.ret (.tup (.cons (.con (.str "store")) (.cons (.var 2) (.cons (.var 5) .nil)))))
  .nil) .nil)
  (.cons (.ifs (.cmp .eq (.var 3) (.con (.int 11))) (.cons (.ret (.tup (.cons (.con (.str "release")) (.cons (.var 2) (.cons (.con (.str "b")) (.cons (.var 6) (.cons (.var 5) (.cons (.var 4) .nil))))))))
  .nil) .nil)
  (.cons (.ifs (.cmp .eq (.var 3) (.con (.int 12))) (.cons (.ret (.tup (.cons (.con (.str "sold")) (.cons (.var 2) (.cons (.var 5) (.cons (.var 6) .nil))))))
  .nil) .nil)
  (.cons (.ifs (.cmp .eq (.var 3) (.con (.int 13))) (.cons (.asg (.tup [7, 8]) (.tup (.cons (.sub (.con (.str "xy")) (.call ix__law_drawn (.cons (.var 0) (.cons (.bin .add (.var 1) (.con (.int 5))) (.cons (.con (.int 2)) .nil))) [])) (.cons (.bin .add (.var 2) (.call ix__law_drawn (.cons (.var 0) (.cons (.bin .add (.var 1) (.con (.int 6))) (.cons (.con (.int 12)) .nil))) [])) .nil))))
  (.cons (.ret (.tup (.cons (.con (.str "leased")) (.cons (.var 2) (.cons (.var 5) (.cons (.var 7) (.cons (.var 8) .nil)))))))
  .nil)) .nil)
  (.cons (.ifs (.cmp .eq (.var 3) (.con (.int 14))) (.cons (.ret (.tup (.cons (.con (.str "moved")) (.cons (.var 2) (.cons (.var 5) (.cons (.call ix__law_place (.cons (.var 0) (.cons (.bin .add (.var 1) (.con (.int 5))) .nil)) []) .nil))))))
  .nil) .nil)
  (.cons (.ret (.tup (.cons (.con (.str "share")) (.cons (.var 2) (.cons (.con (.str "b")) (.cons (.var 6) (.cons (.sub (.lst (.cons (.con (.int 0)) (.cons (.con (.int 20)) (.cons (.con (.int 80)) .nil)))) (.call ix__law_drawn (.cons (.var 0) (.cons (.bin .add (.var 1) (.con (.int 5))) (.cons (.con (.int 3)) .nil))) [])) .nil)))))))
  .nil)))))))))))
def df__law_truth : MP.Df := ⟨9, 2, [], sl__law_truth⟩
def N17 : List Str := ["script", "at", "many", "found", "k", "here", "truth"]
def ps17 : List Str := ["script", "at", "many"]
def sl__law_truths : MP.Sl := (.cons (.asg (.nm 3) (.lst .nil))
  (.cons (.for_ (.nm 4) (.rng (.con (.int 0)) (.var 2)) (.cons (.asg (.nm 5) (.bin .add (.var 1) (.bin .mul (.con (.int 9)) (.var 4))))
  (.cons (.ifs (.and (.cmp .eq (.call ix__law_drawn (.cons (.var 0) (.cons (.bin .add (.var 5) (.con (.int 8))) (.cons (.con (.int 8)) .nil))) []) (.con (.int 0))) (.cmp .ne (.var 3) (.lst .nil))) (.cons (.asg (.nm 6) (.sub (.var 3) (.call ix__law_drawn (.cons (.var 0) (.cons (.var 5) (.cons (.bi .len (.cons (.var 3) .nil)) .nil))) [])))
  (.cons (.ex (.bm .append (.var 3) (.cons (.ife (.cmp .lt (.bm .scount (.bi .str (.cons (.var 6) .nil)) (.cons (.con (.str "void")) .nil)) (.con (.int 3))) (.tup (.cons (.con (.str "void")) (.cons (.var 6) .nil))) (.var 6)) .nil)))
  .nil)) (.cons (.ex (.bm .append (.var 3) (.cons (.call ix__law_truth (.cons (.var 0) (.cons (.var 5) .nil)) []) .nil)))
  .nil))
  .nil)))
  (.cons (.ret (.var 3))
  .nil)))
def df__law_truths : MP.Df := ⟨7, 3, [], sl__law_truths⟩
def N18 : List Str := ["script", "at", "many"]
def ps18 : List Str := ["script", "at", "many"]
def sl__law_all_truths : MP.Sl := (.cons (.ret (.bin .add (.call ix__law_base (.cons (.var 0) (.cons (.var 1) .nil)) []) (.call ix__law_truths (.cons (.var 0) (.cons (.bin .add (.var 1) (.con (.int 60))) (.cons (.var 2) .nil))) [])))
  .nil)
def df__law_all_truths : MP.Df := ⟨3, 3, [], sl__law_all_truths⟩
def N19 : List Str := ["truth", "many"]
def ps19 : List Str := ["truth"]
def sl__law_thing : MP.Sl := (.cons (.asg (.nm 1) (.bm .get (.dict2 "share" 4 "release" 5) (.cons (.sub (.var 0) (.con (.int 0))) (.cons (.con (.int 3)) .nil))))
  (.cons (.ret (.bin .add (.slc (.var 0) .no (.con (.int 1))) (.slc (.var 0) (.con (.int 2)) (.var 1))))
  .nil))
def df__law_thing : MP.Df := ⟨2, 1, [], sl__law_thing⟩
def N20 : List Str := ["world", "found", "word"]
def ps20 : List Str := ["world"]
def sl__law_seen : MP.Sl := (.cons (.asg (.nm 1) (.lst .nil))
  (.cons (.for_ (.nm 2) (.val (.tup (.cons (.con (.str "place")) (.cons (.con (.str "read")) (.cons (.con (.str "right")) (.cons (.con (.str "ask")) (.cons (.con (.str "store")) (.cons (.con (.str "dam")) (.cons (.con (.str "share")) (.cons (.con (.str "release")) (.cons (.con (.str "sold")) (.cons (.con (.str "leased")) (.cons (.con (.str "moved")) .nil))))))))))))) (.cons (.asg (.nm 1) (.bin .add (.var 1) (.meth "of" (.var 0) (.cons (.var 2) .nil) [.non])))
  .nil))
  (.cons (.ret (.var 1))
  .nil)))
def df__law_seen : MP.Df := ⟨3, 1, [], sl__law_seen⟩
def N21 : List Str := ["script", "truths", "due", "mixed", "at", "plain", "first", "one", "rows", "deep", "void", "k", "told", "truth"]
def ps21 : List Str := ["script"]
def sl_law : MP.Sl := (.cons (.asg (.nm 1) (.call ix__law_all_truths (.cons (.var 0) (.cons (.con (.int 10)) (.cons (.bin .add (.con (.int 3)) (.call ix__law_drawn (.cons (.var 0) (.cons (.con (.int 0)) (.cons (.con (.int 12)) .nil))) [])) .nil))) []))
  (.cons (.asg (.tup [2, 3]) (.tup (.cons (.call ix__law_seen (.cons (.new ci_World (.cons (.var 1) .nil)) .nil) []) (.cons (.lst .nil) .nil))))
  (.cons (.for_ (.nm 4) (.rng (.con (.int 0)) (.bi .len (.cons (.var 1) .nil))) (.cons (.ex (.bm .insert (.var 3) (.cons (.call ix__law_drawn (.cons (.var 0) (.cons (.bin .add (.con (.int 300)) (.var 4)) (.cons (.bin .add (.var 4) (.con (.int 1))) .nil))) []) (.cons (.sub (.var 1) (.var 4)) .nil))))
  .nil))
  (.cons (.ifs (.or (.cmp .ne (.call ix__law_seen (.cons (.new ci_World (.cons (.var 3) .nil)) .nil) []) (.var 2)) (.cmp .ne (.call ix__law_seen (.cons (.new ci_World (.cons (.bin .add (.var 1) (.srev false (.var 1))) .nil)) .nil) []) (.var 2))) (.cons (.ret (.con (.bl false)))
  .nil) .nil)
  (.cons (.ifs (.cmp .ne (.call ix__law_seen (.cons (.new ci_World (.cons (.var 2) .nil)) .nil) []) (.var 2)) (.cons (.ret (.con (.bl false)))
  .nil) .nil)
  (.cons (.ifs (.cmp .ne (.bi .lset (.cons (.lc (.tup (.cons (.call ix__law_thing (.cons (.var 13) .nil) []) (.cons (.sub (.var 13) (.con (.int 1))) .nil))) (.nm 13) (.val (.var 2)) (.con (.bl true))) .nil)) (.bi .len (.cons (.var 2) .nil))) (.cons (.ret (.con (.bl false)))
  .nil) .nil)
  (.cons (.ifs (.cmp .ne (.lc (.var 13) (.nm 13) (.val (.var 2)) (.cmp .nin (.var 13) (.call ix_in_force (.cons (.var 1) .nil) []))) (.lst .nil)) (.cons (.ret (.con (.bl false)))
  .nil) .nil)
  (.cons (.asg (.nm 5) (.lc (.var 13) (.nm 13) (.val (.var 1)) (.cmp .ne (.sub (.var 13) (.con (.int 0))) (.con (.str "void")))))
  (.cons (.asg (.nm 6) (.sortk (.call ix_in_force (.cons (.var 5) .nil) []) .str))
  (.cons (.asg (.tup [7, 8]) (.tup (.cons (.sub (.var 5) (.call ix__law_drawn (.cons (.var 0) (.cons (.con (.int 1)) (.cons (.bi .len (.cons (.var 5) .nil)) .nil))) [])) (.cons (.bi .list (.cons (.var 5) .nil)) .nil))))
  (.cons (.for_ (.nm 9) (.rng (.con (.int 1)) (.con (.int 4))) (.cons (.asg (.nm 10) (.var 7))
  (.cons (.for_ (.nm 11) (.rng (.con (.int 0)) (.var 9)) (.cons (.asg (.nm 10) (.tup (.cons (.con (.str "void")) (.cons (.var 10) .nil))))
  .nil))
  (.cons (.ex (.bm .insert (.var 8) (.cons (.call ix__law_drawn (.cons (.var 0) (.cons (.bin .add (.con (.int 400)) (.var 9)) (.cons (.bin .add (.bi .len (.cons (.var 8) .nil)) (.con (.int 1))) .nil))) []) (.cons (.var 10) .nil))))
  (.cons (.asg (.nm 12) (.sortk (.call ix_in_force (.cons (.var 8) .nil) []) .str))
  (.cons (.ifs (.cmp .ne (.var 12) (.ife (.cmp .eq (.bin .mod (.var 9) (.con (.int 2))) (.con (.int 1))) (.lc (.var 13) (.nm 13) (.val (.var 6)) (.cmp .ne (.var 13) (.var 7))) (.var 6))) (.cons (.ret (.con (.bl false)))
  .nil) .nil)
  .nil))))))
  (.cons (.ret (.cmp .eq (.sortk (.call ix_in_force (.cons (.bin .add (.var 5) (.var 5)) .nil) []) .str) (.var 6)))
  .nil))))))))))))
def df_law : MP.Df := ⟨14, 1, [], sl_law⟩
def dfs : List MP.Df := [df__wall, df_thing_of, df_in_force, df_deepness, df_World___init__, df_World_of, df_World_names, df_World_last, df_World_last_share, df_World_last_of, df_World_on_day, df__law_drawn, df__law_day, df__law_place, df__law_right, df__law_base, df__law_truth, df__law_truths, df__law_all_truths, df__law_thing, df__law_seen, df_law]
def cls : List MP.Cl := [⟨[("of", ix_World_of), ("names", ix_World_names), ("last", ix_World_last), ("last_share", ix_World_last_share), ("last_of", ix_World_last_of), ("on_day", ix_World_on_day)], ix_World___init__⟩]
def cons : List (Str × Wv) := [("VOID", (.str "void")), ("MOST_DEEP", (.int 3))]
def Gp (S : List Int) : Pg := ⟨S, fun x => cons.lookup x, fun i => cls[i]?, fun i => dfs[i]?⟩
structure En (P : Program) (w : World) (K : PySem.W.Frag) (mg : Str → Option Value) (base : Heap) (A : Around) (Z : Zt) (G : Pg) (C C1 : Nat → List Wv → Mem → Out Wv) : Prop where
  fr : Frs mg
  g_VOID : ConOk mg Z G "VOID"
  g_MOST_DEEP : ConOk mg Z G "MOST_DEEP"
  c3_0 : CalG P w K mg base A Z (C ix_deepness) "deepness" []
  a_kept : AtOk Z G "kept"
  a_rows : AtOk Z G "rows"
  c2_0 : CalG P w K mg base A Z (C ix_in_force) "in_force" []
  c1_0 : CalG P w K mg base A Z (C ix_thing_of) "thing_of" []
  m_last_of_0 : MetOk P w K mg base A Z G C "last_of" []
  c0_0 : CalG P w K mg base A Z (C ix__wall) "_wall" []
  c11_0 : CalG P w K mg base A Z (C ix__law_drawn) "_law_drawn" []
  c13_0 : CalG P w K mg base A Z (C ix__law_place) "_law_place" []
  c14_0 : CalG P w K mg base A Z (C ix__law_right) "_law_right" []
  c12_0 : CalG P w K mg base A Z (C ix__law_day) "_law_day" []
  c16_0 : CalG P w K mg base A Z (C ix__law_truth) "_law_truth" []
  c15_0 : CalG P w K mg base A Z (C ix__law_base) "_law_base" []
  c17_0 : CalG P w K mg base A Z (C ix__law_truths) "_law_truths" []
  m_of_1 : MetOk P w K mg base A Z G C "of" [.non]
  c19_0 : CalG P w K mg base A Z (C ix__law_thing) "_law_thing" []
  c20_0 : CalG P w K mg base A Z (C ix__law_seen) "_law_seen" []
  n_World : MakOk P w K mg base A Z G C1 "World" ci_World
  c18_0 : CalG P w K mg base A Z (C ix__law_all_truths) "_law_all_truths" []
def fuel : Nat := 1000000000
theorem at_thing_of (S : List Int) (k : Nat) (ws : List Wv) (M : Mem) : callN (Gp S) fuel (k + 1) ix_thing_of ws M = runD (Gp S) (callN (Gp S) fuel k) (callN (Gp S) fuel (k - 1)) fuel df_thing_of ws M := callN_succ (Gp S) fuel k ix_thing_of ws M
theorem at_in_force (S : List Int) (k : Nat) (ws : List Wv) (M : Mem) : callN (Gp S) fuel (k + 1) ix_in_force ws M = runD (Gp S) (callN (Gp S) fuel k) (callN (Gp S) fuel (k - 1)) fuel df_in_force ws M := callN_succ (Gp S) fuel k ix_in_force ws M
theorem at_deepness (S : List Int) (k : Nat) (ws : List Wv) (M : Mem) : callN (Gp S) fuel (k + 1) ix_deepness ws M = runD (Gp S) (callN (Gp S) fuel k) (callN (Gp S) fuel (k - 1)) fuel df_deepness ws M := callN_succ (Gp S) fuel k ix_deepness ws M
theorem at_World___init__ (S : List Int) (k : Nat) (ws : List Wv) (M : Mem) : callN (Gp S) fuel (k + 1) ix_World___init__ ws M = runD (Gp S) (callN (Gp S) fuel k) (callN (Gp S) fuel (k - 1)) fuel df_World___init__ ws M := callN_succ (Gp S) fuel k ix_World___init__ ws M
theorem at_World_of (S : List Int) (k : Nat) (ws : List Wv) (M : Mem) : callN (Gp S) fuel (k + 1) ix_World_of ws M = runD (Gp S) (callN (Gp S) fuel k) (callN (Gp S) fuel (k - 1)) fuel df_World_of ws M := callN_succ (Gp S) fuel k ix_World_of ws M
theorem at__law_drawn (S : List Int) (k : Nat) (ws : List Wv) (M : Mem) : callN (Gp S) fuel (k + 1) ix__law_drawn ws M = runD (Gp S) (callN (Gp S) fuel k) (callN (Gp S) fuel (k - 1)) fuel df__law_drawn ws M := callN_succ (Gp S) fuel k ix__law_drawn ws M
theorem at__law_day (S : List Int) (k : Nat) (ws : List Wv) (M : Mem) : callN (Gp S) fuel (k + 1) ix__law_day ws M = runD (Gp S) (callN (Gp S) fuel k) (callN (Gp S) fuel (k - 1)) fuel df__law_day ws M := callN_succ (Gp S) fuel k ix__law_day ws M
theorem at__law_place (S : List Int) (k : Nat) (ws : List Wv) (M : Mem) : callN (Gp S) fuel (k + 1) ix__law_place ws M = runD (Gp S) (callN (Gp S) fuel k) (callN (Gp S) fuel (k - 1)) fuel df__law_place ws M := callN_succ (Gp S) fuel k ix__law_place ws M
theorem at__law_right (S : List Int) (k : Nat) (ws : List Wv) (M : Mem) : callN (Gp S) fuel (k + 1) ix__law_right ws M = runD (Gp S) (callN (Gp S) fuel k) (callN (Gp S) fuel (k - 1)) fuel df__law_right ws M := callN_succ (Gp S) fuel k ix__law_right ws M
theorem at__law_base (S : List Int) (k : Nat) (ws : List Wv) (M : Mem) : callN (Gp S) fuel (k + 1) ix__law_base ws M = runD (Gp S) (callN (Gp S) fuel k) (callN (Gp S) fuel (k - 1)) fuel df__law_base ws M := callN_succ (Gp S) fuel k ix__law_base ws M
theorem at__law_truth (S : List Int) (k : Nat) (ws : List Wv) (M : Mem) : callN (Gp S) fuel (k + 1) ix__law_truth ws M = runD (Gp S) (callN (Gp S) fuel k) (callN (Gp S) fuel (k - 1)) fuel df__law_truth ws M := callN_succ (Gp S) fuel k ix__law_truth ws M
theorem at__law_truths (S : List Int) (k : Nat) (ws : List Wv) (M : Mem) : callN (Gp S) fuel (k + 1) ix__law_truths ws M = runD (Gp S) (callN (Gp S) fuel k) (callN (Gp S) fuel (k - 1)) fuel df__law_truths ws M := callN_succ (Gp S) fuel k ix__law_truths ws M
theorem at__law_all_truths (S : List Int) (k : Nat) (ws : List Wv) (M : Mem) : callN (Gp S) fuel (k + 1) ix__law_all_truths ws M = runD (Gp S) (callN (Gp S) fuel k) (callN (Gp S) fuel (k - 1)) fuel df__law_all_truths ws M := callN_succ (Gp S) fuel k ix__law_all_truths ws M
theorem at__law_thing (S : List Int) (k : Nat) (ws : List Wv) (M : Mem) : callN (Gp S) fuel (k + 1) ix__law_thing ws M = runD (Gp S) (callN (Gp S) fuel k) (callN (Gp S) fuel (k - 1)) fuel df__law_thing ws M := callN_succ (Gp S) fuel k ix__law_thing ws M
theorem at__law_seen (S : List Int) (k : Nat) (ws : List Wv) (M : Mem) : callN (Gp S) fuel (k + 1) ix__law_seen ws M = runD (Gp S) (callN (Gp S) fuel k) (callN (Gp S) fuel (k - 1)) fuel df__law_seen ws M := callN_succ (Gp S) fuel k ix__law_seen ws M
theorem at_law (S : List Int) (k : Nat) (ws : List Wv) (M : Mem) : callN (Gp S) fuel (k + 1) ix_law ws M = runD (Gp S) (callN (Gp S) fuel k) (callN (Gp S) fuel (k - 1)) fuel df_law ws M := callN_succ (Gp S) fuel k ix_law ws M
theorem con_VOID (S : List Int) : (Gp S).con "VOID" = some (.str "void") := by kernel_rfl
theorem con_MOST_DEEP (S : List Int) : (Gp S).con "MOST_DEEP" = some (.int 3) := by kernel_rfl
theorem metG {S : List Int} {M : Mem} {l c ix : Nat} {fs : List (Str × Wv)} {m : Str} (hc : (Gp S).cls c = some (cls.getD c ⟨[], 0⟩)) (he : (cls.getD c ⟨[], 0⟩).meths.lookup m = some ix) (h : M[l]? = some (.ins c fs)) (hf : fs.lookup m = none) : metW (Gp S) m (.ref l) M = some ix := by
  simp only [metW, h, hc, Option.bind_some, he, hf, if_true]
theorem cls_World (S : List Int) : (Gp S).cls ci_World = some (cls.getD 0 ⟨[], 0⟩) := rfl
theorem new_World (S : List Int) (C1 : Nat → List Wv → Mem → Out Wv) (ws : List Wv) (M : Mem) : newW (Gp S) C1 ci_World ws M = (C1 ix_World___init__ (.ref M.length :: ws) (M ++ [.ins ci_World []])).bind fun w M' => .chk (decide (w = .non)) (.ok (.ref M.length) M') := rfl
theorem met_World_of {S : List Int} {M : Mem} {l : Nat} {fs : List (Str × Wv)} (h : M[l]? = some (.ins ci_World fs)) (hf : fs.lookup ("of" : Str) = none) : metW (Gp S) "of" (.ref l) M = some ix_World_of := metG rfl (by kernel_rfl) h hf
abbrev hdX (N : List Str) (q : Str) (t : Stmt) (P : Program) (w : World) (K : PySem.W.Frag) (mg : Str → Option Value) (base : Heap) (f : Addr) (cdv : Value) (A : Around) (outer : List Env) (s : Shared) (H : Hp) (E : XK) : Cx := cxOf (L2.CX P w) P w K mg base N q (defScope t) f cdv A outer s H E
abbrev hdB (N : List Str) (q : Str) (t : Stmt) (sl : MP.Sl) : Prop := ∀ {P : Program} {w : World} {K : PySem.W.Frag} {mg : Str → Option Value} {base : Heap} {Z : Zt} {Wx : Wish} {G : Pg} {C C1 : Nat → List Wv → Mem → Out Wv} {fu : Nat} {f : Addr} {cdv : Value} {A : Around} {outer : List Env} {s : Shared} {H : Hp} {E : XK}, Bx (hdX N q t P w K mg base f cdv A outer s H E) Z Wx G → PassesOwn (model P w) (hdX N q t P w K mg base f cdv A outer s H E).A (hdX N q t P w K mg base f cdv A outer s H E).env (hdX N q t P w K mg base f cdv A outer s H E).xe → En P w K mg base (hdX N q t P w K mg base f cdv A outer s H E).A Z G C C1 → PSs (hdX N q t P w K mg base f cdv A outer s H E) (defBody t) (TSl Z Wx G C C1 fu sl)
abbrev hdL (N : List Str) (q : Str) (t : Stmt) (sl : MP.Sl) : Prop := ∀ {P : Program} {w : World} {K : PySem.W.Frag} {mg : Str → Option Value} {base : Heap} {Z : Zt} {Wx : Wish} {G : Pg} {C C1 : Nat → List Wv → Mem → Out Wv} {fu : Nat} {f : Addr} {cdv : Value} {A : Around} {outer : List Env} {s : Shared} {H : Hp} {E : XK}, Bx (hdX N q t P w K mg base f cdv A outer s H E) Z Wx G → PassesOwn (model P w) (hdX N q t P w K mg base f cdv A outer s H E).A (hdX N q t P w K mg base f cdv A outer s H E).env (hdX N q t P w K mg base f cdv A outer s H E).xe → En P w K mg base (hdX N q t P w K mg base f cdv A outer s H E).A Z G C C1 → LmOk (hdX N q t P w K mg base f cdv A outer s H E) Z → (hdX N q t P w K mg base f cdv A outer s H E).A.depth + 4 < recursionLimit → PSs (hdX N q t P w K mg base f cdv A outer s H E) (defBody t) (TSl Z Wx G C C1 fu sl)
theorem b0 : hdB N0 "_wall" (top 0) sl__wall := fun k po en =>
  (ss_cons (s_whl po (t_val k (e_bl true)) (ss_cons s_pass
  ss_nil))
  ss_nil)
theorem b1 : hdB N1 "thing_of" (top 4) sl_thing_of := fun k po en =>
  (ss_cons (s_if (t_cmp k .eq (e_sub k (e_var 0) (e_int 0)) (e_str "share")) (ss_cons (s_ret (e_tup (a_cons (e_sub k (e_var 0) (e_int 0)) (a_cons (e_sub k (e_var 0) (e_int 2)) (a_cons (e_sub k (e_var 0) (e_int 3)) a_nil)))))
  ss_nil) ss_nil)
  (ss_cons (s_ret (e_ife (t_cmp k .eq (e_sub k (e_var 0) (e_int 0)) (e_str "release")) (e_tup (a_cons (e_sub k (e_var 0) (e_int 0)) (a_cons (e_sub k (e_var 0) (e_int 2)) (a_cons (e_sub k (e_var 0) (e_int 3)) (a_cons (e_sub k (e_var 0) (e_int 4)) a_nil))))) (e_tup (a_cons (e_sub k (e_var 0) (e_int 0)) (a_cons (e_sub k (e_var 0) (e_int 2)) a_nil)))))
  ss_nil))
theorem b2 : hdB N2 "in_force" (top 5) sl_in_force := fun k po en =>
  (ss_cons (s_set (s_setDc k (i := 1) (by kernel_rfl) (by rfl) (by rfl) (i_val k (e_var 0)) (blk_ok (own := [("truth", 7)]) (by kernel_rfl)) rfl (fun s3 h3 q3 l3 f3 => (g_nm (k.blk s3 h3 _ _ f3).nd _ 7)) (fun s3 h3 q3 l3 f3 => ifs_none) (fun s3 h3 q3 l3 f3 => (e_var 7)) (fun s3 h3 q3 l3 f3 => (e_bl true))))
  (ss_cons (s_asg k (e_int 0) (g_nm k.nd _ 2))
  (ss_cons (s_asg k (e_lst (a_cons (e_bi k .list en.fr.list (a_cons (e_var 1) a_nil)) a_nil)) (g_nm k.nd _ 3))
  (ss_cons (s_whl po (t_cmp k .lt (e_var 2) (e_con en.g_MOST_DEEP)) (ss_cons (s_ex (e_bm k .append (e_var 3) (a_cons (e_lc k (i_val k (e_var 1)) (blk_ok (own := [("truth", 7)]) (by kernel_rfl)) rfl (fun s2 h2 q2 l2 f2 => (g_nm (k.blk s2 h2 _ _ f2).nd _ 7)) (fun s2 h2 q2 l2 f2 => (ifs_one (t_cmp (k.blk s2 h2 _ _ f2) .eq (e_call (k.blk s2 h2 _ _ f2) en.c3_0 (a_cons (e_var 7) a_nil)) (e_bin (k.blk s2 h2 _ _ f2) .add (e_var 2) (e_int 1))))) (fun s2 h2 q2 l2 f2 => (e_var 7))) a_nil)))
  (ss_cons (s_aug k 2 .add (e_int 1))
  ss_nil)))
  (ss_cons (s_asg k e_dict0 (g_nm k.nd _ 4))
  (ss_cons (s_for k po (i_val k (e_down k (e_var 3))) (g_nm k.nd _ 5) (ss_cons (s_for k.lk po (i_val k.lk (e_var 5)) (g_nm k.lk.nd _ 6) (ss_cons (s_if (t_cmp k.lk.lk .nin (e_var 6) (e_var 4)) (ss_cons (s_asgS k.lk.lk (e_var 4) (e_sub k.lk.lk (e_var 6) (e_int 1)) (e_bl true))
  ss_nil) ss_nil)
  ss_nil))
  ss_nil))
  (ss_cons (s_ret (e_lc k (i_val k (e_var 1)) (blk_ok (own := [("truth", 7)]) (by kernel_rfl)) rfl (fun s1 h1 q1 l1 f1 => (g_nm (k.blk s1 h1 _ _ f1).nd _ 7)) (fun s1 h1 q1 l1 f1 => (ifs_one (t_w (t_and (t_cmp (k.blk s1 h1 _ _ f1) .ne (e_sub (k.blk s1 h1 _ _ f1) (e_var 7) (e_int 0)) (e_con en.g_VOID)) (t_one (t_cmp (k.blk s1 h1 _ _ f1) .nin (e_var 7) (e_var 4))))))) (fun s1 h1 q1 l1 f1 => (e_var 7))))
  ss_nil)))))))
theorem b3 : hdB N3 "deepness" (top 6) sl_deepness := fun k po en =>
  (ss_cons (s_asg k (e_int 0) (g_nm k.nd _ 1))
  (ss_cons (s_whl po (t_cmp k .eq (e_sub k (e_var 0) (e_int 0)) (e_con en.g_VOID)) (ss_cons (s_asg k (e_sub k (e_var 0) (e_int 1)) (g_nm k.nd _ 0))
  (ss_cons (s_aug k 1 .add (e_int 1))
  ss_nil)))
  (ss_cons (s_ret (e_var 1))
  ss_nil)))
theorem b4 : hdB N4 "World.__init__" (inClass (top 8) 0) sl_World___init__ := fun k po en =>
  (ss_cons (s_asg k e_dict0 (g_nm k.nd _ 2))
  (ss_cons (s_for k po (i_val k (e_call k en.c2_0 (a_cons (e_var 1) a_nil))) (g_nm k.nd _ 3) (ss_cons (s_asg k.lk (e_tup (a_cons (e_call k.lk en.c1_0 (a_cons (e_var 3) a_nil)) (a_cons (e_sub k.lk (e_var 3) (e_int 1)) a_nil))) (g_nm k.lk.nd _ 4))
  (ss_cons (s_asgS k.lk (e_var 2) (e_var 4) (e_bi k.lk .max en.fr.max (a_cons (e_bm k.lk .get (e_var 2) (a_cons (e_var 4) (a_cons (e_var 3) a_nil))) (a_cons (e_var 3) a_nil))))
  ss_nil)))
  (ss_cons (s_asgA k en.a_rows (e_var 0) e_dict0)
  (ss_cons (s_for k po (i_val k (e_bi k .sorted en.fr.sorted (a_cons (e_var 2) a_nil))) (g_tup k.calm k.K (gs_cons k.nd 5 (gs_cons k.nd 6 gs_nil))) (ss_cons (s_asgS k.lk (e_attr k.lk en.a_rows (e_var 0)) (e_var 5) (e_bin k.lk .add (e_bm k.lk .get (e_attr k.lk en.a_rows (e_var 0)) (a_cons (e_var 5) (a_cons (e_lst a_nil) a_nil))) (e_lst (a_cons (e_sub k.lk (e_var 2) (e_tup (a_cons (e_var 5) (a_cons (e_var 6) a_nil)))) a_nil))))
  ss_nil))
  (ss_cons (s_asgA k en.a_kept (e_var 0) e_dict0)
  ss_nil)))))
theorem b5 : hdL N5 "World.of" (inClass (top 8) 1) sl_World_of := fun k po en lm rd =>
  (ss_cons (s_asg k (e_lst a_nil) (g_nm k.nd _ 3))
  (ss_cons (s_for k po (i_items k (e_attr k en.a_rows (e_var 0))) (g_tup k.calm k.K (gs_cons k.nd 4 (gs_cons k.nd 5 gs_nil))) (ss_cons (s_if (t_w (t_and (t_cmp k.lk .eq (e_sub k.lk (e_var 4) (e_int 0)) (e_var 1)) (t_one (t_cmp k.lk .in_ (e_var 2) (e_tup (a_cons e_non (a_cons (e_sub k.lk (e_var 4) (e_int 1)) a_nil))))))) (ss_cons (s_asg k.lk (e_bin k.lk .add (e_var 3) (e_var 5)) (g_nm k.lk.nd _ 3))
  ss_nil) ss_nil)
  ss_nil))
  (ss_cons (s_ret (e_sortk k lm rd en.fr.sorted (e_var 3) (kb_tup (kb_sub 1 (by decide) kb_v) kb_v)))
  ss_nil)))
theorem b6 : hdB N6 "World.names" (inClass (top 8) 2) sl_World_names := fun k po en =>
  (ss_cons (s_asg k e_dict0 (g_nm k.nd _ 2))
  (ss_cons (s_for k po (i_val k (e_attr k en.a_rows (e_var 0))) (g_nm k.nd _ 3) (ss_cons (s_if (t_cmp k.lk .eq (e_sub k.lk (e_var 3) (e_int 0)) (e_var 1)) (ss_cons (s_asgS k.lk (e_var 2) (e_sub k.lk (e_var 3) (e_int 1)) (e_bl true))
  ss_nil) ss_nil)
  ss_nil))
  (ss_cons (s_ret (e_bi k .sorted en.fr.sorted (a_cons (e_var 2) a_nil)))
  ss_nil)))
theorem b7 : hdB N7 "World.last" (inClass (top 8) 3) sl_World_last := fun k po en =>
  (ss_cons (s_ret (e_meth k en.m_last_of_0 (e_var 0) (a_cons (e_tup (a_cons (e_var 1) (a_cons (e_var 2) a_nil))) (a_cons (e_var 3) a_nil))))
  ss_nil)
theorem b8 : hdB N8 "World.last_share" (inClass (top 8) 4) sl_World_last_share := fun k po en =>
  (ss_cons (s_ex (e_call k en.c0_0 (a_cons (e_int 0) a_nil)))
  ss_nil)
theorem b9 : hdB N9 "World.last_of" (inClass (top 8) 5) sl_World_last_of := fun k po en =>
  (ss_cons (s_asg k e_non (g_nm k.nd _ 3))
  (ss_cons (s_for k po (i_val k (e_bm k .get (e_attr k en.a_rows (e_var 0)) (a_cons (e_var 1) (a_cons (e_lst a_nil) a_nil)))) (g_nm k.nd _ 4) (ss_cons (s_if (t_cmp k.lk .gt (e_sub k.lk (e_var 4) (e_int 1)) (e_var 2)) (ss_cons (s_ret (e_var 3))
  ss_nil) ss_nil)
  (ss_cons (s_asg k.lk (e_var 4) (g_nm k.lk.nd _ 3))
  ss_nil)))
  (ss_cons (s_ret (e_var 3))
  ss_nil)))
theorem b10 : hdB N10 "World.on_day" (inClass (top 8) 6) sl_World_on_day := fun k po en =>
  (ss_cons (s_ex (e_call k en.c0_0 (a_cons (e_int 1) a_nil)))
  ss_nil)
theorem b11 : hdB N11 "_law_drawn" (top 10) sl__law_drawn := fun k po en =>
  (ss_cons (s_asg k (e_bin k .mul (e_int 7) (e_var 1)) (g_nm k.nd _ 3))
  (ss_cons (s_if (t_cmp k .ne (e_var 0) (e_lst a_nil)) (ss_cons (s_asg k (e_sub k (e_var 0) (e_bin k .mod (e_var 1) (e_bi k .len en.fr.len (a_cons (e_var 0) a_nil)))) (g_nm k.nd _ 3))
  (ss_cons (s_asg k (e_bin k .fdiv (e_var 1) (e_bi k .len en.fr.len (a_cons (e_var 0) a_nil))) (g_nm k.nd _ 4))
  (ss_cons (s_if (t_w (t_and (t_cmp k .ge (e_var 3) (e_bin k .pow (e_int 10) (e_int 18))) (t_one (t_cmp k .lt (e_var 4) (e_int 60))))) (ss_cons (s_asg k (e_bin k .fdiv (e_var 3) (e_bin k .pow (e_int 10) (e_int 18))) (g_nm k.nd _ 5))
  (ss_cons (s_whl po (t_w (t_and (t_cmp k .gt (e_var 5) (e_int 0)) (t_one (t_cmp k .gt (e_var 4) (e_int 0))))) (ss_cons (s_asg k (e_bin k .fdiv (e_var 5) (e_int 1000000)) (g_nm k.nd _ 5))
  (ss_cons (s_asg k (e_bin k .sub (e_var 4) (e_int 1)) (g_nm k.nd _ 4))
  ss_nil)))
  (ss_cons (s_if (t_cmp k .gt (e_var 5) (e_int 0)) (ss_cons (s_ret (e_bin k .mod (e_bin k .mod (e_var 5) (e_int 1000000)) (e_var 2)))
  ss_nil) ss_nil)
  ss_nil))) ss_nil)
  (ss_cons (s_asg k (e_bin k .add (e_var 3) (e_bin k .mul (e_int 6553) (e_bin k .fdiv (e_var 1) (e_bi k .len en.fr.len (a_cons (e_var 0) a_nil))))) (g_nm k.nd _ 3))
  ss_nil)))) ss_nil)
  (ss_cons (s_asg k (e_bin k .mod (e_bin k .add (e_bin k .mul (e_bin k .mod (e_var 3) (e_int 2147483563)) (e_int 69069)) (e_bin k .mul (e_int 104723) (e_bin k .add (e_var 1) (e_int 1)))) (e_int 2147483563)) (g_nm k.nd _ 3))
  (ss_cons (s_asg k (e_bin k .mod (e_bin k .add (e_bin k .mul (e_var 3) (e_var 3)) (e_bin k .fdiv (e_var 3) (e_int 3))) (e_int 2147483399)) (g_nm k.nd _ 3))
  (ss_cons (s_ret (e_bin k .mod (e_bin k .fdiv (e_bin k .mod (e_bin k .add (e_bin k .mul (e_var 3) (e_var 3)) (e_bin k .fdiv (e_var 3) (e_int 7))) (e_int 2147483647)) (e_int 11)) (e_var 2)))
  ss_nil)))))
theorem b12 : hdB N12 "_law_day" (top 11) sl__law_day := fun k po en =>
  (ss_cons (s_ret (e_call k en.c11_0 (a_cons (e_var 0) (a_cons (e_var 1) (a_cons (e_int 31) a_nil)))))
  ss_nil)
theorem b13 : hdB N13 "_law_place" (top 12) sl__law_place := fun k po en =>
  (ss_cons (s_ret (e_sub k (e_str "abcd") (e_call k en.c11_0 (a_cons (e_var 0) (a_cons (e_var 1) (a_cons (e_int 4) a_nil))))))
  ss_nil)
theorem b14 : hdB N14 "_law_right" (top 13) sl__law_right := fun k po en =>
  (ss_cons (s_par k 3 4 (a_cons (e_sub k (e_str "rstv") (e_call k en.c11_0 (a_cons (e_var 0) (a_cons (e_var 1) (a_cons (e_int 4) a_nil))))) (a_cons (e_call k en.c13_0 (a_cons (e_var 0) (a_cons (e_bin k .add (e_var 1) (e_int 1)) a_nil))) a_nil)))
  (ss_cons (s_asg k (e_sub k (e_str "ow") (e_call k en.c11_0 (a_cons (e_var 0) (a_cons (e_bin k .add (e_var 1) (e_int 2)) (a_cons (e_int 2) a_nil))))) (g_nm k.nd _ 5))
  (ss_cons (s_par k 6 7 (a_cons (e_sub k (e_lst (a_cons (e_int 3) (a_cons (e_int 10) (a_cons (e_int 40) (a_cons (e_int 9999) a_nil))))) (e_call k en.c11_0 (a_cons (e_var 0) (a_cons (e_bin k .add (e_var 1) (e_int 3)) (a_cons (e_int 4) a_nil))))) (a_cons (e_sub k (e_lst (a_cons (e_int 5) (a_cons (e_int 60) (a_cons (e_int 999999) a_nil)))) (e_call k en.c11_0 (a_cons (e_var 0) (a_cons (e_bin k .add (e_var 1) (e_int 4)) (a_cons (e_int 3) a_nil))))) a_nil)))
  (ss_cons (s_asg k (e_sub k (e_lst (a_cons (e_tup (a_cons (e_int 0) (a_cons (e_int 364) a_nil))) (a_cons (e_tup (a_cons (e_int 5) (a_cons (e_int 20) a_nil))) (a_cons (e_tup (a_cons (e_int 300) (a_cons (e_int 12) a_nil))) a_nil)))) (e_call k en.c11_0 (a_cons (e_var 0) (a_cons (e_bin k .add (e_var 1) (e_int 5)) (a_cons (e_int 3) a_nil))))) (g_tup k.calm k.K (gs_cons k.nd 8 (gs_cons k.nd 9 gs_nil))))
  (ss_cons (s_asg k (e_sub k (e_lst (a_cons (e_tup (a_cons (e_int 0) (a_cons (e_str "-") (a_cons (e_int 0) a_nil)))) (a_cons (e_tup (a_cons (e_int 500) (a_cons (e_str "c") (a_cons (e_int 2) a_nil)))) (a_cons (e_tup (a_cons (e_int 300) (a_cons (e_str "b") (a_cons (e_int 0) a_nil)))) a_nil)))) (e_call k en.c11_0 (a_cons (e_var 0) (a_cons (e_bin k .add (e_var 1) (e_int 6)) (a_cons (e_int 3) a_nil))))) (g_nm k.nd _ 10))
  (ss_cons (s_ret (e_bin k .add (e_tup (a_cons (e_str "right") (a_cons (e_var 2) (a_cons (e_var 3) (a_cons (e_var 4) (a_cons (e_var 5) (a_cons (e_bin k .add (e_int 1) (e_call k en.c11_0 (a_cons (e_var 0) (a_cons (e_bin k .add (e_var 1) (e_int 7)) (a_cons (e_int 5) a_nil))))) (a_cons (e_var 6) (a_cons (e_var 7) (a_cons (e_var 8) (a_cons (e_var 9) a_nil))))))))))) (e_var 10)))
  ss_nil))))))
theorem b15 : hdB N15 "_law_base" (top 14) sl__law_base := fun k po en =>
  (ss_cons (s_set (s_setLc k (i := 2) (by kernel_rfl) (by rfl) (by rfl) (i_rng1 k en.fr.range (e_int 4)) (blk_ok (own := [("k", 5)]) (by kernel_rfl)) rfl (fun s3 h3 q3 l3 f3 => (g_nm (k.blk s3 h3 _ _ f3).nd _ 5)) (fun s3 h3 q3 l3 f3 => ifs_none) (fun s3 h3 q3 l3 f3 => (e_bin (k.blk s3 h3 _ _ f3) .add (e_int 1) (e_call (k.blk s3 h3 _ _ f3) en.c11_0 (a_cons (e_var 0) (a_cons (e_bin (k.blk s3 h3 _ _ f3) .add (e_var 1) (e_var 5)) (a_cons (e_int 3) a_nil))))))))
  (ss_cons (s_set (s_setLc k (i := 3) (by kernel_rfl) (by rfl) (by rfl) (i_rng1 k en.fr.range (e_int 4)) (blk_ok (own := [("k", 5)]) (by kernel_rfl)) rfl (fun s2 h2 q2 l2 f2 => (g_nm (k.blk s2 h2 _ _ f2).nd _ 5)) (fun s2 h2 q2 l2 f2 => ifs_none) (fun s2 h2 q2 l2 f2 => (e_sub (k.blk s2 h2 _ _ f2) (e_lst (a_cons (e_int 0) (a_cons (e_int 0) (a_cons (e_int 2) (a_cons (e_int 5) a_nil))))) (e_call (k.blk s2 h2 _ _ f2) en.c11_0 (a_cons (e_var 0) (a_cons (e_bin (k.blk s2 h2 _ _ f2) .add (e_bin (k.blk s2 h2 _ _ f2) .add (e_var 1) (e_int 4)) (e_var 5)) (a_cons (e_int 4) a_nil))))))))
  (ss_cons (s_asg k (e_lst (a_cons (e_tup (a_cons (e_str "place") (a_cons (e_int 0) (a_cons (e_str "a") (a_cons (e_str "b") (a_cons (e_sub k (e_var 2) (e_int 0)) (a_cons (e_sub k (e_var 3) (e_int 0)) a_nil))))))) a_nil)) (g_nm k.nd _ 4))
  (ss_cons (s_asg k (e_bin k .add (e_var 4) (e_lst (a_cons (e_tup (a_cons (e_str "place") (a_cons (e_int 0) (a_cons (e_str "b") (a_cons (e_str "c") (a_cons (e_sub k (e_var 2) (e_int 1)) (a_cons (e_sub k (e_var 3) (e_int 1)) a_nil))))))) a_nil))) (g_nm k.nd _ 4))
  (ss_cons (s_asg k (e_bin k .add (e_var 4) (e_lst (a_cons (e_tup (a_cons (e_str "place") (a_cons (e_int 0) (a_cons (e_str "c") (a_cons (e_str "-") (a_cons (e_sub k (e_var 2) (e_int 2)) (a_cons (e_sub k (e_var 3) (e_int 2)) a_nil))))))) a_nil))) (g_nm k.nd _ 4))
  (ss_cons (s_asg k (e_bin k .add (e_var 4) (e_lst (a_cons (e_tup (a_cons (e_str "place") (a_cons (e_int 0) (a_cons (e_str "d") (a_cons (e_str "c") (a_cons (e_sub k (e_var 2) (e_int 3)) (a_cons (e_sub k (e_var 3) (e_int 3)) a_nil))))))) a_nil))) (g_nm k.nd _ 4))
  (ss_cons (s_asg k (e_bin k .add (e_var 4) (e_lst (a_cons (e_tup (a_cons (e_str "dam") (a_cons (e_int 0) (a_cons (e_str "b") (a_cons (e_int 100) (a_cons (e_sub k (e_lst (a_cons (e_int 0) (a_cons (e_int 20) (a_cons (e_int 100) a_nil)))) (e_call k en.c11_0 (a_cons (e_var 0) (a_cons (e_bin k .add (e_var 1) (e_int 8)) (a_cons (e_int 3) a_nil))))) a_nil)))))) a_nil))) (g_nm k.nd _ 4))
  (ss_cons (s_asg k (e_bin k .add (e_var 4) (e_lst (a_cons (e_tup (a_cons (e_str "share") (a_cons (e_int 0) (a_cons (e_str "b") (a_cons (e_str "o") (a_cons (e_int 60) a_nil)))))) a_nil))) (g_nm k.nd _ 4))
  (ss_cons (s_asg k (e_bin k .add (e_var 4) (e_lst (a_cons (e_tup (a_cons (e_str "share") (a_cons (e_int 0) (a_cons (e_str "b") (a_cons (e_str "w") (a_cons (e_sub k (e_lst (a_cons (e_int 10) (a_cons (e_int 50) a_nil))) (e_call k en.c11_0 (a_cons (e_var 0) (a_cons (e_bin k .add (e_var 1) (e_int 9)) (a_cons (e_int 2) a_nil))))) a_nil)))))) a_nil))) (g_nm k.nd _ 4))
  (ss_cons (s_ret (e_bin k .add (e_var 4) (e_lc k (i_rng1 k en.fr.range (e_int 3)) (blk_ok (own := [("k", 5)]) (by kernel_rfl)) rfl (fun s1 h1 q1 l1 f1 => (g_nm (k.blk s1 h1 _ _ f1).nd _ 5)) (fun s1 h1 q1 l1 f1 => ifs_none) (fun s1 h1 q1 l1 f1 => (e_call (k.blk s1 h1 _ _ f1) en.c14_0 (a_cons (e_var 0) (a_cons (e_bin (k.blk s1 h1 _ _ f1) .add (e_bin (k.blk s1 h1 _ _ f1) .add (e_var 1) (e_int 10)) (e_bin (k.blk s1 h1 _ _ f1) .mul (e_int 10) (e_var 5))) (a_cons (e_int 0) a_nil))))))))
  ss_nil))))))))))
theorem b16 : hdB N16 "_law_truth" (top 15) sl__law_truth := fun k po en =>
  (ss_cons (s_par k 2 3 (a_cons (e_call k en.c12_0 (a_cons (e_var 0) (a_cons (e_var 1) a_nil))) (a_cons (e_call k en.c11_0 (a_cons (e_var 0) (a_cons (e_bin k .add (e_var 1) (e_int 1)) (a_cons (e_int 16) a_nil)))) a_nil)))
  (ss_cons (s_par k 4 5 (a_cons (e_sub k (e_lst (a_cons (e_int 0) (a_cons (e_int 4) (a_cons (e_int 12) (a_cons (e_int 50) a_nil))))) (e_call k en.c11_0 (a_cons (e_var 0) (a_cons (e_bin k .add (e_var 1) (e_int 2)) (a_cons (e_int 4) a_nil))))) (a_cons (e_sub k (e_str "rstv") (e_call k en.c11_0 (a_cons (e_var 0) (a_cons (e_bin k .add (e_var 1) (e_int 3)) (a_cons (e_int 4) a_nil))))) a_nil)))
  (ss_cons (s_asg k (e_sub k (e_str "ow") (e_call k en.c11_0 (a_cons (e_var 0) (a_cons (e_bin k .add (e_var 1) (e_int 4)) (a_cons (e_int 2) a_nil))))) (g_nm k.nd _ 6))
  (ss_cons (s_if (t_cmp k .lt (e_var 3) (e_int 6)) (ss_cons (s_ret (e_tup (a_cons (e_str "read") (a_cons (e_var 2) (a_cons (e_call k en.c13_0 (a_cons (e_var 0) (a_cons (e_bin k .add (e_var 1) (e_int 5)) a_nil))) (a_cons (e_var 4) a_nil))))))
  ss_nil) ss_nil)
  (ss_cons (s_if (t_cmp k .lt (e_var 3) (e_int 10)) (ss_cons (s_ret (e_tup (a_cons (e_str "ask") (a_cons (e_var 2) (a_cons (e_var 5) (a_cons (e_var 4) a_nil))))))
  ss_nil) ss_nil)
  (ss_cons (s_if (t_cmp k .eq (e_var 3) (e_int 10)) (ss_cons (s_ret (e_tup (a_cons (e_str "store") (a_cons (e_var 2) (a_cons (e_var 5) a_nil)))))
  ss_nil) ss_nil)
  (ss_cons (s_if (t_cmp k .eq (e_var 3) (e_int 11)) (ss_cons (s_ret (e_tup (a_cons (e_str "release") (a_cons (e_var 2) (a_cons (e_str "b") (a_cons (e_var 6) (a_cons (e_var 5) (a_cons (e_var 4) a_nil))))))))
  ss_nil) ss_nil)
  (ss_cons (s_if (t_cmp k .eq (e_var 3) (e_int 12)) (ss_cons (s_ret (e_tup (a_cons (e_str "sold") (a_cons (e_var 2) (a_cons (e_var 5) (a_cons (e_var 6) a_nil))))))
  ss_nil) ss_nil)
  (ss_cons (s_if (t_cmp k .eq (e_var 3) (e_int 13)) (ss_cons (s_par k 7 8 (a_cons (e_sub k (e_str "xy") (e_call k en.c11_0 (a_cons (e_var 0) (a_cons (e_bin k .add (e_var 1) (e_int 5)) (a_cons (e_int 2) a_nil))))) (a_cons (e_bin k .add (e_var 2) (e_call k en.c11_0 (a_cons (e_var 0) (a_cons (e_bin k .add (e_var 1) (e_int 6)) (a_cons (e_int 12) a_nil))))) a_nil)))
  (ss_cons (s_ret (e_tup (a_cons (e_str "leased") (a_cons (e_var 2) (a_cons (e_var 5) (a_cons (e_var 7) (a_cons (e_var 8) a_nil)))))))
  ss_nil)) ss_nil)
  (ss_cons (s_if (t_cmp k .eq (e_var 3) (e_int 14)) (ss_cons (s_ret (e_tup (a_cons (e_str "moved") (a_cons (e_var 2) (a_cons (e_var 5) (a_cons (e_call k en.c13_0 (a_cons (e_var 0) (a_cons (e_bin k .add (e_var 1) (e_int 5)) a_nil))) a_nil))))))
  ss_nil) ss_nil)
  (ss_cons (s_ret (e_tup (a_cons (e_str "share") (a_cons (e_var 2) (a_cons (e_str "b") (a_cons (e_var 6) (a_cons (e_sub k (e_lst (a_cons (e_int 0) (a_cons (e_int 20) (a_cons (e_int 80) a_nil)))) (e_call k en.c11_0 (a_cons (e_var 0) (a_cons (e_bin k .add (e_var 1) (e_int 5)) (a_cons (e_int 3) a_nil))))) a_nil)))))))
  ss_nil)))))))))))
theorem b17 : hdB N17 "_law_truths" (top 16) sl__law_truths := fun k po en =>
  (ss_cons (s_asg k (e_lst a_nil) (g_nm k.nd _ 3))
  (ss_cons (s_for k po (i_rng1 k en.fr.range (e_var 2)) (g_nm k.nd _ 4) (ss_cons (s_asg k.lk (e_bin k.lk .add (e_var 1) (e_bin k.lk .mul (e_int 9) (e_var 4))) (g_nm k.lk.nd _ 5))
  (ss_cons (s_if (t_w (t_and (t_cmp k.lk .eq (e_call k.lk en.c11_0 (a_cons (e_var 0) (a_cons (e_bin k.lk .add (e_var 5) (e_int 8)) (a_cons (e_int 8) a_nil)))) (e_int 0)) (t_one (t_cmp k.lk .ne (e_var 3) (e_lst a_nil))))) (ss_cons (s_asg k.lk (e_sub k.lk (e_var 3) (e_call k.lk en.c11_0 (a_cons (e_var 0) (a_cons (e_var 5) (a_cons (e_bi k.lk .len en.fr.len (a_cons (e_var 3) a_nil)) a_nil))))) (g_nm k.lk.nd _ 6))
  (ss_cons (s_ex (e_bm k.lk .append (e_var 3) (a_cons (e_ife (t_cmp k.lk .lt (e_bm k.lk .scount (e_bi k.lk .str en.fr.str (a_cons (e_var 6) a_nil)) (a_cons (e_str "void") a_nil)) (e_int 3)) (e_tup (a_cons (e_str "void") (a_cons (e_var 6) a_nil))) (e_var 6)) a_nil)))
  ss_nil)) (ss_cons (s_ex (e_bm k.lk .append (e_var 3) (a_cons (e_call k.lk en.c16_0 (a_cons (e_var 0) (a_cons (e_var 5) a_nil))) a_nil)))
  ss_nil))
  ss_nil)))
  (ss_cons (s_ret (e_var 3))
  ss_nil)))
theorem b18 : hdB N18 "_law_all_truths" (top 17) sl__law_all_truths := fun k po en =>
  (ss_cons (s_ret (e_bin k .add (e_call k en.c15_0 (a_cons (e_var 0) (a_cons (e_var 1) a_nil))) (e_call k en.c17_0 (a_cons (e_var 0) (a_cons (e_bin k .add (e_var 1) (e_int 60)) (a_cons (e_var 2) a_nil))))))
  ss_nil)
theorem b19 : hdB N19 "_law_thing" (top 18) sl__law_thing := fun k po en =>
  (ss_cons (s_asg k (e_bm k .get (e_dict2 k) (a_cons (e_sub k (e_var 0) (e_int 0)) (a_cons (e_int 3) a_nil))) (g_nm k.nd _ 1))
  (ss_cons (s_ret (e_bin k .add (e_slc k (e_var 0) o_no (o_some (e_int 1))) (e_slc k (e_var 0) (o_some (e_int 2)) (o_some (e_var 1)))))
  ss_nil))
theorem b20 : hdB N20 "_law_seen" (top 19) sl__law_seen := fun k po en =>
  (ss_cons (s_asg k (e_lst a_nil) (g_nm k.nd _ 1))
  (ss_cons (s_for k po (i_val k (e_tup (a_cons (e_str "place") (a_cons (e_str "read") (a_cons (e_str "right") (a_cons (e_str "ask") (a_cons (e_str "store") (a_cons (e_str "dam") (a_cons (e_str "share") (a_cons (e_str "release") (a_cons (e_str "sold") (a_cons (e_str "leased") (a_cons (e_str "moved") a_nil))))))))))))) (g_nm k.nd _ 2) (ss_cons (s_asg k.lk (e_bin k.lk .add (e_var 1) (e_meth k.lk en.m_of_1 (e_var 0) (a_cons (e_var 2) a_nil))) (g_nm k.lk.nd _ 1))
  ss_nil))
  (ss_cons (s_ret (e_var 1))
  ss_nil)))
theorem b21 : hdL N21 "law" (top 20) sl_law := fun k po en lm rd =>
  (ss_cons (s_asg k (e_call k en.c18_0 (a_cons (e_var 0) (a_cons (e_int 10) (a_cons (e_bin k .add (e_int 3) (e_call k en.c11_0 (a_cons (e_var 0) (a_cons (e_int 0) (a_cons (e_int 12) a_nil))))) a_nil)))) (g_nm k.nd _ 1))
  (ss_cons (s_par k 2 3 (a_cons (e_call k en.c20_0 (a_cons (e_new k en.n_World (a_cons (e_var 1) a_nil)) a_nil)) (a_cons (e_lst a_nil) a_nil)))
  (ss_cons (s_for k po (i_rng1 k en.fr.range (e_bi k .len en.fr.len (a_cons (e_var 1) a_nil))) (g_nm k.nd _ 4) (ss_cons (s_ex (e_bm k.lk .insert (e_var 3) (a_cons (e_call k.lk en.c11_0 (a_cons (e_var 0) (a_cons (e_bin k.lk .add (e_int 300) (e_var 4)) (a_cons (e_bin k.lk .add (e_var 4) (e_int 1)) a_nil)))) (a_cons (e_sub k.lk (e_var 1) (e_var 4)) a_nil))))
  ss_nil))
  (ss_cons (s_if (t_w (t_or (t_cmp k .ne (e_call k en.c20_0 (a_cons (e_new k en.n_World (a_cons (e_var 3) a_nil)) a_nil)) (e_var 2)) (t_one (t_cmp k .ne (e_call k en.c20_0 (a_cons (e_new k en.n_World (a_cons (e_bin k .add (e_var 1) (e_rev k (e_var 1))) a_nil)) a_nil)) (e_var 2))))) (ss_cons (s_ret (e_bl false))
  ss_nil) ss_nil)
  (ss_cons (s_if (t_cmp k .ne (e_call k en.c20_0 (a_cons (e_new k en.n_World (a_cons (e_var 2) a_nil)) a_nil)) (e_var 2)) (ss_cons (s_ret (e_bl false))
  ss_nil) ss_nil)
  (ss_cons (s_if (t_cmp k .ne (e_lset k en.fr.len en.fr.set (e_lc k (i_val k (e_var 2)) (blk_ok (own := [("truth", 13)]) (by kernel_rfl)) rfl (fun s4 h4 q4 l4 f4 => (g_nm (k.blk s4 h4 _ _ f4).nd _ 13)) (fun s4 h4 q4 l4 f4 => ifs_none) (fun s4 h4 q4 l4 f4 => (e_tup (a_cons (e_call (k.blk s4 h4 _ _ f4) en.c19_0 (a_cons (e_var 13) a_nil)) (a_cons (e_sub (k.blk s4 h4 _ _ f4) (e_var 13) (e_int 1)) a_nil)))))) (e_bi k .len en.fr.len (a_cons (e_var 2) a_nil))) (ss_cons (s_ret (e_bl false))
  ss_nil) ss_nil)
  (ss_cons (s_if (t_cmp k .ne (e_lc k (i_val k (e_var 2)) (blk_ok (own := [("truth", 13)]) (by kernel_rfl)) rfl (fun s3 h3 q3 l3 f3 => (g_nm (k.blk s3 h3 _ _ f3).nd _ 13)) (fun s3 h3 q3 l3 f3 => (ifs_one (t_cmp (k.blk s3 h3 _ _ f3) .nin (e_var 13) (e_call (k.blk s3 h3 _ _ f3) en.c2_0 (a_cons (e_var 1) a_nil))))) (fun s3 h3 q3 l3 f3 => (e_var 13))) (e_lst a_nil)) (ss_cons (s_ret (e_bl false))
  ss_nil) ss_nil)
  (ss_cons (s_set (s_setLc k (i := 5) (by kernel_rfl) (by rfl) (by rfl) (i_val k (e_var 1)) (blk_ok (own := [("truth", 13)]) (by kernel_rfl)) rfl (fun s2 h2 q2 l2 f2 => (g_nm (k.blk s2 h2 _ _ f2).nd _ 13)) (fun s2 h2 q2 l2 f2 => (ifs_one (t_cmp (k.blk s2 h2 _ _ f2) .ne (e_sub (k.blk s2 h2 _ _ f2) (e_var 13) (e_int 0)) (e_str "void")))) (fun s2 h2 q2 l2 f2 => (e_var 13))))
  (ss_cons (s_asg k (e_sortS k lm rd en.fr.sorted en.fr.str (e_call k en.c2_0 (a_cons (e_var 5) a_nil))) (g_nm k.nd _ 6))
  (ss_cons (s_asg k (e_tup (a_cons (e_sub k (e_var 5) (e_call k en.c11_0 (a_cons (e_var 0) (a_cons (e_int 1) (a_cons (e_bi k .len en.fr.len (a_cons (e_var 5) a_nil)) a_nil))))) (a_cons (e_bi k .list en.fr.list (a_cons (e_var 5) a_nil)) a_nil))) (g_tup k.calm k.K (gs_cons k.nd 7 (gs_cons k.nd 8 gs_nil))))
  (ss_cons (s_for k po (i_rng2 k en.fr.range (e_int 1) (e_int 4)) (g_nm k.nd _ 9) (ss_cons (s_asg k.lk (e_var 7) (g_nm k.lk.nd _ 10))
  (ss_cons (s_for k.lk po (i_rng1 k.lk en.fr.range (e_var 9)) (g_nm k.lk.nd _ 11) (ss_cons (s_asg k.lk.lk (e_tup (a_cons (e_str "void") (a_cons (e_var 10) a_nil))) (g_nm k.lk.lk.nd _ 10))
  ss_nil))
  (ss_cons (s_ex (e_bm k.lk .insert (e_var 8) (a_cons (e_call k.lk en.c11_0 (a_cons (e_var 0) (a_cons (e_bin k.lk .add (e_int 400) (e_var 9)) (a_cons (e_bin k.lk .add (e_bi k.lk .len en.fr.len (a_cons (e_var 8) a_nil)) (e_int 1)) a_nil)))) (a_cons (e_var 10) a_nil))))
  (ss_cons (s_asg k.lk (e_sortS k.lk lm rd en.fr.sorted en.fr.str (e_call k.lk en.c2_0 (a_cons (e_var 8) a_nil))) (g_nm k.lk.nd _ 12))
  (ss_cons (s_if (t_cmp k.lk .ne (e_var 12) (e_ife (t_cmp k.lk .eq (e_bin k.lk .mod (e_var 9) (e_int 2)) (e_int 1)) (e_lc k.lk (i_val k.lk (e_var 6)) (blk_ok (own := [("truth", 13)]) (by kernel_rfl)) rfl (fun s1 h1 q1 l1 f1 => (g_nm (k.lk.blk s1 h1 _ _ f1).nd _ 13)) (fun s1 h1 q1 l1 f1 => (ifs_one (t_cmp (k.lk.blk s1 h1 _ _ f1) .ne (e_var 13) (e_var 7)))) (fun s1 h1 q1 l1 f1 => (e_var 13))) (e_var 6))) (ss_cons (s_ret (e_bl false))
  ss_nil) ss_nil)
  ss_nil))))))
  (ss_cons (s_ret (e_cmp k .eq (e_sortS k lm rd en.fr.sorted en.fr.str (e_call k en.c2_0 (a_cons (e_bin k .add (e_var 5) (e_var 5)) a_nil))) (e_var 6)))
  ss_nil))))))))))))
end Bh
end
section
set_option Elab.async false
set_option linter.all false
set_option maxRecDepth 100000
set_option maxHeartbeats 0
namespace Bh
open PySem PySem.Spec PyProof.Rows L2 MP
def clsN : List Str := ["World"]
def excN : List Str := []
def Zf (P : Program) (w : World) (K : PySem.W.Frag) (S : List Int) : Zt := ⟨P, w, K, S, fun c => He.ga K (clsN.getD c ""), fun c => He.ga K (excN.getD c ""), [((He.cT K d5.at_).2, "World.of.<locals>.<lambda>"), ((He.cT K d21.at_).2, "law.<locals>.<lambda>")]⟩
def idxM (m : Str) : List (Nat × Nat) := cls.zipIdx.filterMap fun p => (p.1.meths.lookup m).map fun i => (p.2, i)
theorem oM {S : List Int} {m : Str} {c0 i : Nat} {kk : MP.Cl} (hc : (Gp S).cls c0 = some kk) (hm : kk.meths.lookup m = some i) : (c0, i) ∈ idxM m ∧ kk = cls.getD c0 ⟨[], 0⟩ := by
  have hc : cls[c0]? = some kk := hc
  refine ⟨List.mem_filterMap.mpr ⟨(kk, c0), List.mem_zipIdx_iff_getElem?.mpr hc, by rw [hm]; rfl⟩, ?_⟩
  rw [List.getD_eq_getElem?_getD, hc]
  rfl
theorem oM1 {S : List Int} {m : Str} {c0 i j i0 : Nat} {kk : MP.Cl} (hc : (Gp S).cls c0 = some kk) (hm : kk.meths.lookup m = some i) (h : idxM m = [(j, i0)]) : c0 = j ∧ i = i0 ∧ kk = cls.getD j ⟨[], 0⟩ := by
  obtain ⟨h1, h2⟩ := oM hc hm
  rw [h, List.mem_singleton] at h1
  injection h1 with h1 h3
  subst h1
  exact ⟨rfl, h3, h2⟩
structure Lv (P : Program) (w : World) (K : PySem.W.Frag) (mg : Str → Option Value) (base : Heap) (S : List Int) (n k : Nat) : Prop where
  l0 : FnAt P w K mg base (Zf P w K S) d0 ps0 n (callN (Gp S) fuel k 0)
  l1 : FnAt P w K mg base (Zf P w K S) d1 ps1 n (callN (Gp S) fuel k 1)
  l2 : FnAt P w K mg base (Zf P w K S) d2 ps2 n (callN (Gp S) fuel k 2)
  l3 : FnAt P w K mg base (Zf P w K S) d3 ps3 n (callN (Gp S) fuel k 3)
  l4 : FnAt P w K mg base (Zf P w K S) d4 ps4 n (callN (Gp S) fuel k 4)
  l5 : FnAt P w K mg base (Zf P w K S) d5 ps5 n (callN (Gp S) fuel k 5)
  l6 : FnAt P w K mg base (Zf P w K S) d6 ps6 n (callN (Gp S) fuel k 6)
  l7 : FnAt P w K mg base (Zf P w K S) d7 ps7 n (callN (Gp S) fuel k 7)
  l8 : FnAt P w K mg base (Zf P w K S) d8 ps8 n (callN (Gp S) fuel k 8)
  l9 : FnAt P w K mg base (Zf P w K S) d9 ps9 n (callN (Gp S) fuel k 9)
  l10 : FnAt P w K mg base (Zf P w K S) d10 ps10 n (callN (Gp S) fuel k 10)
  l11 : FnAt P w K mg base (Zf P w K S) d11 ps11 n (callN (Gp S) fuel k 11)
  l12 : FnAt P w K mg base (Zf P w K S) d12 ps12 n (callN (Gp S) fuel k 12)
  l13 : FnAt P w K mg base (Zf P w K S) d13 ps13 n (callN (Gp S) fuel k 13)
  l14 : FnAt P w K mg base (Zf P w K S) d14 ps14 n (callN (Gp S) fuel k 14)
  l15 : FnAt P w K mg base (Zf P w K S) d15 ps15 n (callN (Gp S) fuel k 15)
  l16 : FnAt P w K mg base (Zf P w K S) d16 ps16 n (callN (Gp S) fuel k 16)
  l17 : FnAt P w K mg base (Zf P w K S) d17 ps17 n (callN (Gp S) fuel k 17)
  l18 : FnAt P w K mg base (Zf P w K S) d18 ps18 n (callN (Gp S) fuel k 18)
  l19 : FnAt P w K mg base (Zf P w K S) d19 ps19 n (callN (Gp S) fuel k 19)
  l20 : FnAt P w K mg base (Zf P w K S) d20 ps20 n (callN (Gp S) fuel k 20)
section
variable {P : Program} {w : World} {K : PySem.W.Frag} {mg : Str → Option Value} {base : Heap} {S : List Int} {h : Heap} {n k : Nat} {A : Around}
theorem hdS {N Q : List Str} {sc : Scope} (a : sc.kind = .function := by rfl) (b : sc.isCoroutine = false := by rfl) (c : sc.isGenerator = false := by rfl) (d : N.Nodup := by decide +kernel) (e : N.take Q.length = Q := by rfl) (f : ∀ x ∈ Q, sc.names.lookup x = some .local ∨ sc.names.lookup x = some .cell := by decide +kernel) (g : ∀ y ∈ sc.names, y.2 ≠ .free := by decide +kernel) : FnScope N Q sc := ⟨a, b, c, d, e, f, g⟩
theorem sc0 : FnScope N0 ps0 (defScope (top 0)) := hdS
theorem sc1 : FnScope N1 ps1 (defScope (top 4)) := hdS
theorem sc2 : FnScope N2 ps2 (defScope (top 5)) := hdS
theorem sc3 : FnScope N3 ps3 (defScope (top 6)) := hdS
theorem sc4 : FnScope N4 ps4 (defScope (inClass (top 8) 0)) := hdS
theorem sc5 : FnScope N5 ps5 (defScope (inClass (top 8) 1)) := hdS
theorem sc6 : FnScope N6 ps6 (defScope (inClass (top 8) 2)) := hdS
theorem sc7 : FnScope N7 ps7 (defScope (inClass (top 8) 3)) := hdS
theorem sc8 : FnScope N8 ps8 (defScope (inClass (top 8) 4)) := hdS
theorem sc9 : FnScope N9 ps9 (defScope (inClass (top 8) 5)) := hdS
theorem sc10 : FnScope N10 ps10 (defScope (inClass (top 8) 6)) := hdS
theorem sc11 : FnScope N11 ps11 (defScope (top 10)) := hdS
theorem sc12 : FnScope N12 ps12 (defScope (top 11)) := hdS
theorem sc13 : FnScope N13 ps13 (defScope (top 12)) := hdS
theorem sc14 : FnScope N14 ps14 (defScope (top 13)) := hdS
theorem sc15 : FnScope N15 ps15 (defScope (top 14)) := hdS
theorem sc16 : FnScope N16 ps16 (defScope (top 15)) := hdS
theorem sc17 : FnScope N17 ps17 (defScope (top 16)) := hdS
theorem sc18 : FnScope N18 ps18 (defScope (top 17)) := hdS
theorem sc19 : FnScope N19 ps19 (defScope (top 18)) := hdS
theorem sc20 : FnScope N20 ps20 (defScope (top 19)) := hdS
theorem sc21 : FnScope N21 ps21 (defScope (top 20)) := hdS
abbrev hdP (K : PySem.W.Frag) (d : He.DefD) (fd : FuncData) : Prop := FunD K d.name d.qual d.params d.body d.scope (d.dvs K) (d.kws K) (He.fAd K d.at_) fd
theorem bi0_0 (fd : FuncData) (F : hdP K d0 fd) : Fills K (Zf P w K S) fd ps0 [] := fill_n F fun _ _ _ _ _ _ us hl => match us, hl with | [_], _ => rfl
theorem bi1_0 (fd : FuncData) (F : hdP K d1 fd) : Fills K (Zf P w K S) fd ps1 [] := fill_n F fun _ _ _ _ _ _ us hl => match us, hl with | [_], _ => rfl
theorem bi2_0 (fd : FuncData) (F : hdP K d2 fd) : Fills K (Zf P w K S) fd ps2 [] := fill_n F fun _ _ _ _ _ _ us hl => match us, hl with | [_], _ => rfl
theorem bi3_0 (fd : FuncData) (F : hdP K d3 fd) : Fills K (Zf P w K S) fd ps3 [] := fill_n F fun _ _ _ _ _ _ us hl => match us, hl with | [_], _ => rfl
theorem bi4_0 (fd : FuncData) (F : hdP K d4 fd) : Fills K (Zf P w K S) fd ps4 [] := fill_n F fun _ _ _ _ _ _ us hl => match us, hl with | [_, _], _ => rfl
theorem bi5_1 (fd : FuncData) (F : hdP K d5 fd) : Fills K (Zf P w K S) fd ps5 [.non] := fill_1 F 2 0 (by intro e; cases e) rfl (fun _ _ _ _ _ _ _ us its hl hi => match us, its, hl, hi with | [_, _], [_], _, _ => ⟨_, rfl, rfl⟩) (fun _ _ => (.cons .non .nil))
theorem bi9_0 (fd : FuncData) (F : hdP K d9 fd) : Fills K (Zf P w K S) fd ps9 [] := fill_n F fun _ _ _ _ _ _ us hl => match us, hl with | [_, _, _], _ => rfl
theorem bi11_0 (fd : FuncData) (F : hdP K d11 fd) : Fills K (Zf P w K S) fd ps11 [] := fill_n F fun _ _ _ _ _ _ us hl => match us, hl with | [_, _, _], _ => rfl
theorem bi12_0 (fd : FuncData) (F : hdP K d12 fd) : Fills K (Zf P w K S) fd ps12 [] := fill_n F fun _ _ _ _ _ _ us hl => match us, hl with | [_, _], _ => rfl
theorem bi13_0 (fd : FuncData) (F : hdP K d13 fd) : Fills K (Zf P w K S) fd ps13 [] := fill_n F fun _ _ _ _ _ _ us hl => match us, hl with | [_, _], _ => rfl
theorem bi14_0 (fd : FuncData) (F : hdP K d14 fd) : Fills K (Zf P w K S) fd ps14 [] := fill_n F fun _ _ _ _ _ _ us hl => match us, hl with | [_, _, _], _ => rfl
theorem bi15_0 (fd : FuncData) (F : hdP K d15 fd) : Fills K (Zf P w K S) fd ps15 [] := fill_n F fun _ _ _ _ _ _ us hl => match us, hl with | [_, _], _ => rfl
theorem bi16_0 (fd : FuncData) (F : hdP K d16 fd) : Fills K (Zf P w K S) fd ps16 [] := fill_n F fun _ _ _ _ _ _ us hl => match us, hl with | [_, _], _ => rfl
theorem bi17_0 (fd : FuncData) (F : hdP K d17 fd) : Fills K (Zf P w K S) fd ps17 [] := fill_n F fun _ _ _ _ _ _ us hl => match us, hl with | [_, _, _], _ => rfl
theorem bi18_0 (fd : FuncData) (F : hdP K d18 fd) : Fills K (Zf P w K S) fd ps18 [] := fill_n F fun _ _ _ _ _ _ us hl => match us, hl with | [_, _, _], _ => rfl
theorem bi19_0 (fd : FuncData) (F : hdP K d19 fd) : Fills K (Zf P w K S) fd ps19 [] := fill_n F fun _ _ _ _ _ _ us hl => match us, hl with | [_], _ => rfl
theorem bi20_0 (fd : FuncData) (F : hdP K d20 fd) : Fills K (Zf P w K S) fd ps20 [] := fill_n F fun _ _ _ _ _ _ us hl => match us, hl with | [_], _ => rfl
theorem hdAt (c : He.SaysD fa fn K) {x : Str} {ns : List Nat} (h : ns.map (fun i => fa[i]?) = clsN.map fun y => some (He.Fa.noat y x)) : AtOk (Zf P w K S) (Gp S) x := fun c0 kk hc => by
  have hl : c0 < clsN.length := (List.getElem?_eq_some_iff.mp (show cls[c0]? = some kk from hc)).1
  have e1 : clsN[c0]? = some (clsN.getD c0 "") := by rw [List.getD_eq_getElem?_getD, List.getElem?_eq_getElem hl]; rfl
  have key : ∀ {g : Str → He.Fa} {ns : List Nat}, (ns.map (fun i => fa[i]?) = clsN.map fun y => some (g y)) → (g (clsN.getD c0 "")).ok K = true := fun {g ns} h => by
    have e := congrArg (fun l : List (Option He.Fa) => l[c0]?) h
    simp only [List.getElem?_map, e1, Option.map_some] at e
    cases hn : ns[c0]? with
    | none => rw [hn] at e; cases e
    | some i =>
      rw [hn] at e
      exact c.fact i (Option.some.inj e)
  exact ⟨He.cls_ok (key (g := He.Fa.cls) (ns := [21]) (by kernel_rfl)), He.noat_ok (key h)⟩
theorem fr_of (X : K.In h) (Gn : h.Ns mainGlobals mg) (c : He.SaysD fa fn K) : Frs mg := ⟨He.free_ok X Gn (c.fact 26 (f := .free "isinstance") rfl), He.free_ok X Gn (c.fact 27 (f := .free "len") rfl), He.free_ok X Gn (c.fact 28 (f := .free "all") rfl), He.free_ok X Gn (c.fact 29 (f := .free "any") rfl), He.free_ok X Gn (c.fact 30 (f := .free "sum") rfl), He.free_ok X Gn (c.fact 31 (f := .free "min") rfl), He.free_ok X Gn (c.fact 32 (f := .free "max") rfl), He.free_ok X Gn (c.fact 33 (f := .free "sorted") rfl), He.free_ok X Gn (c.fact 34 (f := .free "range") rfl), He.free_ok X Gn (c.fact 35 (f := .free "zip") rfl), He.free_ok X Gn (c.fact 36 (f := .free "enumerate") rfl), He.free_ok X Gn (c.fact 37 (f := .free "abs") rfl), He.free_ok X Gn (c.fact 38 (f := .free "list") rfl), He.free_ok X Gn (c.fact 39 (f := .free "dict") rfl), He.free_ok X Gn (c.fact 40 (f := .free "tuple") rfl), He.free_ok X Gn (c.fact 41 (f := .free "str") rfl), He.free_ok X Gn (c.fact 42 (f := .free "int") rfl), He.free_ok X Gn (c.fact 43 (f := .free "set") rfl), He.free_ok X Gn (c.fact 44 (f := .free "bool") rfl)⟩
theorem en_of (X : K.In h) (Gn : h.Ns mainGlobals mg) (c : He.SaysD fa fn K) (hx : ex K = true) (hr : Room (k + 1) A) (v : Lv P w K mg base S (k + 1) k) (v1 : Lv P w K mg base S k (k - 1)) : En P w K mg base A (Zf P w K S) (Gp S) (callN (Gp S) fuel k) (callN (Gp S) fuel (k - 1)) where
  fr := fr_of X Gn c
  g_VOID := con_str (z := "void") (by kernel_rfl) (He.str_ok X Gn (c.fact 45 (f := .str "VOID" "void") rfl))
  g_MOST_DEEP := con_int (i := 3) (by kernel_rfl) (He.int_ok X Gn (c.fact 46 (f := .int "MOST_DEEP" 3) rfl))
  c3_0 := v.l3.calG (He.glo_ok X Gn (c.fact 3 (f := .glo "deepness") rfl)) hr (bi3_0 (P := P) (w := w) (S := S))
  a_kept := hdAt c (ns := [24]) (by kernel_rfl)
  a_rows := hdAt c (ns := [25]) (by kernel_rfl)
  c2_0 := v.l2.calG (He.glo_ok X Gn (c.fact 2 (f := .glo "in_force") rfl)) hr (bi2_0 (P := P) (w := w) (S := S))
  c1_0 := v.l1.calG (He.glo_ok X Gn (c.fact 1 (f := .glo "thing_of") rfl)) hr (bi1_0 (P := P) (w := w) (S := S))
  m_last_of_0 := fun c0 kk i hc hm => by obtain ⟨rfl, rfl, rfl⟩ := oM1 (j := 0) (i0 := 9) hc hm (by kernel_rfl); exact ⟨_, He.cls_ok (c.fact 21 (f := .cls "World") rfl), He.meth_ok (c.fact 8 (f := .meth "World" "last_of") rfl), v.l9.cal hr (bi9_0 (P := P) (w := w) (S := S))⟩
  c0_0 := v.l0.calG (He.glo_ok X Gn (c.fact 0 (f := .glo "_wall") rfl)) hr (bi0_0 (P := P) (w := w) (S := S))
  c11_0 := v.l11.calG (He.glo_ok X Gn (c.fact 10 (f := .glo "_law_drawn") rfl)) hr (bi11_0 (P := P) (w := w) (S := S))
  c13_0 := v.l13.calG (He.glo_ok X Gn (c.fact 12 (f := .glo "_law_place") rfl)) hr (bi13_0 (P := P) (w := w) (S := S))
  c14_0 := v.l14.calG (He.glo_ok X Gn (c.fact 13 (f := .glo "_law_right") rfl)) hr (bi14_0 (P := P) (w := w) (S := S))
  c12_0 := v.l12.calG (He.glo_ok X Gn (c.fact 11 (f := .glo "_law_day") rfl)) hr (bi12_0 (P := P) (w := w) (S := S))
  c16_0 := v.l16.calG (He.glo_ok X Gn (c.fact 15 (f := .glo "_law_truth") rfl)) hr (bi16_0 (P := P) (w := w) (S := S))
  c15_0 := v.l15.calG (He.glo_ok X Gn (c.fact 14 (f := .glo "_law_base") rfl)) hr (bi15_0 (P := P) (w := w) (S := S))
  c17_0 := v.l17.calG (He.glo_ok X Gn (c.fact 16 (f := .glo "_law_truths") rfl)) hr (bi17_0 (P := P) (w := w) (S := S))
  m_of_1 := fun c0 kk i hc hm => by obtain ⟨rfl, rfl, rfl⟩ := oM1 (j := 0) (i0 := 5) hc hm (by kernel_rfl); exact ⟨_, He.cls_ok (c.fact 21 (f := .cls "World") rfl), He.meth_ok (c.fact 4 (f := .meth "World" "of") rfl), v.l5.cal hr (bi5_1 (P := P) (w := w) (S := S))⟩
  c19_0 := v.l19.calG (He.glo_ok X Gn (c.fact 18 (f := .glo "_law_thing") rfl)) hr (bi19_0 (P := P) (w := w) (S := S))
  c20_0 := v.l20.calG (He.glo_ok X Gn (c.fact 19 (f := .glo "_law_seen") rfl)) hr (bi20_0 (P := P) (w := w) (S := S))
  n_World := FnAt.mak (kk := cls.getD 0 ⟨[], 0⟩) v1.l4 rfl (He.glo_ok X Gn (c.fact 22 (f := .glo "World") rfl)) (He.mkr_ok (c.fact 23 (f := .mkr "World") rfl)) hr (fun fd F => (by obtain ⟨ds, dvs, h1, h2, h3⟩ := bi4_0 (P := P) (w := w) (S := S) fd F; cases h3 [] (fun _ => none); cases h2; exact h1))
  c18_0 := v.l18.calG (He.glo_ok X Gn (c.fact 17 (f := .glo "_law_all_truths") rfl)) hr (bi18_0 (P := P) (w := w) (S := S))
theorem hdZ {P : Program} {w : World} {mg : Str → Option Value} {base : Heap} {S : List Int} {n : Nat} {d : He.DefD} {ps : List Str} (c : He.SaysD fa fn K) (i : Nat) (hi : fn[i]? = some d) : FnAt P w K mg base (Zf P w K S) d ps n (callN (Gp S) fuel 0 i) := by
  obtain ⟨fd, F⟩ := c.def_ i (d := d) hi
  exact ⟨fd, F, fn_bad fun _ _ => rfl⟩
theorem lv0 (c : He.SaysD fa fn K) (n : Nat) : Lv P w K mg base S n 0 where
  l0 := hdZ c 0 rfl
  l1 := hdZ c 1 rfl
  l2 := hdZ c 2 rfl
  l3 := hdZ c 3 rfl
  l4 := hdZ c 4 rfl
  l5 := hdZ c 5 rfl
  l6 := hdZ c 6 rfl
  l7 := hdZ c 7 rfl
  l8 := hdZ c 8 rfl
  l9 := hdZ c 9 rfl
  l10 := hdZ c 10 rfl
  l11 := hdZ c 11 rfl
  l12 := hdZ c 12 rfl
  l13 := hdZ c 13 rfl
  l14 := hdZ c 14 rfl
  l15 := hdZ c 15 rfl
  l16 := hdZ c 16 rfl
  l17 := hdZ c 17 rfl
  l18 := hdZ c 18 rfl
  l19 := hdZ c 19 rfl
  l20 := hdZ c 20 rfl
def TabsB (K : PySem.W.Frag) (mg : Str → Option Value) (base : Heap) : Prop := (∀ p ∈ tf.map (He.cT K), LamX.TabB base mg p.1 p.2) ∧ ex K = true
theorem lm5 (t : TabsB K mg base) {cdv : Value} (hcv : ∀ p, He.fAd K p = He.fAd K d5.at_ → cdv = .ref (He.codeOf K p)) {A : Around} {outer : List Env} {s : Shared} {H : Hp} {E : XK} : LmOk (hdX N5 "World.of" (inClass (top 8) 1) P w K mg base (He.fAd K d5.at_) cdv A outer s H E) (Zf P w K S) := by
  refine ⟨_, _, t.1 (He.cT K d5.at_) (List.mem_map.mpr ⟨d5.at_, by simp [tf], rfl⟩), hcv d5.at_ rfl, ?_, ?_⟩
  · show ((He.cT K d5.at_).2, ("World.of.<locals>." : Str) ++ "<lambda>") ∈ (Zf P w K S).T
    rw [show ("World.of.<locals>." : Str) ++ "<lambda>" = ("World.of.<locals>.<lambda>" : Str) from by decide +kernel]
    simp [Zf]
  · intro p hp he
    show p.2 = ("World.of.<locals>." : Str) ++ "<lambda>"
    rw [show ("World.of.<locals>." : Str) ++ "<lambda>" = ("World.of.<locals>.<lambda>" : Str) from by decide +kernel]
    have hx := of_decide_eq_true t.2
    simp only [tf, List.map_cons, List.map_nil, List.nodup_cons, List.mem_cons, List.not_mem_nil, or_false, not_or, and_true, List.nodup_nil, not_false_eq_true] at hx
    simp only [Zf, List.mem_cons, List.not_mem_nil, or_false] at hp
    rcases hp with rfl | rfl <;> first | rfl | (exfalso; simp_all)
theorem lm21 (t : TabsB K mg base) {cdv : Value} (hcv : ∀ p, He.fAd K p = He.fAd K d21.at_ → cdv = .ref (He.codeOf K p)) {A : Around} {outer : List Env} {s : Shared} {H : Hp} {E : XK} : LmOk (hdX N21 "law" (top 20) P w K mg base (He.fAd K d21.at_) cdv A outer s H E) (Zf P w K S) := by
  refine ⟨_, _, t.1 (He.cT K d21.at_) (List.mem_map.mpr ⟨d21.at_, by simp [tf], rfl⟩), hcv d21.at_ rfl, ?_, ?_⟩
  · show ((He.cT K d21.at_).2, ("law.<locals>." : Str) ++ "<lambda>") ∈ (Zf P w K S).T
    rw [show ("law.<locals>." : Str) ++ "<lambda>" = ("law.<locals>.<lambda>" : Str) from by decide +kernel]
    simp [Zf]
  · intro p hp he
    show p.2 = ("law.<locals>." : Str) ++ "<lambda>"
    rw [show ("law.<locals>." : Str) ++ "<lambda>" = ("law.<locals>.<lambda>" : Str) from by decide +kernel]
    have hx := of_decide_eq_true t.2
    simp only [tf, List.map_cons, List.map_nil, List.nodup_cons, List.mem_cons, List.not_mem_nil, or_false, not_or, and_true, List.nodup_nil, not_false_eq_true] at hx
    simp only [Zf, List.mem_cons, List.not_mem_nil, or_false] at hp
    rcases hp with rfl | rfl <;> first | rfl | (exfalso; simp_all)
theorem hdO {a : Str × Option Str} {m q : Str} {z : Stmt} {l : List He.Dv} {kw : List (Str × He.Dv)} {N ps : List Str} {df : MP.Df} (X : K.In h) (Gn : h.Ns mainGlobals mg) (c : He.SaysD fa fn K) (t : TabsB K mg base) (v : Lv P w K mg base S (k + 1) k) (v1 : Lv P w K mg base S k (k - 1)) (i : Nat) (hi : fn[i]? = some (hdD a m q z l kw)) (hd : dfs[i]? = some df) (sc : FnScope N ps (defScope z)) (hs : df.slots = N.length) (hn : df.npar = ps.length) (b : hdB N q z df.body) : FnAt P w K mg base (Zf P w K S) (hdD a m q z l kw) ps (k + 2) (callN (Gp S) fuel (k + 1) i) := by
  obtain ⟨fd, F⟩ := c.def_ i (d := hdD a m q z l kw) hi
  refine ⟨fd, F, fn_mp (fu := fuel) (k := k + 1) (d := df) (N := N) F sc ⟨rfl, rfl, rfl⟩ rfl hs hn (fun ws M => ?_) fun cdv hcv A outer s H E hr kx po => b kx po (en_of X Gn c t.2 hr v v1)⟩
  rw [callN_succ (Gp S) fuel k i ws M, show (Gp S).df i = some df from hd]
theorem hdM {a : Str × Option Str} {m q : Str} {z : Stmt} {l : List He.Dv} {kw : List (Str × He.Dv)} {N ps : List Str} {df : MP.Df} (X : K.In h) (Gn : h.Ns mainGlobals mg) (c : He.SaysD fa fn K) (t : TabsB K mg base) (v : Lv P w K mg base S (k + 1) k) (v1 : Lv P w K mg base S k (k - 1)) (i : Nat) (hi : fn[i]? = some (hdD a m q z l kw)) (hd : dfs[i]? = some df) (sc : FnScope N ps (defScope z)) (hs : df.slots = N.length) (hn : df.npar = ps.length) (b : hdL N q z df.body) (hl : ∀ (cdv : Value), (∀ p, He.fAd K p = He.fAd K a → cdv = .ref (He.codeOf K p)) → ∀ (A : Around) (outer : List Env) (s : Shared) (H : Hp) (E : XK), LmOk (hdX N q z P w K mg base (He.fAd K a) cdv A outer s H E) (Zf P w K S)) : FnAt P w K mg base (Zf P w K S) (hdD a m q z l kw) ps (k + 2) (callN (Gp S) fuel (k + 1) i) := by
  obtain ⟨fd, F⟩ := c.def_ i (d := hdD a m q z l kw) hi
  refine ⟨fd, F, fn_mp (fu := fuel) (k := k + 1) (d := df) (N := N) F sc ⟨rfl, rfl, rfl⟩ rfl hs hn (fun ws M => ?_) fun cdv hcv A outer s H E hr kx po => b kx po (en_of X Gn c t.2 hr v v1) (hl cdv hcv A outer s H E) hr.rd4⟩
  rw [callN_succ (Gp S) fuel k i ws M, show (Gp S).df i = some df from hd]
theorem lv1 (X : K.In h) (Gn : h.Ns mainGlobals mg) (c : He.SaysD fa fn K) (t : TabsB K mg base) (v : Lv P w K mg base S (k + 1) k) (v1 : Lv P w K mg base S k (k - 1)) : Lv P w K mg base S (k + 2) (k + 1) where
  l0 := hdO X Gn c t v v1 0 rfl rfl sc0 rfl rfl b0
  l1 := hdO X Gn c t v v1 1 rfl rfl sc1 rfl rfl b1
  l2 := hdO X Gn c t v v1 2 rfl rfl sc2 rfl rfl b2
  l3 := hdO X Gn c t v v1 3 rfl rfl sc3 rfl rfl b3
  l4 := hdO X Gn c t v v1 4 rfl rfl sc4 rfl rfl b4
  l5 := hdM X Gn c t v v1 5 rfl rfl sc5 rfl rfl b5 fun cdv hcv A outer s H E => lm5 t hcv
  l6 := hdO X Gn c t v v1 6 rfl rfl sc6 rfl rfl b6
  l7 := hdO X Gn c t v v1 7 rfl rfl sc7 rfl rfl b7
  l8 := hdO X Gn c t v v1 8 rfl rfl sc8 rfl rfl b8
  l9 := hdO X Gn c t v v1 9 rfl rfl sc9 rfl rfl b9
  l10 := hdO X Gn c t v v1 10 rfl rfl sc10 rfl rfl b10
  l11 := hdO X Gn c t v v1 11 rfl rfl sc11 rfl rfl b11
  l12 := hdO X Gn c t v v1 12 rfl rfl sc12 rfl rfl b12
  l13 := hdO X Gn c t v v1 13 rfl rfl sc13 rfl rfl b13
  l14 := hdO X Gn c t v v1 14 rfl rfl sc14 rfl rfl b14
  l15 := hdO X Gn c t v v1 15 rfl rfl sc15 rfl rfl b15
  l16 := hdO X Gn c t v v1 16 rfl rfl sc16 rfl rfl b16
  l17 := hdO X Gn c t v v1 17 rfl rfl sc17 rfl rfl b17
  l18 := hdO X Gn c t v v1 18 rfl rfl sc18 rfl rfl b18
  l19 := hdO X Gn c t v v1 19 rfl rfl sc19 rfl rfl b19
  l20 := hdO X Gn c t v v1 20 rfl rfl sc20 rfl rfl b20
theorem lvs (X : K.In h) (Gn : h.Ns mainGlobals mg) (c : He.SaysD fa fn K) (t : TabsB K mg base) : ∀ k : Nat, Lv P w K mg base S (k + 1) k ∧ Lv P w K mg base S k (k - 1)
  | 0 => ⟨lv0 c 1, lv0 c 0⟩
  | k + 1 => ⟨lv1 X Gn c t (lvs X Gn c t k).1 (lvs X Gn c t k).2, (lvs X Gn c t k).1⟩
end
theorem facts {P : Program} {w : World} {K : PySem.W.Frag} {h : Heap} {mg : Str → Option Value} {f : Addr} (X : K.In h) (Gn : h.Ns mainGlobals mg) (hfa : mg ("law" : Str) = some (.ref f)) (c : He.SaysD fa fn K) (cx : ex K = true) :
    ∃ fd : FuncData, (∀ (s : Shared) (v : Value), BindsTo s fd ⟨[v], []⟩ [("script", v)]) ∧ ∀ base : Heap, K.In base → base.Ns mainGlobals mg → (∀ p ∈ tf.map (He.cT K), LamX.TabB base mg p.1 p.2) → ∀ S : List Int, FnG P w K mg base 22 f fd ["script"] (spL (Zf P w K S) (callN (Gp S) fuel 21 21)) := by
  obtain ⟨fd, F⟩ := c.def_ 21 (d := d21) rfl
  have e := hfa.symm.trans (He.glo_ok X Gn (c.fact 20 (f := .glo "law") rfl))
  cases e
  have b := FunD.bindsA (ps := ["script"]) F fun _ _ _ _ _ _ us hl => match us, hl with | [_], _ => rfl
  refine ⟨fd, fun s v => b s [v] rfl, fun base KB GB TB S => ?_⟩
  obtain ⟨v, v1⟩ := lvs (P := P) (w := w) (base := base) (S := S) X Gn c ⟨TB, cx⟩ 20
  exact fn_law2 (k := 21) (d := df_law) (N := N21) F sc21 ⟨rfl, rfl, rfl⟩ rfl rfl rfl rfl (fun ws M => callN_succ (Gp S) fuel 20 21 ws M) fun cdv hcv A outer s H E hr kx po => b21 kx po (en_of (k := 20) X Gn c cx hr v v1) (lm21 ⟨TB, cx⟩ hcv) hr.rd4
end Bh
open PySem PySem.W PySem.Calls PyProof.Rows in
theorem Bh.holds_of (hm : ∀ S : List Int, S.length ≤ 63 → (∀ z ∈ S, Builtin.Int.intBits z ≤ 1048576) → ∃ M, MP.callN (Bh.Gp S) Bh.fuel 21 Bh.ix_law [.scr] [] = .ok (.bl true) M) : PySem.Challenge.rw_basinhouse_k03_whole_worlds.Holds := by
  w_on; o_law
  refine HandSHeadRun.head_any (r := OpenLaw.row PySem.Challenge.rw_basinhouse_k03_whole_worlds) (q := view (OpenLaw.row PySem.Challenge.rw_basinhouse_k03_whole_worlds).prog [20]) (H := Bh.hk) (ob := Bh.ob) (M := 8000) (loose := Bh.nms) (d := HandSHeadRun.topDef (OpenLaw.row PySem.Challenge.rw_basinhouse_k03_whole_worlds).prog 20) (kwd := []) Bh.ob_eq
    (by kernel_rfl) (fun s => by kernel_rfl) Bh.run (by kernel_rfl) (by kernel_rfl) (by kernel_rfl) (by rfl) (by first | assumption | decide +kernel) (by decide +kernel) ⟨rfl, rfl, rfl, rfl, rfl, by decide +kernel⟩ ?hw ?hc
  case hw => w_witness2
  case hc =>
    refine MP.walkG (l := PySem.Challenge.rw_basinhouse_k03_whole_worlds) (n := 63) (k := 22) rfl (by decide) (by kernel_rfl) ⟨rfl, by decide, by decide⟩ ?F
    intro w mg fa h Y G hmg0
    obtain ⟨K, KX, c⟩ := Y
    have hmg : mg ("law" : PySem.Str) = some (.ref fa) := by
      have e : (HandSHeadRun.topDef (OpenLaw.row PySem.Challenge.rw_basinhouse_k03_whole_worlds).prog 20).name = ("law" : PySem.Str) := by kernel_rfl
      rw [← e]
      exact hmg0
    obtain ⟨fd, hb, hF⟩ := Bh.facts (P := (PySem.Challenge.rw_basinhouse_k03_whole_worlds).prog) (w := w) KX G hmg c.t.d c.more
    exact ⟨K, KX, MP.law_at (Fc := fun S => MP.callN (Bh.Gp S) Bh.fuel 21 21) (Zs := fun S => Bh.Zf _ w K S) KX c hm (fun S => ⟨rfl, rfl, fun p hp => by simp only [Bh.Zf, List.mem_cons, List.not_mem_nil, or_false] at hp; rcases hp with rfl | rfl <;> simp [Bh.tf]⟩) hb hF⟩
end
section
set_option Elab.async false
set_option linter.all false
set_option maxRecDepth 100000
set_option maxHeartbeats 0
namespace Bh
open PySem MP
theorem sat_eq {α : Type} {x : Out α} {v : α} {M : Mem} (h : x.sat fun a M' => a = v ∧ M' = M) : x = .ok v M := by
  obtain ⟨a, M', e, rfl, rfl⟩ := sat_ex h
  exact e
theorem run_sat {S : List Int} {C C1 : Nat → List Wv → Mem → Out Wv} {d : Df} {ws : List Wv} {M : Mem} {Q : Wv → Mem → Prop} (hn : ws.length = d.npar) (h : (evSl (Gp S) C C1 fuel d.body (ws.map some ++ List.replicate (d.slots - ws.length) none) M).sat fun r M => match r.1 with
    | .ret w => Q w M
    | .nx => Q .non M
    | _ => False) : (runD (Gp S) C C1 fuel d ws M).sat Q := by
  unfold runD
  rw [sat_chk, sat_bind]
  refine ⟨decide_eq_true hn, sat_mono h fun r M h => ?_⟩
  obtain ⟨f, σ⟩ := r
  cases f <;> exact h
theorem drawn_ok (S : List Int) (hl : S.length ≤ 63) (k : Nat) (i many : Int) (hi : 0 ≤ i) (hm : 0 < many) (M : Mem) :
    (callN (Gp S) fuel (k + 1) ix__law_drawn [.scr, .int i, .int many] M).sat fun v M' => M <+: M' ∧ ∃ r : Int, v = .int r ∧ 0 ≤ r ∧ r < many := by
  rw [at__law_drawn]
  refine run_sat rfl ?_
  show (evSl (Gp S) _ _ fuel sl__law_drawn [some .scr, some (.int i), some (.int many), none, none, none] M).sat _
  unfold sl__law_drawn
  simp only [q_nil, q_cons, k_nx, k_ret, k_brk, k_ct, q_asg, q_asgA, q_asgS, q_aug, q_ex, q_ret, q_retN, q_pass, q_brk, q_cont, q_ifs, q_for, q_whl, b_t, b_f, be_t, be_f, ba_t, ba_f, bo_t, bo_f, t_bl, t_int, t_non,     q_var, q_con, q_glb, q_tup, q_lst, q_dict0, q_bin, q_neg, q_not, q_and, q_or, q_ife, q_cmp, q_cmp2, q_attr, q_sub, q_srev, q_call, q_callk, q_meth, q_bm, q_new, q_bi, q_isi, q_lc, q_lc2, q_dc, q_sortk, q_sortv, q_sortvM, q_maxk, q_sortm, q_dict2, q_anil, q_acons, q_ival, q_items, q_vals, q_rng, q_zip, q_cntT, q_tab, q_tnin, q_zipT,     o_add, o_sub, o_mul, o_fdiv, o_mod, o_pow18, o_addT, ag_add, ag_sub, c_lt, c_gt, c_le, c_ge, c_eq, c_ne, c_is, c_isn, c_in, c_nin, u_tup, u_scr, n_scr, n_tup, n_str, n_abs, n_min2, n_min3, n_max2, tg_nm, tg_2, tg_3, at_0, at_1, at_2, at_3, at_4, i_int, sat_some, getV_0, getV_s,     List.set_cons_zero, List.set_cons_succ, List.map_cons, List.map_nil, List.replicate_succ, List.replicate_zero, List.cons_append, List.nil_append, List.length_cons, List.length_nil]
  refine ⟨mul_l (by decide), len_ok (by decide), _, eqW_scr (at_new M _), ?_⟩
  generalize hK : kont (Gp S) _ _ fuel _ _ = K
  have h1 : ∀ (c : Int) (a b : Option Wv) (M' : Mem), M <+: M' → K (.nx, [some .scr, some (.int i), some (.int many), some (.int c), a, b]) M' := by
    intro c a b M' hp
    rw [← hK]
    simp only [q_nil, q_cons, k_nx, k_ret, k_brk, k_ct, q_asg, q_asgA, q_asgS, q_aug, q_ex, q_ret, q_retN, q_pass, q_brk, q_cont, q_ifs, q_for, q_whl, b_t, b_f, be_t, be_f, ba_t, ba_f, bo_t, bo_f, t_bl, t_int, t_non,     q_var, q_con, q_glb, q_tup, q_lst, q_dict0, q_bin, q_neg, q_not, q_and, q_or, q_ife, q_cmp, q_cmp2, q_attr, q_sub, q_srev, q_call, q_callk, q_meth, q_bm, q_new, q_bi, q_isi, q_lc, q_lc2, q_dc, q_sortk, q_sortv, q_sortvM, q_maxk, q_sortm, q_dict2, q_anil, q_acons, q_ival, q_items, q_vals, q_rng, q_zip, q_cntT, q_tab, q_tnin, q_zipT,     o_add, o_sub, o_mul, o_fdiv, o_mod, o_pow18, o_addT, ag_add, ag_sub, c_lt, c_gt, c_le, c_ge, c_eq, c_ne, c_is, c_isn, c_in, c_nin, u_tup, u_scr, n_scr, n_tup, n_str, n_abs, n_min2, n_min3, n_max2, tg_nm, tg_2, tg_3, at_0, at_1, at_2, at_3, at_4, i_int, sat_some, getV_0, getV_s,     List.set_cons_zero, List.set_cons_succ, List.map_cons, List.map_nil, List.replicate_succ, List.replicate_zero, List.cons_append, List.nil_append, List.length_cons, List.length_nil]
    have m0 : ∀ z : Int, 0 ≤ z % 2147483563 ∧ z % 2147483563 < 2147483563 := fun z => ⟨Int.emod_nonneg _ (by decide), Int.emod_lt_of_pos _ (by decide)⟩
    have m1 : ∀ z : Int, 0 ≤ z % 2147483399 ∧ z % 2147483399 < 2147483399 := fun z => ⟨Int.emod_nonneg _ (by decide), Int.emod_lt_of_pos _ (by decide)⟩
    refine ⟨by decide, mul_r (by decide), mul_l (by decide), by decide, mul_l ?_, by decide, by decide, mul_l ?_, by decide, by decide, by decide, decide_eq_true hm, hp, _, rfl, Int.emod_nonneg _ (by omega), Int.emod_lt_of_pos _ hm⟩
    · have := m0 (c % 2147483563 * 69069 + 104723 * (i + 1)); omega
    · generalize (c % 2147483563 * 69069 + 104723 * (i + 1)) % 2147483563 = z
      have := m1 (z * z + z / 3); omega
  have h2 : ∀ (r : Int) (σ : Sw) (M' : Mem), M <+: M' → 0 ≤ r → r < many → K (.ret (.int r), σ) M' := by
    intro r σ M' hp h1 h2
    rw [← hK]
    simp only [q_nil, q_cons, k_nx, k_ret, k_brk, k_ct, q_asg, q_asgA, q_asgS, q_aug, q_ex, q_ret, q_retN, q_pass, q_brk, q_cont, q_ifs, q_for, q_whl, b_t, b_f, be_t, be_f, ba_t, ba_f, bo_t, bo_f, t_bl, t_int, t_non,     q_var, q_con, q_glb, q_tup, q_lst, q_dict0, q_bin, q_neg, q_not, q_and, q_or, q_ife, q_cmp, q_cmp2, q_attr, q_sub, q_srev, q_call, q_callk, q_meth, q_bm, q_new, q_bi, q_isi, q_lc, q_lc2, q_dc, q_sortk, q_sortv, q_sortvM, q_maxk, q_sortm, q_dict2, q_anil, q_acons, q_ival, q_items, q_vals, q_rng, q_zip, q_cntT, q_tab, q_tnin, q_zipT,     o_add, o_sub, o_mul, o_fdiv, o_mod, o_pow18, o_addT, ag_add, ag_sub, c_lt, c_gt, c_le, c_ge, c_eq, c_ne, c_is, c_isn, c_in, c_nin, u_tup, u_scr, n_scr, n_tup, n_str, n_abs, n_min2, n_min3, n_max2, tg_nm, tg_2, tg_3, at_0, at_1, at_2, at_3, at_4, i_int, sat_some, getV_0, getV_s,     List.set_cons_zero, List.set_cons_succ, List.map_cons, List.map_nil, List.replicate_succ, List.replicate_zero, List.cons_append, List.nil_append, List.length_cons, List.length_nil]
    exact ⟨hp, r, rfl, h1, h2⟩
  clear hK
  have hp : M <+: M ++ [Ob.lst []] := List.prefix_append _ _
  cases hS : S with
  | nil =>
    subst hS
    show brS _ _ _ _ false _ _ _ _ _
    simp only [q_nil, q_cons, k_nx, k_ret, k_brk, k_ct, q_asg, q_asgA, q_asgS, q_aug, q_ex, q_ret, q_retN, q_pass, q_brk, q_cont, q_ifs, q_for, q_whl, b_t, b_f, be_t, be_f, ba_t, ba_f, bo_t, bo_f, t_bl, t_int, t_non,     q_var, q_con, q_glb, q_tup, q_lst, q_dict0, q_bin, q_neg, q_not, q_and, q_or, q_ife, q_cmp, q_cmp2, q_attr, q_sub, q_srev, q_call, q_callk, q_meth, q_bm, q_new, q_bi, q_isi, q_lc, q_lc2, q_dc, q_sortk, q_sortv, q_sortvM, q_maxk, q_sortm, q_dict2, q_anil, q_acons, q_ival, q_items, q_vals, q_rng, q_zip, q_cntT, q_tab, q_tnin, q_zipT,     o_add, o_sub, o_mul, o_fdiv, o_mod, o_pow18, o_addT, ag_add, ag_sub, c_lt, c_gt, c_le, c_ge, c_eq, c_ne, c_is, c_isn, c_in, c_nin, u_tup, u_scr, n_scr, n_tup, n_str, n_abs, n_min2, n_min3, n_max2, tg_nm, tg_2, tg_3, at_0, at_1, at_2, at_3, at_4, i_int, sat_some, getV_0, getV_s,     List.set_cons_zero, List.set_cons_succ, List.map_cons, List.map_nil, List.replicate_succ, List.replicate_zero, List.cons_append, List.nil_append, List.length_cons, List.length_nil]
    exact h1 _ _ _ _ hp
  | cons s0 S0 =>
    rw [← hS]
    have hb : (!(Gp S).S.isEmpty) = true := by rw [hS]; rfl
    rw [hb]
    have hlen : (0 : Int) < (S.length : Int) := by rw [hS]; simp
    have hmod := Int.emod_nonneg i (show (S.length : Int) ≠ 0 by omega)
    have hmod2 := Int.emod_lt_of_pos i hlen
    have hdiv : 0 ≤ i / (S.length : Int) := Int.ediv_nonneg hi (by omega)
    simp only [q_nil, q_cons, k_nx, k_ret, k_brk, k_ct, q_asg, q_asgA, q_asgS, q_aug, q_ex, q_ret, q_retN, q_pass, q_brk, q_cont, q_ifs, q_for, q_whl, b_t, b_f, be_t, be_f, ba_t, ba_f, bo_t, bo_f, t_bl, t_int, t_non,     q_var, q_con, q_glb, q_tup, q_lst, q_dict0, q_bin, q_neg, q_not, q_and, q_or, q_ife, q_cmp, q_cmp2, q_attr, q_sub, q_srev, q_call, q_callk, q_meth, q_bm, q_new, q_bi, q_isi, q_lc, q_lc2, q_dc, q_sortk, q_sortv, q_sortvM, q_maxk, q_sortm, q_dict2, q_anil, q_acons, q_ival, q_items, q_vals, q_rng, q_zip, q_cntT, q_tab, q_tnin, q_zipT,     o_add, o_sub, o_mul, o_fdiv, o_mod, o_pow18, o_addT, ag_add, ag_sub, c_lt, c_gt, c_le, c_ge, c_eq, c_ne, c_is, c_isn, c_in, c_nin, u_tup, u_scr, n_scr, n_tup, n_str, n_abs, n_min2, n_min3, n_max2, tg_nm, tg_2, tg_3, at_0, at_1, at_2, at_3, at_4, i_int, sat_some, getV_0, getV_s,     List.set_cons_zero, List.set_cons_succ, List.map_cons, List.map_nil, List.replicate_succ, List.replicate_zero, List.cons_append, List.nil_append, List.length_cons, List.length_nil]
    obtain ⟨c, hc⟩ : ∃ c, atI S (i % (S.length : Int)) = some c := by
      obtain ⟨j, hj⟩ := Int.eq_ofNat_of_zero_le hmod
      rw [hj]
      refine ⟨S[j]'(by omega), at_nat (List.getElem?_eq_getElem _)⟩
    refine ⟨decide_eq_true hlen, c, hc, ?_⟩
    have hlen2 : (decide (0 < ((Gp S).S.length : Int)) && decide (((Gp S).S.length : Int) < 2 ^ 200)) = true := by
      show (decide (0 < (S.length : Int)) && decide ((S.length : Int) < 2 ^ 200)) = true
      rw [decide_eq_true hlen, decide_eq_true (by omega)]; rfl
    refine ⟨hlen2, ?_⟩
    have e1 : ((Gp S).S.length : Int) = S.length := rfl
    rw [e1]
    generalize hu : i / (S.length : Int) = turn at *
    generalize hK : kont (Gp S) _ _ fuel _ K = K2
    have h3 : ∀ (a b : Option Wv) (M' : Mem), M <+: M' → K2 (.nx, [some .scr, some (.int i), some (.int many), some (.int c), a, b]) M' := by
      intro a b M' hp
      rw [← hK]
      simp only [q_nil, q_cons, k_nx, k_ret, k_brk, k_ct, q_asg, q_asgA, q_asgS, q_aug, q_ex, q_ret, q_retN, q_pass, q_brk, q_cont, q_ifs, q_for, q_whl, b_t, b_f, be_t, be_f, ba_t, ba_f, bo_t, bo_f, t_bl, t_int, t_non,     q_var, q_con, q_glb, q_tup, q_lst, q_dict0, q_bin, q_neg, q_not, q_and, q_or, q_ife, q_cmp, q_cmp2, q_attr, q_sub, q_srev, q_call, q_callk, q_meth, q_bm, q_new, q_bi, q_isi, q_lc, q_lc2, q_dc, q_sortk, q_sortv, q_sortvM, q_maxk, q_sortm, q_dict2, q_anil, q_acons, q_ival, q_items, q_vals, q_rng, q_zip, q_cntT, q_tab, q_tnin, q_zipT,     o_add, o_sub, o_mul, o_fdiv, o_mod, o_pow18, o_addT, ag_add, ag_sub, c_lt, c_gt, c_le, c_ge, c_eq, c_ne, c_is, c_isn, c_in, c_nin, u_tup, u_scr, n_scr, n_tup, n_str, n_abs, n_min2, n_min3, n_max2, tg_nm, tg_2, tg_3, at_0, at_1, at_2, at_3, at_4, i_int, sat_some, getV_0, getV_s,     List.set_cons_zero, List.set_cons_succ, List.map_cons, List.map_nil, List.replicate_succ, List.replicate_zero, List.cons_append, List.nil_append, List.length_cons, List.length_nil]
      exact ⟨hlen2, mul_l (by decide), h1 _ _ _ _ hp⟩
    have h4 : ∀ (r : Int) (σ : Sw) (M' : Mem), M <+: M' → 0 ≤ r → r < many → K2 (.ret (.int r), σ) M' := by
      intro r σ M' hp g1 g2
      rw [← hK]
      exact h2 r σ M' hp g1 g2
    clear hK h1 h2
    by_cases hc1 : 1000000000000000000 ≤ c
    · rw [decide_eq_true hc1]
      simp only [q_nil, q_cons, k_nx, k_ret, k_brk, k_ct, q_asg, q_asgA, q_asgS, q_aug, q_ex, q_ret, q_retN, q_pass, q_brk, q_cont, q_ifs, q_for, q_whl, b_t, b_f, be_t, be_f, ba_t, ba_f, bo_t, bo_f, t_bl, t_int, t_non,     q_var, q_con, q_glb, q_tup, q_lst, q_dict0, q_bin, q_neg, q_not, q_and, q_or, q_ife, q_cmp, q_cmp2, q_attr, q_sub, q_srev, q_call, q_callk, q_meth, q_bm, q_new, q_bi, q_isi, q_lc, q_lc2, q_dc, q_sortk, q_sortv, q_sortvM, q_maxk, q_sortm, q_dict2, q_anil, q_acons, q_ival, q_items, q_vals, q_rng, q_zip, q_cntT, q_tab, q_tnin, q_zipT,     o_add, o_sub, o_mul, o_fdiv, o_mod, o_pow18, o_addT, ag_add, ag_sub, c_lt, c_gt, c_le, c_ge, c_eq, c_ne, c_is, c_isn, c_in, c_nin, u_tup, u_scr, n_scr, n_tup, n_str, n_abs, n_min2, n_min3, n_max2, tg_nm, tg_2, tg_3, at_0, at_1, at_2, at_3, at_4, i_int, sat_some, getV_0, getV_s,     List.set_cons_zero, List.set_cons_succ, List.map_cons, List.map_nil, List.replicate_succ, List.replicate_zero, List.cons_append, List.nil_append, List.length_cons, List.length_nil]
      by_cases hc2 : turn < 60
      · rw [decide_eq_true hc2]
        simp only [q_nil, q_cons, k_nx, k_ret, k_brk, k_ct, q_asg, q_asgA, q_asgS, q_aug, q_ex, q_ret, q_retN, q_pass, q_brk, q_cont, q_ifs, q_for, q_whl, b_t, b_f, be_t, be_f, ba_t, ba_f, bo_t, bo_f, t_bl, t_int, t_non,     q_var, q_con, q_glb, q_tup, q_lst, q_dict0, q_bin, q_neg, q_not, q_and, q_or, q_ife, q_cmp, q_cmp2, q_attr, q_sub, q_srev, q_call, q_callk, q_meth, q_bm, q_new, q_bi, q_isi, q_lc, q_lc2, q_dc, q_sortk, q_sortv, q_sortvM, q_maxk, q_sortm, q_dict2, q_anil, q_acons, q_ival, q_items, q_vals, q_rng, q_zip, q_cntT, q_tab, q_tnin, q_zipT,     o_add, o_sub, o_mul, o_fdiv, o_mod, o_pow18, o_addT, ag_add, ag_sub, c_lt, c_gt, c_le, c_ge, c_eq, c_ne, c_is, c_isn, c_in, c_nin, u_tup, u_scr, n_scr, n_tup, n_str, n_abs, n_min2, n_min3, n_max2, tg_nm, tg_2, tg_3, at_0, at_1, at_2, at_3, at_4, i_int, sat_some, getV_0, getV_s,     List.set_cons_zero, List.set_cons_succ, List.map_cons, List.map_nil, List.replicate_succ, List.replicate_zero, List.cons_append, List.nil_append, List.length_cons, List.length_nil]
        refine ⟨by decide, ?_⟩
        refine whl_rule (fun m σ M' => ∃ t r : Int, σ = [some .scr, some (.int i), some (.int many), some (.int c), some (.int t), some (.int r)] ∧ 0 ≤ t ∧ m = t.toNat ∧ 0 ≤ r ∧ M' = M ++ [Ob.lst []]) ?_ fuel turn.toNat _ _ ⟨turn, _, rfl, hdiv, rfl, Int.ediv_nonneg (by omega) (by decide), rfl⟩ (by unfold fuel; omega)
        rintro m σ M' ⟨t, r, rfl, ht, rfl, hr, rfl⟩
        simp only [q_nil, q_cons, k_nx, k_ret, k_brk, k_ct, q_asg, q_asgA, q_asgS, q_aug, q_ex, q_ret, q_retN, q_pass, q_brk, q_cont, q_ifs, q_for, q_whl, b_t, b_f, be_t, be_f, ba_t, ba_f, bo_t, bo_f, t_bl, t_int, t_non,     q_var, q_con, q_glb, q_tup, q_lst, q_dict0, q_bin, q_neg, q_not, q_and, q_or, q_ife, q_cmp, q_cmp2, q_attr, q_sub, q_srev, q_call, q_callk, q_meth, q_bm, q_new, q_bi, q_isi, q_lc, q_lc2, q_dc, q_sortk, q_sortv, q_sortvM, q_maxk, q_sortm, q_dict2, q_anil, q_acons, q_ival, q_items, q_vals, q_rng, q_zip, q_cntT, q_tab, q_tnin, q_zipT,     o_add, o_sub, o_mul, o_fdiv, o_mod, o_pow18, o_addT, ag_add, ag_sub, c_lt, c_gt, c_le, c_ge, c_eq, c_ne, c_is, c_isn, c_in, c_nin, u_tup, u_scr, n_scr, n_tup, n_str, n_abs, n_min2, n_min3, n_max2, tg_nm, tg_2, tg_3, at_0, at_1, at_2, at_3, at_4, i_int, sat_some, getV_0, getV_s,     List.set_cons_zero, List.set_cons_succ, List.map_cons, List.map_nil, List.replicate_succ, List.replicate_zero, List.cons_append, List.nil_append, List.length_cons, List.length_nil]
        by_cases hr0 : 0 < r
        · rw [decide_eq_true hr0]
          simp only [q_nil, q_cons, k_nx, k_ret, k_brk, k_ct, q_asg, q_asgA, q_asgS, q_aug, q_ex, q_ret, q_retN, q_pass, q_brk, q_cont, q_ifs, q_for, q_whl, b_t, b_f, be_t, be_f, ba_t, ba_f, bo_t, bo_f, t_bl, t_int, t_non,     q_var, q_con, q_glb, q_tup, q_lst, q_dict0, q_bin, q_neg, q_not, q_and, q_or, q_ife, q_cmp, q_cmp2, q_attr, q_sub, q_srev, q_call, q_callk, q_meth, q_bm, q_new, q_bi, q_isi, q_lc, q_lc2, q_dc, q_sortk, q_sortv, q_sortvM, q_maxk, q_sortm, q_dict2, q_anil, q_acons, q_ival, q_items, q_vals, q_rng, q_zip, q_cntT, q_tab, q_tnin, q_zipT,     o_add, o_sub, o_mul, o_fdiv, o_mod, o_pow18, o_addT, ag_add, ag_sub, c_lt, c_gt, c_le, c_ge, c_eq, c_ne, c_is, c_isn, c_in, c_nin, u_tup, u_scr, n_scr, n_tup, n_str, n_abs, n_min2, n_min3, n_max2, tg_nm, tg_2, tg_3, at_0, at_1, at_2, at_3, at_4, i_int, sat_some, getV_0, getV_s,     List.set_cons_zero, List.set_cons_succ, List.map_cons, List.map_nil, List.replicate_succ, List.replicate_zero, List.cons_append, List.nil_append, List.length_cons, List.length_nil]
          refine ⟨_, rfl, fun h => ?_, fun _ => ⟨by decide, decide_eq_true hm, h4 _ _ _ hp (Int.emod_nonneg _ (by omega)) (Int.emod_lt_of_pos _ hm)⟩⟩
          have ht0 := of_decide_eq_true h
          refine ⟨by decide, _, ?_, _, _, rfl, ?_, rfl, Int.ediv_nonneg hr (by decide), trivial⟩ <;> omega
        · rw [decide_eq_false hr0]
          simp only [q_nil, q_cons, k_nx, k_ret, k_brk, k_ct, q_asg, q_asgA, q_asgS, q_aug, q_ex, q_ret, q_retN, q_pass, q_brk, q_cont, q_ifs, q_for, q_whl, b_t, b_f, be_t, be_f, ba_t, ba_f, bo_t, bo_f, t_bl, t_int, t_non,     q_var, q_con, q_glb, q_tup, q_lst, q_dict0, q_bin, q_neg, q_not, q_and, q_or, q_ife, q_cmp, q_cmp2, q_attr, q_sub, q_srev, q_call, q_callk, q_meth, q_bm, q_new, q_bi, q_isi, q_lc, q_lc2, q_dc, q_sortk, q_sortv, q_sortvM, q_maxk, q_sortm, q_dict2, q_anil, q_acons, q_ival, q_items, q_vals, q_rng, q_zip, q_cntT, q_tab, q_tnin, q_zipT,     o_add, o_sub, o_mul, o_fdiv, o_mod, o_pow18, o_addT, ag_add, ag_sub, c_lt, c_gt, c_le, c_ge, c_eq, c_ne, c_is, c_isn, c_in, c_nin, u_tup, u_scr, n_scr, n_tup, n_str, n_abs, n_min2, n_min3, n_max2, tg_nm, tg_2, tg_3, at_0, at_1, at_2, at_3, at_4, i_int, sat_some, getV_0, getV_s,     List.set_cons_zero, List.set_cons_succ, List.map_cons, List.map_nil, List.replicate_succ, List.replicate_zero, List.cons_append, List.nil_append, List.length_cons, List.length_nil]
          exact ⟨_, rfl, fun h => (by cases h), fun _ => h3 _ _ _ hp⟩
      · rw [decide_eq_false hc2]
        simp only [q_nil, q_cons, k_nx, k_ret, k_brk, k_ct, q_asg, q_asgA, q_asgS, q_aug, q_ex, q_ret, q_retN, q_pass, q_brk, q_cont, q_ifs, q_for, q_whl, b_t, b_f, be_t, be_f, ba_t, ba_f, bo_t, bo_f, t_bl, t_int, t_non,     q_var, q_con, q_glb, q_tup, q_lst, q_dict0, q_bin, q_neg, q_not, q_and, q_or, q_ife, q_cmp, q_cmp2, q_attr, q_sub, q_srev, q_call, q_callk, q_meth, q_bm, q_new, q_bi, q_isi, q_lc, q_lc2, q_dc, q_sortk, q_sortv, q_sortvM, q_maxk, q_sortm, q_dict2, q_anil, q_acons, q_ival, q_items, q_vals, q_rng, q_zip, q_cntT, q_tab, q_tnin, q_zipT,     o_add, o_sub, o_mul, o_fdiv, o_mod, o_pow18, o_addT, ag_add, ag_sub, c_lt, c_gt, c_le, c_ge, c_eq, c_ne, c_is, c_isn, c_in, c_nin, u_tup, u_scr, n_scr, n_tup, n_str, n_abs, n_min2, n_min3, n_max2, tg_nm, tg_2, tg_3, at_0, at_1, at_2, at_3, at_4, i_int, sat_some, getV_0, getV_s,     List.set_cons_zero, List.set_cons_succ, List.map_cons, List.map_nil, List.replicate_succ, List.replicate_zero, List.cons_append, List.nil_append, List.length_cons, List.length_nil]
        exact h3 _ _ _ hp
    · rw [decide_eq_false hc1]
      simp only [q_nil, q_cons, k_nx, k_ret, k_brk, k_ct, q_asg, q_asgA, q_asgS, q_aug, q_ex, q_ret, q_retN, q_pass, q_brk, q_cont, q_ifs, q_for, q_whl, b_t, b_f, be_t, be_f, ba_t, ba_f, bo_t, bo_f, t_bl, t_int, t_non,     q_var, q_con, q_glb, q_tup, q_lst, q_dict0, q_bin, q_neg, q_not, q_and, q_or, q_ife, q_cmp, q_cmp2, q_attr, q_sub, q_srev, q_call, q_callk, q_meth, q_bm, q_new, q_bi, q_isi, q_lc, q_lc2, q_dc, q_sortk, q_sortv, q_sortvM, q_maxk, q_sortm, q_dict2, q_anil, q_acons, q_ival, q_items, q_vals, q_rng, q_zip, q_cntT, q_tab, q_tnin, q_zipT,     o_add, o_sub, o_mul, o_fdiv, o_mod, o_pow18, o_addT, ag_add, ag_sub, c_lt, c_gt, c_le, c_ge, c_eq, c_ne, c_is, c_isn, c_in, c_nin, u_tup, u_scr, n_scr, n_tup, n_str, n_abs, n_min2, n_min3, n_max2, tg_nm, tg_2, tg_3, at_0, at_1, at_2, at_3, at_4, i_int, sat_some, getV_0, getV_s,     List.set_cons_zero, List.set_cons_succ, List.map_cons, List.map_nil, List.replicate_succ, List.replicate_zero, List.cons_append, List.nil_append, List.length_cons, List.length_nil]
      exact h3 _ _ _ hp
end Bh
end
section
set_option Elab.async false
set_option linter.all false
set_option maxRecDepth 100000
set_option maxHeartbeats 0
namespace Bh
open PySem MP
inductive Tr where
  | bs (w : Str) (rest : List Wv)
  | vd (t : Tr)
def Tr.w : Tr → Wv
  | .bs w rest => .tup (.str w :: rest)
  | .vd t => .tup [.str "void", t.w]
def Tr.dep : Tr → Nat
  | .bs _ _ => 0
  | .vd t => t.dep + 1
def Tr.ok : Tr → Prop
  | .bs w _ => w ≠ ("void" : Str) ∧ SeqAt.shaped (.str w) = true
  | .vd t => t.ok
theorem void_shaped : SeqAt.shaped (.str "void") = true := by decide +kernel
theorem Tr.head {M : Mem} (S : List Int) (t : Tr) (h : t.ok) : ∃ w rest, t.w = .tup (.str w :: rest) ∧ SeqAt.shaped (.str w) = true ∧ (w = ("void" : Str) ↔ t.dep ≠ 0) := by
  cases t with
  | bs w rest => exact ⟨w, rest, rfl, h.2, ⟨fun e => absurd e h.1, fun e => absurd rfl e⟩⟩
  | vd t => exact ⟨_, _, rfl, void_shaped, ⟨fun _ => by simp [Tr.dep], fun _ => rfl⟩⟩
theorem deepness_ok (S : List Int) (k : Nat) (t : Tr) (M : Mem) (h : t.ok) (hd : t.dep < fuel) : callN (Gp S) fuel (k + 1) ix_deepness [t.w] M = .ok (.int t.dep) M := by
  refine sat_eq ?_
  rw [at_deepness]
  refine run_sat rfl ?_
  show (evSl (Gp S) _ _ fuel sl_deepness [some t.w, none] M).sat _
  unfold sl_deepness
  simp only [q_nil, q_cons, k_nx, k_ret, k_brk, k_ct, q_asg, q_asgA, q_asgS, q_aug, q_ex, q_ret, q_retN, q_pass, q_brk, q_cont, q_ifs, q_for, q_whl, b_t, b_f, be_t, be_f, ba_t, ba_f, bo_t, bo_f, t_bl, t_int, t_non,     q_var, q_con, q_glb, q_tup, q_lst, q_dict0, q_bin, q_neg, q_not, q_and, q_or, q_ife, q_cmp, q_cmp2, q_attr, q_sub, q_srev, q_call, q_callk, q_meth, q_bm, q_new, q_bi, q_isi, q_lc, q_lc2, q_dc, q_sortk, q_sortv, q_sortvM, q_maxk, q_sortm, q_dict2, q_anil, q_acons, q_ival, q_items, q_vals, q_rng, q_zip, q_cntT, q_tab, q_tnin, q_zipT,     o_add, o_sub, o_mul, o_fdiv, o_mod, o_pow18, o_addT, ag_add, ag_sub, c_lt, c_gt, c_le, c_ge, c_eq, c_ne, c_is, c_isn, c_in, c_nin, u_tup, u_scr, n_scr, n_tup, n_str, n_abs, n_min2, n_min3, n_max2, tg_nm, tg_2, tg_3, at_0, at_1, at_2, at_3, at_4, i_int, sat_some, getV_0, getV_s,     List.set_cons_zero, List.set_cons_succ, List.map_cons, List.map_nil, List.replicate_succ, List.replicate_zero, List.cons_append, List.nil_append, List.length_cons, List.length_nil]
  refine whl_rule (fun m σ M' => ∃ (u : Tr) (n : Nat), σ = [some u.w, some (.int n)] ∧ u.ok ∧ n + u.dep = t.dep ∧ m = u.dep ∧ M' = M) ?_ fuel t.dep _ _ ⟨t, 0, rfl, h, by omega, rfl, rfl⟩ hd
  rintro m σ M' ⟨u, n, rfl, hu, hn, rfl, rfl⟩
  obtain ⟨w, rest, e, hs, hv⟩ := Tr.head (M := M') S u hu
  rw [e]
  simp only [q_nil, q_cons, k_nx, k_ret, k_brk, k_ct, q_asg, q_asgA, q_asgS, q_aug, q_ex, q_ret, q_retN, q_pass, q_brk, q_cont, q_ifs, q_for, q_whl, b_t, b_f, be_t, be_f, ba_t, ba_f, bo_t, bo_f, t_bl, t_int, t_non,     q_var, q_con, q_glb, q_tup, q_lst, q_dict0, q_bin, q_neg, q_not, q_and, q_or, q_ife, q_cmp, q_cmp2, q_attr, q_sub, q_srev, q_call, q_callk, q_meth, q_bm, q_new, q_bi, q_isi, q_lc, q_lc2, q_dc, q_sortk, q_sortv, q_sortvM, q_maxk, q_sortm, q_dict2, q_anil, q_acons, q_ival, q_items, q_vals, q_rng, q_zip, q_cntT, q_tab, q_tnin, q_zipT,     o_add, o_sub, o_mul, o_fdiv, o_mod, o_pow18, o_addT, ag_add, ag_sub, c_lt, c_gt, c_le, c_ge, c_eq, c_ne, c_is, c_isn, c_in, c_nin, u_tup, u_scr, n_scr, n_tup, n_str, n_abs, n_min2, n_min3, n_max2, tg_nm, tg_2, tg_3, at_0, at_1, at_2, at_3, at_4, i_int, sat_some, getV_0, getV_s,     List.set_cons_zero, List.set_cons_succ, List.map_cons, List.map_nil, List.replicate_succ, List.replicate_zero, List.cons_append, List.nil_append, List.length_cons, List.length_nil, con_VOID]
  refine ⟨_, eqW_str hs void_shaped, _, rfl, fun hc => ?_, fun hc => ?_⟩
  · have hw : w = ("void" : Str) := of_decide_eq_true hc
    cases u with
    | bs w' rest' => exact absurd rfl (hv.mp hw)
    | vd u =>
      simp only [Tr.w, Wv.tup.injEq, List.cons.injEq, Wv.str.injEq] at e
      obtain ⟨_, e2⟩ := e
      rw [← e2]
      simp only [q_nil, q_cons, k_nx, k_ret, k_brk, k_ct, q_asg, q_asgA, q_asgS, q_aug, q_ex, q_ret, q_retN, q_pass, q_brk, q_cont, q_ifs, q_for, q_whl, b_t, b_f, be_t, be_f, ba_t, ba_f, bo_t, bo_f, t_bl, t_int, t_non,     q_var, q_con, q_glb, q_tup, q_lst, q_dict0, q_bin, q_neg, q_not, q_and, q_or, q_ife, q_cmp, q_cmp2, q_attr, q_sub, q_srev, q_call, q_callk, q_meth, q_bm, q_new, q_bi, q_isi, q_lc, q_lc2, q_dc, q_sortk, q_sortv, q_sortvM, q_maxk, q_sortm, q_dict2, q_anil, q_acons, q_ival, q_items, q_vals, q_rng, q_zip, q_cntT, q_tab, q_tnin, q_zipT,     o_add, o_sub, o_mul, o_fdiv, o_mod, o_pow18, o_addT, ag_add, ag_sub, c_lt, c_gt, c_le, c_ge, c_eq, c_ne, c_is, c_isn, c_in, c_nin, u_tup, u_scr, n_scr, n_tup, n_str, n_abs, n_min2, n_min3, n_max2, tg_nm, tg_2, tg_3, at_0, at_1, at_2, at_3, at_4, i_int, sat_some, getV_0, getV_s,     List.set_cons_zero, List.set_cons_succ, List.map_cons, List.map_nil, List.replicate_succ, List.replicate_zero, List.cons_append, List.nil_append, List.length_cons, List.length_nil]
      refine ⟨u.dep, by simp [Tr.dep], u, n + 1, ?_, hu, ?_, rfl, trivial⟩
      · simp
      · simp only [Tr.dep] at hn; omega
  · have hw : ¬ w = ("void" : Str) := of_decide_eq_false hc
    have : u.dep = 0 := by
      by_cases z : u.dep = 0
      · exact z
      · exact absurd (hv.mpr z) hw
    refine ⟨?_, trivial⟩
    congr 1
    omega
def inner : Wv → Wv
  | .tup [_, u] => u
  | w => w
def stepG (g : List Wv) (v : Wv) : List Wv := if v ∈ g then g else addK g (inner v)
def layer (kn : List Tr) (i : Nat) : List Wv := (kn.filter fun t => decide (t.dep = i)).map Tr.w
def goneOf (kn : List Tr) : List Wv := (layer kn 1).foldl stepG ((layer kn 2).foldl stepG ((layer kn 3).foldl stepG []))
def forceOf (kn : List Tr) : List Tr := kn.filter fun t => decide (t.dep = 0) && decide (t.w ∉ goneOf kn)
theorem filter_map_w (kn : List Tr) (p : Tr → Bool) (q : Wv → Bool) (h : ∀ t ∈ kn, q t.w = p t) : (kn.map Tr.w).filter q = (kn.filter p).map Tr.w := by
  induction kn with
  | nil => rfl
  | cons t kn ih =>
    simp only [List.map_cons, List.filter_cons, h t (List.mem_cons_self ..)]
    rw [ih fun t ht => h t (List.mem_cons_of_mem _ ht)]
    cases p t <;> simp
theorem layer_lc (S : List Int) (k : Nat) (kn : List Tr) (kd : Nat) (d : Nat) (σ : Sw) (M : Mem) (a b c : Option Wv) (hk : ∀ t ∈ kn, t.ok ∧ t.dep < fuel) (hl : kn.length ≤ sizeLine) (x0 x1 x3 : Option Wv) :
    lcGo (Gp S) (.nm 7) (evE (Gp S) (callN (Gp S) fuel (k + 1)) (callN (Gp S) fuel k) (.cmp .eq (.call ix_deepness (.cons (.var 7) .nil) []) (.bin .add (.var 2) (.con (.int 1))))) (evE (Gp S) (callN (Gp S) fuel (k + 1)) (callN (Gp S) fuel k) (.var 7)) [(kd, .dct false (sets (kn.map Tr.w)))] (kn.map Tr.w) [x0, x1, some (.int d), x3, a, b, c, none] [] M = .ok (layer kn (d + 1)) M := by
  have e := lc_pure (G := Gp S) (t := .nm 7) (c := evE (Gp S) (callN (Gp S) fuel (k + 1)) (callN (Gp S) fuel k) (.cmp .eq (.call ix_deepness (.cons (.var 7) .nil) []) (.bin .add (.var 2) (.con (.int 1))))) (e := evE (Gp S) (callN (Gp S) fuel (k + 1)) (callN (Gp S) fuel k) (.var 7)) (ps := [(kd, .dct false (sets (kn.map Tr.w)))]) (σ := [x0, x1, some (.int d), x3, a, b, c, none]) (M := M) (xs := kn.map Tr.w)
    (fun v => match callN (Gp S) fuel (k + 1) ix_deepness [v] M with | .ok (.int i) _ => decide (i = ((d : Int) + 1)) | _ => false) id rfl (by rw [List.length_map]; exact hl) (fun x hx => by
      obtain ⟨t, ht, rfl⟩ := List.mem_map.mp hx
      refine ⟨[x0, x1, some (.int d), x3, a, b, c, some t.w], rfl, ⟨.bl (decide ((t.dep : Int) = (d : Int) + 1)), sat_eq ?_, ?_⟩, fun _ => sat_eq ?_⟩
      · simp only [q_nil, q_cons, k_nx, k_ret, k_brk, k_ct, q_asg, q_asgA, q_asgS, q_aug, q_ex, q_ret, q_retN, q_pass, q_brk, q_cont, q_ifs, q_for, q_whl, b_t, b_f, be_t, be_f, ba_t, ba_f, bo_t, bo_f, t_bl, t_int, t_non,     q_var, q_con, q_glb, q_tup, q_lst, q_dict0, q_bin, q_neg, q_not, q_and, q_or, q_ife, q_cmp, q_cmp2, q_attr, q_sub, q_srev, q_call, q_callk, q_meth, q_bm, q_new, q_bi, q_isi, q_lc, q_lc2, q_dc, q_sortk, q_sortv, q_sortvM, q_maxk, q_sortm, q_dict2, q_anil, q_acons, q_ival, q_items, q_vals, q_rng, q_zip, q_cntT, q_tab, q_tnin, q_zipT,     o_add, o_sub, o_mul, o_fdiv, o_mod, o_pow18, o_addT, ag_add, ag_sub, c_lt, c_gt, c_le, c_ge, c_eq, c_ne, c_is, c_isn, c_in, c_nin, u_tup, u_scr, n_scr, n_tup, n_str, n_abs, n_min2, n_min3, n_max2, tg_nm, tg_2, tg_3, at_0, at_1, at_2, at_3, at_4, i_int, sat_some, getV_0, getV_s,     List.set_cons_zero, List.set_cons_succ, List.map_cons, List.map_nil, List.replicate_succ, List.replicate_zero, List.cons_append, List.nil_append, List.length_cons, List.length_nil, deepness_ok S k t M (hk t ht).1 (hk t ht).2, sat_ok]
        exact ⟨_, eqW_int _ _, rfl, trivial⟩
      · rw [deepness_ok S k t M (hk t ht).1 (hk t ht).2]
        rfl
      · simp only [q_nil, q_cons, k_nx, k_ret, k_brk, k_ct, q_asg, q_asgA, q_asgS, q_aug, q_ex, q_ret, q_retN, q_pass, q_brk, q_cont, q_ifs, q_for, q_whl, b_t, b_f, be_t, be_f, ba_t, ba_f, bo_t, bo_f, t_bl, t_int, t_non,     q_var, q_con, q_glb, q_tup, q_lst, q_dict0, q_bin, q_neg, q_not, q_and, q_or, q_ife, q_cmp, q_cmp2, q_attr, q_sub, q_srev, q_call, q_callk, q_meth, q_bm, q_new, q_bi, q_isi, q_lc, q_lc2, q_dc, q_sortk, q_sortv, q_sortvM, q_maxk, q_sortm, q_dict2, q_anil, q_acons, q_ival, q_items, q_vals, q_rng, q_zip, q_cntT, q_tab, q_tnin, q_zipT,     o_add, o_sub, o_mul, o_fdiv, o_mod, o_pow18, o_addT, ag_add, ag_sub, c_lt, c_gt, c_le, c_ge, c_eq, c_ne, c_is, c_isn, c_in, c_nin, u_tup, u_scr, n_scr, n_tup, n_str, n_abs, n_min2, n_min3, n_max2, tg_nm, tg_2, tg_3, at_0, at_1, at_2, at_3, at_4, i_int, sat_some, getV_0, getV_s,     List.set_cons_zero, List.set_cons_succ, List.map_cons, List.map_nil, List.replicate_succ, List.replicate_zero, List.cons_append, List.nil_append, List.length_cons, List.length_nil]
        exact ⟨rfl, trivial⟩)
  rw [e]
  congr 1
  rw [List.map_id]
  unfold layer
  refine filter_map_w kn _ _ fun t ht => ?_
  rw [deepness_ok S k t M (hk t ht).1 (hk t ht).2]
  show decide ((t.dep : Int) = (d : Int) + 1) = decide (t.dep = d + 1)
  by_cases h : t.dep = d + 1
  · rw [decide_eq_true h, decide_eq_true (by omega)]
  · rw [decide_eq_false h, decide_eq_false (by omega)]
theorem stepG_in {g : List Wv} {v : Wv} (h : v ∈ g) : stepG g v = g := by unfold stepG; rw [if_pos h]
theorem stepG_out {g : List Wv} {v : Wv} (h : v ∉ g) : stepG g v = addK g (inner v) := by unfold stepG; rw [if_neg h]
theorem stepG_key {g : List Wv} {v : Wv} (hg : ∀ x ∈ g, keyT x = true) (hv : keyT (inner v) = true) : ∀ x ∈ stepG g v, keyT x = true := by
  intro x hx
  unfold stepG at hx
  split at hx
  · exact hg x hx
  · rcases addK_mem hx with h | h
    · exact hg x h
    · rw [h]; exact hv
theorem stepG_len (g : List Wv) (v : Wv) : (stepG g v).length ≤ g.length + 1 := by
  unfold stepG
  split
  · omega
  · exact addK_len _ _
theorem void_for (S : List Int) (k r gd : Nat) (vs : List Wv) (σ0 : Sw) (a b c e f h : Option Wv) (M0 : Mem) (g0 : List Wv) (hr : M0[r]? = some (.lst vs)) (hne : r ≠ gd) (hgd : gd < M0.length)
    (hv : ∀ v ∈ vs, keyT v = true ∧ keyT (inner v) = true ∧ ∃ x u, v = .tup [x, u]) (hg0 : ∀ x ∈ g0, keyT x = true) (hl : g0.length + vs.length ≤ 1000) {C C1 : Nat → List Wv → Mem → Out Wv} :
    (forGo (.nm 6) (evSl (Gp S) C C1 fuel (.cons (.ifs (.cmp .nin (.var 6) (.var 4)) (.cons (.asgS (.var 4) (.sub (.var 6) (.con (.int 1))) (.con (.bl true))) .nil) .nil) .nil)) [(r, .lst vs)] vs [a, b, c, e, some (.ref gd), f, h, none] (M0.set gd (.dct false (sets g0)))).sat
      fun q M' => ∃ h', q = (.nx, [a, b, c, e, some (.ref gd), f, h', none]) ∧ M' = M0.set gd (.dct false (sets (vs.foldl stepG g0))) := by
  have hz : 1001 ≤ sizeLine := by decide
  refine for_rule (fun pre post σ M' => vs = pre ++ post ∧ ∃ h', σ = [a, b, c, e, some (.ref gd), f, h', none] ∧ M' = M0.set gd (.dct false (sets (pre.foldl stepG g0))) ∧ (∀ x ∈ pre.foldl stepG g0, keyT x = true) ∧ (pre.foldl stepG g0).length ≤ g0.length + pre.length) ?_ ?_ vs [] _ _ ⟨rfl, h, rfl, rfl, hg0, by simp⟩
  · rintro pre x post σ M' ⟨hvs, h', rfl, rfl, hk, hlen⟩
    have hx : x ∈ vs := by rw [hvs]; simp
    obtain ⟨k1, k2, y, u, rfl⟩ := hv x hx
    have hlr : pre.length + post.length + 1 = vs.length := by rw [hvs]; simp; omega
    have hM : (M0.set gd (.dct false (sets (pre.foldl stepG g0))))[gd]? = some (.dct false (sets (pre.foldl stepG g0))) := by rw [List.getElem?_set_self hgd]
    refine ⟨stays_lst (by rw [List.getElem?_set_ne (Ne.symm hne)]; exact hr), _, rfl, ?_⟩
    simp only [q_nil, q_cons, k_nx, k_ret, k_brk, k_ct, q_asg, q_asgA, q_asgS, q_aug, q_ex, q_ret, q_retN, q_pass, q_brk, q_cont, q_ifs, q_for, q_whl, b_t, b_f, be_t, be_f, ba_t, ba_f, bo_t, bo_f, t_bl, t_int, t_non,     q_var, q_con, q_glb, q_tup, q_lst, q_dict0, q_bin, q_neg, q_not, q_and, q_or, q_ife, q_cmp, q_cmp2, q_attr, q_sub, q_srev, q_call, q_callk, q_meth, q_bm, q_new, q_bi, q_isi, q_lc, q_lc2, q_dc, q_sortk, q_sortv, q_sortvM, q_maxk, q_sortm, q_dict2, q_anil, q_acons, q_ival, q_items, q_vals, q_rng, q_zip, q_cntT, q_tab, q_tnin, q_zipT,     o_add, o_sub, o_mul, o_fdiv, o_mod, o_pow18, o_addT, ag_add, ag_sub, c_lt, c_gt, c_le, c_ge, c_eq, c_ne, c_is, c_isn, c_in, c_nin, u_tup, u_scr, n_scr, n_tup, n_str, n_abs, n_min2, n_min3, n_max2, tg_nm, tg_2, tg_3, at_0, at_1, at_2, at_3, at_4, i_int, sat_some, getV_0, getV_s,     List.set_cons_zero, List.set_cons_succ, List.map_cons, List.map_nil, List.replicate_succ, List.replicate_zero, List.cons_append, List.nil_append, List.length_cons, List.length_nil]
    refine ⟨_, in_dct hM (keyOk_sets k1 hk), ?_⟩
    rw [dget_sets]
    have hvs2 : vs = (pre ++ [Wv.tup [y, u]]) ++ post := by rw [hvs]; simp
    have ef : (pre ++ [Wv.tup [y, u]]).foldl stepG g0 = stepG (pre.foldl stepG g0) (.tup [y, u]) := by simp
    have hk2 : ∀ x ∈ (pre ++ [Wv.tup [y, u]]).foldl stepG g0, keyT x = true := by
      rw [ef]; exact stepG_key hk k2
    have hlen2 : ((pre ++ [Wv.tup [y, u]]).foldl stepG g0).length ≤ g0.length + (pre ++ [Wv.tup [y, u]]).length := by
      rw [ef]
      have := stepG_len (pre.foldl stepG g0) (.tup [y, u])
      simp only [List.length_append, List.length_cons, List.length_nil]
      omega
    by_cases hm : Wv.tup [y, u] ∈ pre.foldl stepG g0
    · rw [decide_eq_true hm]
      simp only [q_nil, q_cons, k_nx, k_ret, k_brk, k_ct, q_asg, q_asgA, q_asgS, q_aug, q_ex, q_ret, q_retN, q_pass, q_brk, q_cont, q_ifs, q_for, q_whl, b_t, b_f, be_t, be_f, ba_t, ba_f, bo_t, bo_f, t_bl, t_int, t_non,     q_var, q_con, q_glb, q_tup, q_lst, q_dict0, q_bin, q_neg, q_not, q_and, q_or, q_ife, q_cmp, q_cmp2, q_attr, q_sub, q_srev, q_call, q_callk, q_meth, q_bm, q_new, q_bi, q_isi, q_lc, q_lc2, q_dc, q_sortk, q_sortv, q_sortvM, q_maxk, q_sortm, q_dict2, q_anil, q_acons, q_ival, q_items, q_vals, q_rng, q_zip, q_cntT, q_tab, q_tnin, q_zipT,     o_add, o_sub, o_mul, o_fdiv, o_mod, o_pow18, o_addT, ag_add, ag_sub, c_lt, c_gt, c_le, c_ge, c_eq, c_ne, c_is, c_isn, c_in, c_nin, u_tup, u_scr, n_scr, n_tup, n_str, n_abs, n_min2, n_min3, n_max2, tg_nm, tg_2, tg_3, at_0, at_1, at_2, at_3, at_4, i_int, sat_some, getV_0, getV_s,     List.set_cons_zero, List.set_cons_succ, List.map_cons, List.map_nil, List.replicate_succ, List.replicate_zero, List.cons_append, List.nil_append, List.length_cons, List.length_nil, Bool.not_true]
      refine ⟨hvs2, _, rfl, ?_, hk2, hlen2⟩
      rw [ef, stepG_in hm]
    · rw [decide_eq_false hm]
      simp only [q_nil, q_cons, k_nx, k_ret, k_brk, k_ct, q_asg, q_asgA, q_asgS, q_aug, q_ex, q_ret, q_retN, q_pass, q_brk, q_cont, q_ifs, q_for, q_whl, b_t, b_f, be_t, be_f, ba_t, ba_f, bo_t, bo_f, t_bl, t_int, t_non,     q_var, q_con, q_glb, q_tup, q_lst, q_dict0, q_bin, q_neg, q_not, q_and, q_or, q_ife, q_cmp, q_cmp2, q_attr, q_sub, q_srev, q_call, q_callk, q_meth, q_bm, q_new, q_bi, q_isi, q_lc, q_lc2, q_dc, q_sortk, q_sortv, q_sortvM, q_maxk, q_sortm, q_dict2, q_anil, q_acons, q_ival, q_items, q_vals, q_rng, q_zip, q_cntT, q_tab, q_tnin, q_zipT,     o_add, o_sub, o_mul, o_fdiv, o_mod, o_pow18, o_addT, ag_add, ag_sub, c_lt, c_gt, c_le, c_ge, c_eq, c_ne, c_is, c_isn, c_in, c_nin, u_tup, u_scr, n_scr, n_tup, n_str, n_abs, n_min2, n_min3, n_max2, tg_nm, tg_2, tg_3, at_0, at_1, at_2, at_3, at_4, i_int, sat_some, getV_0, getV_s,     List.set_cons_zero, List.set_cons_succ, List.map_cons, List.map_nil, List.replicate_succ, List.replicate_zero, List.cons_append, List.nil_append, List.length_cons, List.length_nil, Bool.not_false]
      refine sat_of (set_dct hM (keyOk_sets k2 hk) (by rw [sets_len]; omega)) ?_
      refine ⟨hvs2, _, rfl, ?_, hk2, hlen2⟩
      rw [List.set_set, ef, dput_sets, stepG_out hm]
      rfl
  · rintro pre σ M' ⟨hvs, h', rfl, rfl, hk, hlen⟩
    rw [List.append_nil] at hvs
    subst hvs
    exact ⟨stays_lst (by rw [List.getElem?_set_ne (Ne.symm hne)]; exact hr), h', rfl, rfl⟩
theorem Tr.dep_inner {t : Tr} (h : t.dep ≠ 0) : ∃ u : Tr, t.w = .tup [.str "void", u.w] ∧ t = .vd u := by
  cases t with
  | bs w r => exact absurd rfl h
  | vd u => exact ⟨u, rfl, rfl⟩
theorem layer_len (kn : List Tr) (i : Nat) : (layer kn i).length ≤ kn.length := by
  unfold layer
  rw [List.length_map]
  exact List.length_filter_le ..
theorem foldl_stepG_len (g vs : List Wv) : (vs.foldl stepG g).length ≤ g.length + vs.length := by
  induction vs generalizing g with
  | nil => simp
  | cons v vs ih =>
    have := ih (stepG g v)
    have := stepG_len g v
    simp only [List.foldl_cons, List.length_cons]
    omega
theorem foldl_stepG_key {g vs : List Wv} (hg : ∀ x ∈ g, keyT x = true) (hv : ∀ v ∈ vs, keyT (inner v) = true) : ∀ x ∈ vs.foldl stepG g, keyT x = true := by
  induction vs generalizing g with
  | nil => exact hg
  | cons v vs ih => exact ih (stepG_key hg (hv v (List.mem_cons_self ..))) fun x hx => hv x (List.mem_cons_of_mem _ hx)
def headFree (gone : List Wv) (v : Wv) : Bool := match v with
  | .tup (.str w :: _) => !(decide (w = ("void" : Str))) && decide (v ∉ gone)
  | _ => false
theorem headFree_w (gone : List Wv) (t : Tr) (h : t.ok) : headFree gone t.w = (decide (t.dep = 0) && decide (t.w ∉ gone)) := by
  obtain ⟨w, rest, e, _, hv⟩ := Tr.head (M := []) [] t h
  rw [e]
  show (!(decide (w = ("void" : Str))) && decide (Wv.tup (.str w :: rest) ∉ gone)) = _
  by_cases z : t.dep = 0
  · have : ¬ w = ("void" : Str) := fun q => (hv.mp q) z
    rw [decide_eq_true z, decide_eq_false this]; rfl
  · have : w = ("void" : Str) := hv.mpr z
    rw [decide_eq_false z, decide_eq_true this]; rfl
structure Kn (kn : List Tr) : Prop where
  ok : ∀ t ∈ kn, t.ok ∧ t.dep ≤ 3 ∧ keyT t.w = true ∧ keyT (inner t.w) = true
  len : kn.length ≤ 300
theorem in_force_ok (S : List Int) (k l : Nat) (ts : List Wv) (kn : List Tr) (M : Mem) (hM : M[l]? = some (.lst ts)) (hts : ∀ t ∈ ts, keyT t = true) (hlen : ts.length ≤ 300) (hk : keysOf ts = kn.map Tr.w) (K : Kn kn) :
    (callN (Gp S) fuel (k + 2) ix_in_force [.ref l] M).sat fun v M' => M <+: M' ∧ ∃ y, v = .ref y ∧ M.length ≤ y ∧ M'[y]? = some (.lst ((forceOf kn).map Tr.w)) := by
  have hz : 1001 ≤ sizeLine := by decide
  have hkl := K.len
  have hfu : 3 < fuel := by decide
  rw [at_in_force]
  refine run_sat rfl ?_
  show (evSl (Gp S) _ _ fuel sl_in_force [some (.ref l), none, none, none, none, none, none, none] M).sat _
  unfold sl_in_force
  simp only [q_nil, q_cons, k_nx, k_ret, k_brk, k_ct, q_asg, q_asgA, q_asgS, q_aug, q_ex, q_ret, q_retN, q_pass, q_brk, q_cont, q_ifs, q_for, q_whl, b_t, b_f, be_t, be_f, ba_t, ba_f, bo_t, bo_f, t_bl, t_int, t_non,     q_var, q_con, q_glb, q_tup, q_lst, q_dict0, q_bin, q_neg, q_not, q_and, q_or, q_ife, q_cmp, q_cmp2, q_attr, q_sub, q_srev, q_call, q_callk, q_meth, q_bm, q_new, q_bi, q_isi, q_lc, q_lc2, q_dc, q_sortk, q_sortv, q_sortvM, q_maxk, q_sortm, q_dict2, q_anil, q_acons, q_ival, q_items, q_vals, q_rng, q_zip, q_cntT, q_tab, q_tnin, q_zipT,     o_add, o_sub, o_mul, o_fdiv, o_mod, o_pow18, o_addT, ag_add, ag_sub, c_lt, c_gt, c_le, c_ge, c_eq, c_ne, c_is, c_isn, c_in, c_nin, u_tup, u_scr, n_scr, n_tup, n_str, n_abs, n_min2, n_min3, n_max2, tg_nm, tg_2, tg_3, at_0, at_1, at_2, at_3, at_4, i_int, sat_some, getV_0, getV_s,     List.set_cons_zero, List.set_cons_succ, List.map_cons, List.map_nil, List.replicate_succ, List.replicate_zero, List.cons_append, List.nil_append, List.length_cons, List.length_nil, walk_lst hM]
  have e1 := dc_pure (G := Gp S) (t := .nm 7) (c := evE (Gp S) (callN (Gp S) fuel (k + 1)) (callN (Gp S) fuel (k + 1 - 1)) (.con (.bl true))) (k := evE (Gp S) (callN (Gp S) fuel (k + 1)) (callN (Gp S) fuel (k + 1 - 1)) (.var 7)) (v := evE (Gp S) (callN (Gp S) fuel (k + 1)) (callN (Gp S) fuel (k + 1 - 1)) (.con (.bl true))) (ps := [(l, .lst ts)]) (σ := [some (.ref l), none, none, none, none, none, none, none]) (M := M) (xs := ts)
    id (fun _ => .bl true) (stays_lst hM) (fun x hx => ⟨[some (.ref l), none, none, none, none, none, none, some x], rfl, ⟨.bl true, by simp only [evE], rfl⟩, by simp only [evE]; rfl, by simp only [evE]⟩) [] (fun pre post x e => by
      have h1 : (pre.map fun y => (id y, Wv.bl true)) = pre.map fun y => (y, Wv.bl true) := rfl
      have h2 := dputs_sets [] pre
      have h3 : sets [] = [] := rfl
      rw [h3] at h2
      rw [h1, h2, sets_len]
      have hx : x ∈ ts := by rw [e]; simp
      have := foldl_addK_len [] pre
      have hlp : pre.length ≤ ts.length := by rw [e]; simp
      refine ⟨keyOk_sets (hts x hx) fun y hy => ?_, len_ok (by simp at this; omega)⟩
      rcases foldl_addK_mem hy with h | h
      · cases h
      · exact hts y (by rw [e]; exact List.mem_append_left _ h))
  have e2 : dputs [] (ts.map fun y => (id y, Wv.bl true)) = sets (kn.map Tr.w) := by
    have := dputs_sets [] ts
    rw [← hk]
    exact this
  rw [e2] at e1
  refine sat_of e1 ?_
  rw [unlk_lst]
  generalize hM1 : M ++ [.dct false (sets (kn.map Tr.w))] = M1
  have p1 : M <+: M1 := by rw [← hM1]; exact List.prefix_append _ _
  have hkd : M1[M.length]? = some (.dct false (sets (kn.map Tr.w))) := by rw [← hM1]; exact at_new ..
  have hl1 : M1.length = M.length + 1 := by rw [← hM1]; simp
  generalize hkdn : M.length = kd at *
  refine sat_of (n_listD hkd (by rw [sets_len, List.length_map]; omega)) ?_
  rw [sets_keys]
  refine ⟨len_ok (by simp; omega), ?_⟩
  generalize hK0 : kont (Gp S) _ _ fuel _ _ = K0
  have after : ∀ (M' : Mem) (ly a0 r1 r2 r3 : Nat), M1 <+: M' → M'[ly]? = some (.lst [.ref a0, .ref r1, .ref r2, .ref r3]) → M'[r1]? = some (.lst (layer kn 1)) → M'[r2]? = some (.lst (layer kn 2)) → M'[r3]? = some (.lst (layer kn 3)) →
      K0 (.nx, [some (.ref l), some (.ref kd), some (.int 3), some (.ref ly), none, none, none, none]) M' := by
    intro M' ly a0 r1 r2 r3 pm hly h1 h2 h3
    rw [← hK0]
    simp only [q_nil, q_cons, k_nx, k_ret, k_brk, k_ct, q_asg, q_asgA, q_asgS, q_aug, q_ex, q_ret, q_retN, q_pass, q_brk, q_cont, q_ifs, q_for, q_whl, b_t, b_f, be_t, be_f, ba_t, ba_f, bo_t, bo_f, t_bl, t_int, t_non,     q_var, q_con, q_glb, q_tup, q_lst, q_dict0, q_bin, q_neg, q_not, q_and, q_or, q_ife, q_cmp, q_cmp2, q_attr, q_sub, q_srev, q_call, q_callk, q_meth, q_bm, q_new, q_bi, q_isi, q_lc, q_lc2, q_dc, q_sortk, q_sortv, q_sortvM, q_maxk, q_sortm, q_dict2, q_anil, q_acons, q_ival, q_items, q_vals, q_rng, q_zip, q_cntT, q_tab, q_tnin, q_zipT,     o_add, o_sub, o_mul, o_fdiv, o_mod, o_pow18, o_addT, ag_add, ag_sub, c_lt, c_gt, c_le, c_ge, c_eq, c_ne, c_is, c_isn, c_in, c_nin, u_tup, u_scr, n_scr, n_tup, n_str, n_abs, n_min2, n_min3, n_max2, tg_nm, tg_2, tg_3, at_0, at_1, at_2, at_3, at_4, i_int, sat_some, getV_0, getV_s,     List.set_cons_zero, List.set_cons_succ, List.map_cons, List.map_nil, List.replicate_succ, List.replicate_zero, List.cons_append, List.nil_append, List.length_cons, List.length_nil]
    have b0 : ly < M'.length := (List.getElem?_eq_some_iff.mp hly).1
    have b1 : r1 < M'.length := (List.getElem?_eq_some_iff.mp h1).1
    have b2 : r2 < M'.length := (List.getElem?_eq_some_iff.mp h2).1
    have b3 : r3 < M'.length := (List.getElem?_eq_some_iff.mp h3).1
    have hkdM : M'[kd]? = some (.dct false (sets (kn.map Tr.w))) := pre_get pm hkd
    have bk : kd < M'.length := (List.getElem?_eq_some_iff.mp hkdM).1
    refine sat_of (rev_lst (l := ly) (ws := [.ref a0, .ref r1, .ref r2, .ref r3]) (by rw [List.getElem?_append_left b0]; exact hly)) ?_
    generalize hM5 : M' ++ [Ob.dct false []] ++ [Ob.lst (List.tail [Wv.ref a0, .ref r1, .ref r2, .ref r3]).reverse] = M5
    have p5 : M' <+: M5 := by rw [← hM5, List.append_assoc]; exact List.prefix_append _ _
    have hln : M5[(M' ++ [Ob.dct false []]).length]? = some (.lst [.ref r3, .ref r2, .ref r1]) := by rw [← hM5]; exact at_new ..
    generalize hlnn : (M' ++ [Ob.dct false []]).length = ln at *
    have hlneq : ln = M'.length + 1 := by rw [← hlnn]; simp
    generalize hgd : M'.length = gd at *
    have hM5l : M5.length = gd + 2 := by rw [← hM5]; simp; omega
    have hgd5 : M5 = M5.set gd (.dct false (sets [])) := by
      refine (set_self ?_).symm
      rw [← hM5, List.getElem?_append_left (by simp; omega), ← hgd]
      exact at_new ..
    simp only [walk_lst hln, sat_some, lock_lst, unlk_lst]
    have key : ∀ t ∈ kn, keyT t.w = true ∧ keyT (inner t.w) = true := fun t ht => ⟨(K.ok t ht).2.2.1, (K.ok t ht).2.2.2⟩
    have hlay : ∀ i, i ≠ 0 → ∀ v ∈ layer kn i, keyT v = true ∧ keyT (inner v) = true ∧ ∃ x u, v = .tup [x, u] := by
      intro i hi v hv
      unfold layer at hv
      obtain ⟨t, ht, rfl⟩ := List.mem_map.mp hv
      have ht2 := List.mem_filter.mp ht
      have hdep := of_decide_eq_true ht2.2
      obtain ⟨u, hu, _⟩ := Tr.dep_inner (t := t) (by omega)
      exact ⟨(key t ht2.1).1, (key t ht2.1).2, _, _, hu⟩
    have l1 := layer_len kn 1
    have l2 := layer_len kn 2
    have l3 := layer_len kn 3
    have hst : ∀ g : List Wv, stays [(ln, Ob.lst [.ref r3, .ref r2, .ref r1])] (M5.set gd (.dct false (sets g))) = true := fun g => stays_lst (by rw [List.getElem?_set_ne (by omega)]; exact hln)
    have g3 := foldl_stepG_len [] (layer kn 3)
    have g2 := foldl_stepG_len ((layer kn 3).foldl stepG []) (layer kn 2)
    have k3 := foldl_stepG_key (g := []) (vs := layer kn 3) (fun x hx => by cases hx) fun v hv => (hlay 3 (by omega) v hv).2.1
    have k2 := foldl_stepG_key (vs := layer kn 2) k3 fun v hv => (hlay 2 (by omega) v hv).2.1
    have k1 := foldl_stepG_key (vs := layer kn 1) k2 fun v hv => (hlay 1 (by omega) v hv).2.1
    rw [hgd5]
    refine for_step (hst _) rfl ?_
    simp only [q_nil, q_cons, k_nx, k_ret, k_brk, k_ct, q_asg, q_asgA, q_asgS, q_aug, q_ex, q_ret, q_retN, q_pass, q_brk, q_cont, q_ifs, q_for, q_whl, b_t, b_f, be_t, be_f, ba_t, ba_f, bo_t, bo_f, t_bl, t_int, t_non,     q_var, q_con, q_glb, q_tup, q_lst, q_dict0, q_bin, q_neg, q_not, q_and, q_or, q_ife, q_cmp, q_cmp2, q_attr, q_sub, q_srev, q_call, q_callk, q_meth, q_bm, q_new, q_bi, q_isi, q_lc, q_lc2, q_dc, q_sortk, q_sortv, q_sortvM, q_maxk, q_sortm, q_dict2, q_anil, q_acons, q_ival, q_items, q_vals, q_rng, q_zip, q_cntT, q_tab, q_tnin, q_zipT,     o_add, o_sub, o_mul, o_fdiv, o_mod, o_pow18, o_addT, ag_add, ag_sub, c_lt, c_gt, c_le, c_ge, c_eq, c_ne, c_is, c_isn, c_in, c_nin, u_tup, u_scr, n_scr, n_tup, n_str, n_abs, n_min2, n_min3, n_max2, tg_nm, tg_2, tg_3, at_0, at_1, at_2, at_3, at_4, i_int, sat_some, getV_0, getV_s,     List.set_cons_zero, List.set_cons_succ, List.map_cons, List.map_nil, List.replicate_succ, List.replicate_zero, List.cons_append, List.nil_append, List.length_cons, List.length_nil, walk_lst (show (M5.set gd (.dct false (sets [])))[r3]? = some (.lst (layer kn 3)) by rw [List.getElem?_set_ne (by omega)]; exact pre_get p5 h3), lock_lst, unlk_lst]
    refine sat_mono (void_for S k r3 gd (layer kn 3) [] _ _ _ _ _ _ M5 [] (pre_get p5 h3) (by omega) (by omega) (hlay 3 (by omega)) (fun x hx => by cases hx) (by simp; omega)) fun q M2 ⟨h', e, e'⟩ => ?_
    subst e e'
    simp only [q_nil, q_cons, k_nx, k_ret, k_brk, k_ct, q_asg, q_asgA, q_asgS, q_aug, q_ex, q_ret, q_retN, q_pass, q_brk, q_cont, q_ifs, q_for, q_whl, b_t, b_f, be_t, be_f, ba_t, ba_f, bo_t, bo_f, t_bl, t_int, t_non,     q_var, q_con, q_glb, q_tup, q_lst, q_dict0, q_bin, q_neg, q_not, q_and, q_or, q_ife, q_cmp, q_cmp2, q_attr, q_sub, q_srev, q_call, q_callk, q_meth, q_bm, q_new, q_bi, q_isi, q_lc, q_lc2, q_dc, q_sortk, q_sortv, q_sortvM, q_maxk, q_sortm, q_dict2, q_anil, q_acons, q_ival, q_items, q_vals, q_rng, q_zip, q_cntT, q_tab, q_tnin, q_zipT,     o_add, o_sub, o_mul, o_fdiv, o_mod, o_pow18, o_addT, ag_add, ag_sub, c_lt, c_gt, c_le, c_ge, c_eq, c_ne, c_is, c_isn, c_in, c_nin, u_tup, u_scr, n_scr, n_tup, n_str, n_abs, n_min2, n_min3, n_max2, tg_nm, tg_2, tg_3, at_0, at_1, at_2, at_3, at_4, i_int, sat_some, getV_0, getV_s,     List.set_cons_zero, List.set_cons_succ, List.map_cons, List.map_nil, List.replicate_succ, List.replicate_zero, List.cons_append, List.nil_append, List.length_cons, List.length_nil]
    refine ⟨trivial, for_step (hst _) rfl ?_⟩
    simp only [q_nil, q_cons, k_nx, k_ret, k_brk, k_ct, q_asg, q_asgA, q_asgS, q_aug, q_ex, q_ret, q_retN, q_pass, q_brk, q_cont, q_ifs, q_for, q_whl, b_t, b_f, be_t, be_f, ba_t, ba_f, bo_t, bo_f, t_bl, t_int, t_non,     q_var, q_con, q_glb, q_tup, q_lst, q_dict0, q_bin, q_neg, q_not, q_and, q_or, q_ife, q_cmp, q_cmp2, q_attr, q_sub, q_srev, q_call, q_callk, q_meth, q_bm, q_new, q_bi, q_isi, q_lc, q_lc2, q_dc, q_sortk, q_sortv, q_sortvM, q_maxk, q_sortm, q_dict2, q_anil, q_acons, q_ival, q_items, q_vals, q_rng, q_zip, q_cntT, q_tab, q_tnin, q_zipT,     o_add, o_sub, o_mul, o_fdiv, o_mod, o_pow18, o_addT, ag_add, ag_sub, c_lt, c_gt, c_le, c_ge, c_eq, c_ne, c_is, c_isn, c_in, c_nin, u_tup, u_scr, n_scr, n_tup, n_str, n_abs, n_min2, n_min3, n_max2, tg_nm, tg_2, tg_3, at_0, at_1, at_2, at_3, at_4, i_int, sat_some, getV_0, getV_s,     List.set_cons_zero, List.set_cons_succ, List.map_cons, List.map_nil, List.replicate_succ, List.replicate_zero, List.cons_append, List.nil_append, List.length_cons, List.length_nil, walk_lst (show (M5.set gd (.dct false (sets ((layer kn 3).foldl stepG []))))[r2]? = some (.lst (layer kn 2)) by rw [List.getElem?_set_ne (by omega)]; exact pre_get p5 h2), lock_lst, unlk_lst]
    refine sat_mono (void_for S k r2 gd (layer kn 2) [] _ _ _ _ _ _ M5 _ (pre_get p5 h2) (by omega) (by omega) (hlay 2 (by omega)) k3 (by simp at g3; omega)) fun q M2 ⟨h', e, e'⟩ => ?_
    subst e e'
    simp only [q_nil, q_cons, k_nx, k_ret, k_brk, k_ct, q_asg, q_asgA, q_asgS, q_aug, q_ex, q_ret, q_retN, q_pass, q_brk, q_cont, q_ifs, q_for, q_whl, b_t, b_f, be_t, be_f, ba_t, ba_f, bo_t, bo_f, t_bl, t_int, t_non,     q_var, q_con, q_glb, q_tup, q_lst, q_dict0, q_bin, q_neg, q_not, q_and, q_or, q_ife, q_cmp, q_cmp2, q_attr, q_sub, q_srev, q_call, q_callk, q_meth, q_bm, q_new, q_bi, q_isi, q_lc, q_lc2, q_dc, q_sortk, q_sortv, q_sortvM, q_maxk, q_sortm, q_dict2, q_anil, q_acons, q_ival, q_items, q_vals, q_rng, q_zip, q_cntT, q_tab, q_tnin, q_zipT,     o_add, o_sub, o_mul, o_fdiv, o_mod, o_pow18, o_addT, ag_add, ag_sub, c_lt, c_gt, c_le, c_ge, c_eq, c_ne, c_is, c_isn, c_in, c_nin, u_tup, u_scr, n_scr, n_tup, n_str, n_abs, n_min2, n_min3, n_max2, tg_nm, tg_2, tg_3, at_0, at_1, at_2, at_3, at_4, i_int, sat_some, getV_0, getV_s,     List.set_cons_zero, List.set_cons_succ, List.map_cons, List.map_nil, List.replicate_succ, List.replicate_zero, List.cons_append, List.nil_append, List.length_cons, List.length_nil]
    refine ⟨trivial, for_step (hst _) rfl ?_⟩
    simp only [q_nil, q_cons, k_nx, k_ret, k_brk, k_ct, q_asg, q_asgA, q_asgS, q_aug, q_ex, q_ret, q_retN, q_pass, q_brk, q_cont, q_ifs, q_for, q_whl, b_t, b_f, be_t, be_f, ba_t, ba_f, bo_t, bo_f, t_bl, t_int, t_non,     q_var, q_con, q_glb, q_tup, q_lst, q_dict0, q_bin, q_neg, q_not, q_and, q_or, q_ife, q_cmp, q_cmp2, q_attr, q_sub, q_srev, q_call, q_callk, q_meth, q_bm, q_new, q_bi, q_isi, q_lc, q_lc2, q_dc, q_sortk, q_sortv, q_sortvM, q_maxk, q_sortm, q_dict2, q_anil, q_acons, q_ival, q_items, q_vals, q_rng, q_zip, q_cntT, q_tab, q_tnin, q_zipT,     o_add, o_sub, o_mul, o_fdiv, o_mod, o_pow18, o_addT, ag_add, ag_sub, c_lt, c_gt, c_le, c_ge, c_eq, c_ne, c_is, c_isn, c_in, c_nin, u_tup, u_scr, n_scr, n_tup, n_str, n_abs, n_min2, n_min3, n_max2, tg_nm, tg_2, tg_3, at_0, at_1, at_2, at_3, at_4, i_int, sat_some, getV_0, getV_s,     List.set_cons_zero, List.set_cons_succ, List.map_cons, List.map_nil, List.replicate_succ, List.replicate_zero, List.cons_append, List.nil_append, List.length_cons, List.length_nil, walk_lst (show (M5.set gd (.dct false (sets ((layer kn 2).foldl stepG ((layer kn 3).foldl stepG [])))))[r1]? = some (.lst (layer kn 1)) by rw [List.getElem?_set_ne (by omega)]; exact pre_get p5 h1), lock_lst, unlk_lst]
    refine sat_mono (void_for S k r1 gd (layer kn 1) [] _ _ _ _ _ _ M5 _ (pre_get p5 h1) (by omega) (by omega) (hlay 1 (by omega)) k2 (by simp at g3; omega)) fun q M2 ⟨h', e, e'⟩ => ?_
    subst e e'
    simp only [q_nil, q_cons, k_nx, k_ret, k_brk, k_ct, q_asg, q_asgA, q_asgS, q_aug, q_ex, q_ret, q_retN, q_pass, q_brk, q_cont, q_ifs, q_for, q_whl, b_t, b_f, be_t, be_f, ba_t, ba_f, bo_t, bo_f, t_bl, t_int, t_non,     q_var, q_con, q_glb, q_tup, q_lst, q_dict0, q_bin, q_neg, q_not, q_and, q_or, q_ife, q_cmp, q_cmp2, q_attr, q_sub, q_srev, q_call, q_callk, q_meth, q_bm, q_new, q_bi, q_isi, q_lc, q_lc2, q_dc, q_sortk, q_sortv, q_sortvM, q_maxk, q_sortm, q_dict2, q_anil, q_acons, q_ival, q_items, q_vals, q_rng, q_zip, q_cntT, q_tab, q_tnin, q_zipT,     o_add, o_sub, o_mul, o_fdiv, o_mod, o_pow18, o_addT, ag_add, ag_sub, c_lt, c_gt, c_le, c_ge, c_eq, c_ne, c_is, c_isn, c_in, c_nin, u_tup, u_scr, n_scr, n_tup, n_str, n_abs, n_min2, n_min3, n_max2, tg_nm, tg_2, tg_3, at_0, at_1, at_2, at_3, at_4, i_int, sat_some, getV_0, getV_s,     List.set_cons_zero, List.set_cons_succ, List.map_cons, List.map_nil, List.replicate_succ, List.replicate_zero, List.cons_append, List.nil_append, List.length_cons, List.length_nil]
    refine ⟨trivial, for_nil (hst _) ?_⟩
    simp only [q_nil, q_cons, k_nx, k_ret, k_brk, k_ct, q_asg, q_asgA, q_asgS, q_aug, q_ex, q_ret, q_retN, q_pass, q_brk, q_cont, q_ifs, q_for, q_whl, b_t, b_f, be_t, be_f, ba_t, ba_f, bo_t, bo_f, t_bl, t_int, t_non,     q_var, q_con, q_glb, q_tup, q_lst, q_dict0, q_bin, q_neg, q_not, q_and, q_or, q_ife, q_cmp, q_cmp2, q_attr, q_sub, q_srev, q_call, q_callk, q_meth, q_bm, q_new, q_bi, q_isi, q_lc, q_lc2, q_dc, q_sortk, q_sortv, q_sortvM, q_maxk, q_sortm, q_dict2, q_anil, q_acons, q_ival, q_items, q_vals, q_rng, q_zip, q_cntT, q_tab, q_tnin, q_zipT,     o_add, o_sub, o_mul, o_fdiv, o_mod, o_pow18, o_addT, ag_add, ag_sub, c_lt, c_gt, c_le, c_ge, c_eq, c_ne, c_is, c_isn, c_in, c_nin, u_tup, u_scr, n_scr, n_tup, n_str, n_abs, n_min2, n_min3, n_max2, tg_nm, tg_2, tg_3, at_0, at_1, at_2, at_3, at_4, i_int, sat_some, getV_0, getV_s,     List.set_cons_zero, List.set_cons_succ, List.map_cons, List.map_nil, List.replicate_succ, List.replicate_zero, List.cons_append, List.nil_append, List.length_cons, List.length_nil]
    generalize hM6 : M5.set gd (.dct false (sets ((layer kn 1).foldl stepG ((layer kn 2).foldl stepG ((layer kn 3).foldl stepG []))))) = M6
    have p6 : M' <+: M6 := by rw [← hM6]; exact pre_set p5 (by omega)
    have hgd6 : M6[gd]? = some (.dct false (sets (goneOf kn))) := by rw [← hM6, List.getElem?_set_self (by omega)]; rfl
    have hkd6 : M6[kd]? = some (.dct false (sets (kn.map Tr.w))) := pre_get p6 hkdM
    simp only [walk_dct hkd6, sat_some]
    rw [sets_keys]
    have hlk : (lockM [(kd, .dct false (sets (kn.map Tr.w)))] M6)[gd]? = some (.dct false (sets (goneOf kn))) := by
      show (M6.set kd _)[gd]? = _
      rw [List.getElem?_set_ne (by omega)]
      exact hgd6
    have e7 := lc_pure (G := Gp S) (t := .nm 7) (c := evE (Gp S) (callN (Gp S) fuel (k + 1)) (callN (Gp S) fuel (k + 1 - 1)) (.and (.cmp .ne (.sub (.var 7) (.con (.int 0))) (.glb "VOID")) (.cmp .nin (.var 7) (.var 4)))) (e := evE (Gp S) (callN (Gp S) fuel (k + 1)) (callN (Gp S) fuel (k + 1 - 1)) (.var 7)) (ps := [(kd, .dct false (sets (kn.map Tr.w)))]) (σ := [some (.ref l), some (.ref kd), some (.int 3), some (.ref ly), some (.ref gd), some (.ref r1), h', none]) (M := lockM [(kd, .dct false (sets (kn.map Tr.w)))] M6) (xs := kn.map Tr.w)
      (headFree (goneOf kn)) id rfl (by rw [List.length_map]; omega) (fun x hx => by
        obtain ⟨u, hu, rfl⟩ := List.mem_map.mp hx
        have huk := K.ok u hu
        obtain ⟨w, rest, e, hs, hv⟩ := Tr.head (M := M') S u huk.1
        refine ⟨[some (.ref l), some (.ref kd), some (.int 3), some (.ref ly), some (.ref gd), some (.ref r1), h', some u.w], rfl, ⟨.bl (headFree (goneOf kn) u.w), sat_eq ?_, rfl⟩, fun _ => sat_eq ?_⟩
        · rw [headFree_w _ _ huk.1]
          have hkey := huk.2.2.1
          have hind : inW (Gp S) u.w (.ref gd) (lockM [(kd, .dct false (sets (kn.map Tr.w)))] M6) = some (decide (u.w ∈ goneOf kn)) := by
            rw [in_dct hlk (keyOk_sets hkey k1), dget_sets]
          have e' : ∀ i : Int, subW (Gp S) u.w (.int i) (lockM [(kd, .dct false (sets (kn.map Tr.w)))] M6) = .ofO (atI (.str w :: rest) i) (lockM [(kd, .dct false (sets (kn.map Tr.w)))] M6) := by
            rw [e]; exact fun _ => rfl
          simp only [q_nil, q_cons, k_nx, k_ret, k_brk, k_ct, q_asg, q_asgA, q_asgS, q_aug, q_ex, q_ret, q_retN, q_pass, q_brk, q_cont, q_ifs, q_for, q_whl, b_t, b_f, be_t, be_f, ba_t, ba_f, bo_t, bo_f, t_bl, t_int, t_non,     q_var, q_con, q_glb, q_tup, q_lst, q_dict0, q_bin, q_neg, q_not, q_and, q_or, q_ife, q_cmp, q_cmp2, q_attr, q_sub, q_srev, q_call, q_callk, q_meth, q_bm, q_new, q_bi, q_isi, q_lc, q_lc2, q_dc, q_sortk, q_sortv, q_sortvM, q_maxk, q_sortm, q_dict2, q_anil, q_acons, q_ival, q_items, q_vals, q_rng, q_zip, q_cntT, q_tab, q_tnin, q_zipT,     o_add, o_sub, o_mul, o_fdiv, o_mod, o_pow18, o_addT, ag_add, ag_sub, c_lt, c_gt, c_le, c_ge, c_eq, c_ne, c_is, c_isn, c_in, c_nin, u_tup, u_scr, n_scr, n_tup, n_str, n_abs, n_min2, n_min3, n_max2, tg_nm, tg_2, tg_3, at_0, at_1, at_2, at_3, at_4, i_int, sat_some, getV_0, getV_s,     List.set_cons_zero, List.set_cons_succ, List.map_cons, List.map_nil, List.replicate_succ, List.replicate_zero, List.cons_append, List.nil_append, List.length_cons, List.length_nil, con_VOID, e', hind]
          refine ⟨_, eqW_str hs void_shaped, ?_⟩
          by_cases z : u.dep = 0
          · have : ¬ w = ("void" : Str) := fun q => (hv.mp q) z
            rw [decide_eq_true z, decide_eq_false this]
            simp only [q_nil, q_cons, k_nx, k_ret, k_brk, k_ct, q_asg, q_asgA, q_asgS, q_aug, q_ex, q_ret, q_retN, q_pass, q_brk, q_cont, q_ifs, q_for, q_whl, b_t, b_f, be_t, be_f, ba_t, ba_f, bo_t, bo_f, t_bl, t_int, t_non,     q_var, q_con, q_glb, q_tup, q_lst, q_dict0, q_bin, q_neg, q_not, q_and, q_or, q_ife, q_cmp, q_cmp2, q_attr, q_sub, q_srev, q_call, q_callk, q_meth, q_bm, q_new, q_bi, q_isi, q_lc, q_lc2, q_dc, q_sortk, q_sortv, q_sortvM, q_maxk, q_sortm, q_dict2, q_anil, q_acons, q_ival, q_items, q_vals, q_rng, q_zip, q_cntT, q_tab, q_tnin, q_zipT,     o_add, o_sub, o_mul, o_fdiv, o_mod, o_pow18, o_addT, ag_add, ag_sub, c_lt, c_gt, c_le, c_ge, c_eq, c_ne, c_is, c_isn, c_in, c_nin, u_tup, u_scr, n_scr, n_tup, n_str, n_abs, n_min2, n_min3, n_max2, tg_nm, tg_2, tg_3, at_0, at_1, at_2, at_3, at_4, i_int, sat_some, getV_0, getV_s,     List.set_cons_zero, List.set_cons_succ, List.map_cons, List.map_nil, List.replicate_succ, List.replicate_zero, List.cons_append, List.nil_append, List.length_cons, List.length_nil, Bool.not_false, hind]
            refine ⟨_, rfl, ?_, trivial⟩
            by_cases y : u.w ∈ goneOf kn
            · simp [y]
            · simp [y]
          · have : w = ("void" : Str) := hv.mpr z
            rw [decide_eq_false z, decide_eq_true this]
            simp only [q_nil, q_cons, k_nx, k_ret, k_brk, k_ct, q_asg, q_asgA, q_asgS, q_aug, q_ex, q_ret, q_retN, q_pass, q_brk, q_cont, q_ifs, q_for, q_whl, b_t, b_f, be_t, be_f, ba_t, ba_f, bo_t, bo_f, t_bl, t_int, t_non,     q_var, q_con, q_glb, q_tup, q_lst, q_dict0, q_bin, q_neg, q_not, q_and, q_or, q_ife, q_cmp, q_cmp2, q_attr, q_sub, q_srev, q_call, q_callk, q_meth, q_bm, q_new, q_bi, q_isi, q_lc, q_lc2, q_dc, q_sortk, q_sortv, q_sortvM, q_maxk, q_sortm, q_dict2, q_anil, q_acons, q_ival, q_items, q_vals, q_rng, q_zip, q_cntT, q_tab, q_tnin, q_zipT,     o_add, o_sub, o_mul, o_fdiv, o_mod, o_pow18, o_addT, ag_add, ag_sub, c_lt, c_gt, c_le, c_ge, c_eq, c_ne, c_is, c_isn, c_in, c_nin, u_tup, u_scr, n_scr, n_tup, n_str, n_abs, n_min2, n_min3, n_max2, tg_nm, tg_2, tg_3, at_0, at_1, at_2, at_3, at_4, i_int, sat_some, getV_0, getV_s,     List.set_cons_zero, List.set_cons_succ, List.map_cons, List.map_nil, List.replicate_succ, List.replicate_zero, List.cons_append, List.nil_append, List.length_cons, List.length_nil, Bool.not_true]
            exact ⟨rfl, trivial⟩
        · simp only [q_nil, q_cons, k_nx, k_ret, k_brk, k_ct, q_asg, q_asgA, q_asgS, q_aug, q_ex, q_ret, q_retN, q_pass, q_brk, q_cont, q_ifs, q_for, q_whl, b_t, b_f, be_t, be_f, ba_t, ba_f, bo_t, bo_f, t_bl, t_int, t_non,     q_var, q_con, q_glb, q_tup, q_lst, q_dict0, q_bin, q_neg, q_not, q_and, q_or, q_ife, q_cmp, q_cmp2, q_attr, q_sub, q_srev, q_call, q_callk, q_meth, q_bm, q_new, q_bi, q_isi, q_lc, q_lc2, q_dc, q_sortk, q_sortv, q_sortvM, q_maxk, q_sortm, q_dict2, q_anil, q_acons, q_ival, q_items, q_vals, q_rng, q_zip, q_cntT, q_tab, q_tnin, q_zipT,     o_add, o_sub, o_mul, o_fdiv, o_mod, o_pow18, o_addT, ag_add, ag_sub, c_lt, c_gt, c_le, c_ge, c_eq, c_ne, c_is, c_isn, c_in, c_nin, u_tup, u_scr, n_scr, n_tup, n_str, n_abs, n_min2, n_min3, n_max2, tg_nm, tg_2, tg_3, at_0, at_1, at_2, at_3, at_4, i_int, sat_some, getV_0, getV_s,     List.set_cons_zero, List.set_cons_succ, List.map_cons, List.map_nil, List.replicate_succ, List.replicate_zero, List.cons_append, List.nil_append, List.length_cons, List.length_nil]
          exact ⟨rfl, trivial⟩)
    refine lc_done (Q := fun v M_1 => M <+: M_1 ∧ ∃ y, v = .ref y ∧ kd ≤ y ∧ M_1[y]? = some (Ob.lst (List.map Tr.w (forceOf kn)))) e7 (unlk_lock hkd6) ?_
    refine ⟨(p1.trans pm).trans (pre_snoc p6 _), _, rfl, ?_, ?_⟩
    · have := pre_len p6; omega
    · rw [at_new]
      congr 2
      rw [List.map_id]
      exact filter_map_w kn _ _ fun u hu => headFree_w _ u (K.ok u hu).1
  clear hK0
  generalize hM3 : M1 ++ [Ob.lst (List.map Tr.w kn)] ++ [Ob.lst [Wv.ref (List.length M1)]] = M3
  generalize hly : List.length (M1 ++ [Ob.lst (List.map Tr.w kn)]) = ly
  have p3 : M1 <+: M3 := by rw [← hM3, List.append_assoc]; exact List.prefix_append _ _
  have h3 : M3[ly]? = some (.lst [Wv.ref (List.length M1)]) := by rw [← hM3, ← hly]; exact at_new ..
  have hly1 : M1.length < ly := by rw [← hly]; simp
  refine whl_rule (fun m σ M' => ∃ (d : Nat) (rs : List Nat), σ = [some (.ref l), some (.ref kd), some (.int d), some (.ref ly), none, none, none, none] ∧ M1 <+: M' ∧ M'[ly]? = some (.lst (.ref M1.length :: rs.map .ref)) ∧ rs.length = d ∧ d + m = 3 ∧ (∀ i r, rs[i]? = some r → r ≠ ly ∧ M'[r]? = some (.lst (layer kn (i + 1))))) ?_ fuel 3 _ _ ⟨0, [], rfl, p3, h3, rfl, rfl, fun i r h => by simp at h⟩ hfu
  rintro m σ M' ⟨d, rs, rfl, pm, hm, hd, hdm, hr⟩
  have hlyM : ly < M'.length := (List.getElem?_eq_some_iff.mp hm).1
  have hkdM : M'[kd]? = some (.dct false (sets (kn.map Tr.w))) := pre_get pm hkd
  simp only [q_nil, q_cons, k_nx, k_ret, k_brk, k_ct, q_asg, q_asgA, q_asgS, q_aug, q_ex, q_ret, q_retN, q_pass, q_brk, q_cont, q_ifs, q_for, q_whl, b_t, b_f, be_t, be_f, ba_t, ba_f, bo_t, bo_f, t_bl, t_int, t_non,     q_var, q_con, q_glb, q_tup, q_lst, q_dict0, q_bin, q_neg, q_not, q_and, q_or, q_ife, q_cmp, q_cmp2, q_attr, q_sub, q_srev, q_call, q_callk, q_meth, q_bm, q_new, q_bi, q_isi, q_lc, q_lc2, q_dc, q_sortk, q_sortv, q_sortvM, q_maxk, q_sortm, q_dict2, q_anil, q_acons, q_ival, q_items, q_vals, q_rng, q_zip, q_cntT, q_tab, q_tnin, q_zipT,     o_add, o_sub, o_mul, o_fdiv, o_mod, o_pow18, o_addT, ag_add, ag_sub, c_lt, c_gt, c_le, c_ge, c_eq, c_ne, c_is, c_isn, c_in, c_nin, u_tup, u_scr, n_scr, n_tup, n_str, n_abs, n_min2, n_min3, n_max2, tg_nm, tg_2, tg_3, at_0, at_1, at_2, at_3, at_4, i_int, sat_some, getV_0, getV_s,     List.set_cons_zero, List.set_cons_succ, List.map_cons, List.map_nil, List.replicate_succ, List.replicate_zero, List.cons_append, List.nil_append, List.length_cons, List.length_nil, con_MOST_DEEP]
  refine ⟨_, rfl, fun hc => ?_, fun hc => ?_⟩
  · have hd3 : d < 3 := by have := of_decide_eq_true hc; omega
    refine ⟨bmT_append hm, ?_⟩
    simp only [walk_dct hkdM, sat_some]
    rw [sets_keys]
    refine lc_done (Q := fun a M => (bmW .append (.ref ly) [a] M).sat _) (layer_lc S k kn kd d [] _ none none none (fun t ht => ⟨(K.ok t ht).1, by have := (K.ok t ht).2.1; omega⟩) (by omega) _ _ _) (unlk_lock hkdM) ?_
    have hm2 : (M' ++ [Ob.lst (layer kn (d + 1))])[ly]? = some (.lst (.ref M1.length :: rs.map .ref)) := by
      rw [List.getElem?_append_left hlyM]; exact hm
    refine sat_of (bm_append hm2 (by simp; omega)) ?_
    refine ⟨m - 1, by omega, d + 1, rs ++ [M'.length], ?_, ?_, ?_, ?_, ?_, ?_⟩
    · simp
    · exact pre_set (pre_snoc pm _) (by omega)
    · rw [List.getElem?_set_self (by simp; omega)]
      simp
    · simp [hd]
    · omega
    · intro i r hi
      by_cases hi2 : i < rs.length
      · rw [List.getElem?_append_left hi2] at hi
        obtain ⟨n1, n2⟩ := hr i r hi
        refine ⟨n1, ?_⟩
        rw [List.getElem?_set_ne (Ne.symm n1), List.getElem?_append_left (List.getElem?_eq_some_iff.mp n2).1]
        exact n2
      · rw [List.getElem?_append_right (by omega)] at hi
        have hi3 : i - rs.length = 0 := by
          by_cases z : i - rs.length = 0
          · exact z
          · rw [List.getElem?_eq_none (by simp; omega)] at hi; cases hi
        rw [hi3] at hi
        have hi4 : M'.length = r := by simpa using hi
        subst hi4
        refine ⟨by omega, ?_⟩
        rw [List.getElem?_set_ne (by omega), at_new]
        have : i = d := by omega
        rw [this]
  · have hd3 : ¬ d < 3 := by have := of_decide_eq_false hc; omega
    have hd4 : d = 3 := by omega
    subst hd4
    obtain ⟨r1, r2, r3, rfl⟩ : ∃ r1 r2 r3, rs = [r1, r2, r3] := by
      match rs, hd with
      | [a, b, c], _ => exact ⟨a, b, c, rfl⟩
    exact after M' ly _ r1 r2 r3 pm hm (hr 0 r1 rfl).2 (hr 1 r2 rfl).2 (hr 2 r3 rfl).2
end Bh
end
section
set_option Elab.async false
set_option linter.all false
set_option maxRecDepth 100000
set_option maxHeartbeats 0
namespace Bh
open PySem MP
structure Bt where
  w : Str
  d : Int
  xs : List Wv
  deriving DecidableEq
def Bt.v (t : Bt) : Wv := .tup (.str t.w :: .int t.d :: t.xs)
def Bt.tn (t : Bt) : Nat := if t.w = ("share" : Str) then 2 else if t.w = ("release" : Str) then 3 else 1
def Bt.thing (t : Bt) : Wv := .tup (.str t.w :: t.xs.take t.tn)
def Bt.key (t : Bt) : Wv := .tup [t.thing, .int t.d]
structure Bt.ok (t : Bt) : Prop where
  nv : t.w ≠ ("void" : Str)
  sh : SeqAt.shaped (.str t.w) = true
  ln : t.tn ≤ t.xs.length
  pv : pur 5 t.v = true
  kt : keyT t.thing = true
  kk : keyT t.key = true
  pk : pur 6 t.key = true
theorem share_shaped : SeqAt.shaped (.str "share") = true := by decide +kernel
theorem release_shaped : SeqAt.shaped (.str "release") = true := by decide +kernel
theorem thing_of_ok (S : List Int) (k : Nat) (t : Bt) (M : Mem) (h : t.ok) : callN (Gp S) fuel (k + 1) ix_thing_of [t.v] M = .ok t.thing M := by
  obtain ⟨w, d, xs⟩ := t
  have hsh := h.sh
  have hln := h.ln
  simp only at hsh
  simp only [Bt.tn] at hln
  refine sat_eq ?_
  rw [at_thing_of]
  refine run_sat rfl ?_
  show (evSl (Gp S) _ _ fuel sl_thing_of [some (.tup (.str w :: .int d :: xs))] M).sat _
  unfold sl_thing_of
  simp only [q_nil, q_cons, k_nx, k_ret, k_brk, k_ct, q_asg, q_asgA, q_asgS, q_aug, q_ex, q_ret, q_retN, q_pass, q_brk, q_cont, q_ifs, q_for, q_whl, b_t, b_f, be_t, be_f, ba_t, ba_f, bo_t, bo_f, t_bl, t_int, t_non,     q_var, q_con, q_glb, q_tup, q_lst, q_dict0, q_bin, q_neg, q_not, q_and, q_or, q_ife, q_cmp, q_cmp2, q_attr, q_sub, q_srev, q_call, q_callk, q_meth, q_bm, q_new, q_bi, q_isi, q_lc, q_lc2, q_dc, q_sortk, q_sortv, q_sortvM, q_maxk, q_sortm, q_dict2, q_anil, q_acons, q_ival, q_items, q_vals, q_rng, q_zip, q_cntT, q_tab, q_tnin, q_zipT,     o_add, o_sub, o_mul, o_fdiv, o_mod, o_pow18, o_addT, ag_add, ag_sub, c_lt, c_gt, c_le, c_ge, c_eq, c_ne, c_is, c_isn, c_in, c_nin, u_tup, u_scr, n_scr, n_tup, n_str, n_abs, n_min2, n_min3, n_max2, tg_nm, tg_2, tg_3, at_0, at_1, at_2, at_3, at_4, i_int, sat_some, getV_0, getV_s,     List.set_cons_zero, List.set_cons_succ, List.map_cons, List.map_nil, List.replicate_succ, List.replicate_zero, List.cons_append, List.nil_append, List.length_cons, List.length_nil]
  refine ⟨_, eqW_str hsh share_shaped, ?_⟩
  by_cases h1 : w = ("share" : Str)
  · rw [if_pos h1] at hln
    rw [decide_eq_true h1]
    match xs, hln with
    | a :: b :: r, _ =>
      simp only [q_nil, q_cons, k_nx, k_ret, k_brk, k_ct, q_asg, q_asgA, q_asgS, q_aug, q_ex, q_ret, q_retN, q_pass, q_brk, q_cont, q_ifs, q_for, q_whl, b_t, b_f, be_t, be_f, ba_t, ba_f, bo_t, bo_f, t_bl, t_int, t_non,     q_var, q_con, q_glb, q_tup, q_lst, q_dict0, q_bin, q_neg, q_not, q_and, q_or, q_ife, q_cmp, q_cmp2, q_attr, q_sub, q_srev, q_call, q_callk, q_meth, q_bm, q_new, q_bi, q_isi, q_lc, q_lc2, q_dc, q_sortk, q_sortv, q_sortvM, q_maxk, q_sortm, q_dict2, q_anil, q_acons, q_ival, q_items, q_vals, q_rng, q_zip, q_cntT, q_tab, q_tnin, q_zipT,     o_add, o_sub, o_mul, o_fdiv, o_mod, o_pow18, o_addT, ag_add, ag_sub, c_lt, c_gt, c_le, c_ge, c_eq, c_ne, c_is, c_isn, c_in, c_nin, u_tup, u_scr, n_scr, n_tup, n_str, n_abs, n_min2, n_min3, n_max2, tg_nm, tg_2, tg_3, at_0, at_1, at_2, at_3, at_4, i_int, sat_some, getV_0, getV_s,     List.set_cons_zero, List.set_cons_succ, List.map_cons, List.map_nil, List.replicate_succ, List.replicate_zero, List.cons_append, List.nil_append, List.length_cons, List.length_nil]
      refine ⟨len_ok (by decide), ?_, trivial⟩
      simp [Bt.thing, Bt.tn, h1]
  · rw [if_neg h1] at hln
    rw [decide_eq_false h1]
    simp only [q_nil, q_cons, k_nx, k_ret, k_brk, k_ct, q_asg, q_asgA, q_asgS, q_aug, q_ex, q_ret, q_retN, q_pass, q_brk, q_cont, q_ifs, q_for, q_whl, b_t, b_f, be_t, be_f, ba_t, ba_f, bo_t, bo_f, t_bl, t_int, t_non,     q_var, q_con, q_glb, q_tup, q_lst, q_dict0, q_bin, q_neg, q_not, q_and, q_or, q_ife, q_cmp, q_cmp2, q_attr, q_sub, q_srev, q_call, q_callk, q_meth, q_bm, q_new, q_bi, q_isi, q_lc, q_lc2, q_dc, q_sortk, q_sortv, q_sortvM, q_maxk, q_sortm, q_dict2, q_anil, q_acons, q_ival, q_items, q_vals, q_rng, q_zip, q_cntT, q_tab, q_tnin, q_zipT,     o_add, o_sub, o_mul, o_fdiv, o_mod, o_pow18, o_addT, ag_add, ag_sub, c_lt, c_gt, c_le, c_ge, c_eq, c_ne, c_is, c_isn, c_in, c_nin, u_tup, u_scr, n_scr, n_tup, n_str, n_abs, n_min2, n_min3, n_max2, tg_nm, tg_2, tg_3, at_0, at_1, at_2, at_3, at_4, i_int, sat_some, getV_0, getV_s,     List.set_cons_zero, List.set_cons_succ, List.map_cons, List.map_nil, List.replicate_succ, List.replicate_zero, List.cons_append, List.nil_append, List.length_cons, List.length_nil]
    refine ⟨_, eqW_str hsh release_shaped, ?_⟩
    by_cases h2 : w = ("release" : Str)
    · rw [if_pos h2] at hln
      rw [decide_eq_true h2]
      match xs, hln with
      | a :: b :: c :: r, _ =>
        simp only [q_nil, q_cons, k_nx, k_ret, k_brk, k_ct, q_asg, q_asgA, q_asgS, q_aug, q_ex, q_ret, q_retN, q_pass, q_brk, q_cont, q_ifs, q_for, q_whl, b_t, b_f, be_t, be_f, ba_t, ba_f, bo_t, bo_f, t_bl, t_int, t_non,     q_var, q_con, q_glb, q_tup, q_lst, q_dict0, q_bin, q_neg, q_not, q_and, q_or, q_ife, q_cmp, q_cmp2, q_attr, q_sub, q_srev, q_call, q_callk, q_meth, q_bm, q_new, q_bi, q_isi, q_lc, q_lc2, q_dc, q_sortk, q_sortv, q_sortvM, q_maxk, q_sortm, q_dict2, q_anil, q_acons, q_ival, q_items, q_vals, q_rng, q_zip, q_cntT, q_tab, q_tnin, q_zipT,     o_add, o_sub, o_mul, o_fdiv, o_mod, o_pow18, o_addT, ag_add, ag_sub, c_lt, c_gt, c_le, c_ge, c_eq, c_ne, c_is, c_isn, c_in, c_nin, u_tup, u_scr, n_scr, n_tup, n_str, n_abs, n_min2, n_min3, n_max2, tg_nm, tg_2, tg_3, at_0, at_1, at_2, at_3, at_4, i_int, sat_some, getV_0, getV_s,     List.set_cons_zero, List.set_cons_succ, List.map_cons, List.map_nil, List.replicate_succ, List.replicate_zero, List.cons_append, List.nil_append, List.length_cons, List.length_nil]
        refine ⟨len_ok (by decide), ?_, trivial⟩
        simp [Bt.thing, Bt.tn, h2, show ¬ (("release" : Str) = ("share" : Str)) by decide +kernel]
    · rw [if_neg h2] at hln
      rw [decide_eq_false h2]
      match xs, hln with
      | a :: r, _ =>
        simp only [q_nil, q_cons, k_nx, k_ret, k_brk, k_ct, q_asg, q_asgA, q_asgS, q_aug, q_ex, q_ret, q_retN, q_pass, q_brk, q_cont, q_ifs, q_for, q_whl, b_t, b_f, be_t, be_f, ba_t, ba_f, bo_t, bo_f, t_bl, t_int, t_non,     q_var, q_con, q_glb, q_tup, q_lst, q_dict0, q_bin, q_neg, q_not, q_and, q_or, q_ife, q_cmp, q_cmp2, q_attr, q_sub, q_srev, q_call, q_callk, q_meth, q_bm, q_new, q_bi, q_isi, q_lc, q_lc2, q_dc, q_sortk, q_sortv, q_sortvM, q_maxk, q_sortm, q_dict2, q_anil, q_acons, q_ival, q_items, q_vals, q_rng, q_zip, q_cntT, q_tab, q_tnin, q_zipT,     o_add, o_sub, o_mul, o_fdiv, o_mod, o_pow18, o_addT, ag_add, ag_sub, c_lt, c_gt, c_le, c_ge, c_eq, c_ne, c_is, c_isn, c_in, c_nin, u_tup, u_scr, n_scr, n_tup, n_str, n_abs, n_min2, n_min3, n_max2, tg_nm, tg_2, tg_3, at_0, at_1, at_2, at_3, at_4, i_int, sat_some, getV_0, getV_s,     List.set_cons_zero, List.set_cons_succ, List.map_cons, List.map_nil, List.replicate_succ, List.replicate_zero, List.cons_append, List.nil_append, List.length_cons, List.length_nil]
        refine ⟨len_ok (by decide), ?_, trivial⟩
        simp [Bt.thing, Bt.tn, h1, h2]
def kvOf (ts : List Bt) : List (Wv × Wv) := ts.map fun t => (t.key, t.v)
theorem dput_new {kvs : List (Wv × Wv)} {k v : Wv} (h : ∀ p ∈ kvs, p.1 ≠ k) : dput kvs k v = kvs ++ [(k, v)] := by
  induction kvs with
  | nil => rfl
  | cons p r ih =>
    simp only [dput]
    rw [if_neg (h p (List.mem_cons_self ..)), ih fun q hq => h q (List.mem_cons_of_mem _ hq)]
    rfl
def gt2 (u t : Bt) : Bt := if W.dataLt (dat u.v) (dat t.v) = true then t else u
def putB : List Bt → Bt → List Bt
  | [], t => [t]
  | u :: r, t => if u.key = t.key then gt2 u t :: r else u :: putB r t
def cntOf (fs : List Bt) : List Bt := fs.foldl putB []
theorem gt2_key {u t : Bt} (h : u.key = t.key) : (gt2 u t).key = t.key := by
  unfold gt2
  split
  · rfl
  · exact h
theorem gt2_mem (u t : Bt) : gt2 u t = u ∨ gt2 u t = t := by
  unfold gt2
  split
  · exact .inr rfl
  · exact .inl rfl
theorem putB_mem {acc : List Bt} {t x : Bt} (h : x ∈ putB acc t) : x ∈ acc ∨ x = t := by
  induction acc with
  | nil => exact .inr (List.mem_singleton.mp h)
  | cons u r ih =>
    simp only [putB] at h
    split at h
    · rcases List.mem_cons.mp h with h | h
      · rcases gt2_mem u t with e | e
        · exact .inl (by rw [h, e]; exact List.mem_cons_self ..)
        · exact .inr (by rw [h, e])
      · exact .inl (List.mem_cons_of_mem _ h)
    · rcases List.mem_cons.mp h with h | h
      · exact .inl (by rw [h]; exact List.mem_cons_self ..)
      · rcases ih h with h | h
        · exact .inl (List.mem_cons_of_mem _ h)
        · exact .inr h
theorem putB_keys {acc : List Bt} {t : Bt} {k : Wv} (h : k ∈ (putB acc t).map Bt.key) : k ∈ acc.map Bt.key ∨ k = t.key := by
  induction acc with
  | nil => simp [putB] at h; exact .inr h
  | cons u r ih =>
    simp only [putB] at h
    split at h
    · rename_i e
      rcases List.mem_cons.mp h with h | h
      · exact .inr (by rw [h, gt2_key e])
      · exact .inl (List.mem_cons_of_mem _ h)
    · rcases List.mem_cons.mp h with h | h
      · exact .inl (by rw [h]; exact List.mem_cons_self ..)
      · rcases ih h with h | h
        · exact .inl (List.mem_cons_of_mem _ h)
        · exact .inr h
theorem putB_nodup {acc : List Bt} {t : Bt} (h : (acc.map Bt.key).Nodup) : ((putB acc t).map Bt.key).Nodup := by
  induction acc with
  | nil => simp [putB]
  | cons u r ih =>
    rw [List.map_cons, List.nodup_cons] at h
    simp only [putB]
    split
    · rename_i e
      rw [List.map_cons, List.nodup_cons, gt2_key e, ← e]
      exact h
    · rename_i e
      rw [List.map_cons, List.nodup_cons]
      refine ⟨fun z => ?_, ih h.2⟩
      rcases putB_keys z with z | z
      · exact h.1 z
      · exact e z
theorem putB_len (acc : List Bt) (t : Bt) : (putB acc t).length ≤ acc.length + 1 := by
  induction acc with
  | nil => simp [putB]
  | cons u r ih =>
    simp only [putB]
    split
    · simp
    · simp; omega
theorem cntOf_snoc (p : List Bt) (t : Bt) : cntOf (p ++ [t]) = putB (cntOf p) t := by unfold cntOf; simp
theorem fold_mem {acc fs : List Bt} {x : Bt} (h : x ∈ fs.foldl putB acc) : x ∈ acc ∨ x ∈ fs := by
  induction fs generalizing acc with
  | nil => exact .inl h
  | cons t fs ih =>
    rcases ih h with h | h
    · rcases putB_mem h with h | h
      · exact .inl h
      · exact .inr (by rw [h]; exact List.mem_cons_self ..)
    · exact .inr (List.mem_cons_of_mem _ h)
theorem cntOf_mem {fs : List Bt} {x : Bt} (h : x ∈ cntOf fs) : x ∈ fs := by
  rcases fold_mem h with h | h
  · cases h
  · exact h
theorem fold_nodup {acc fs : List Bt} (h : (acc.map Bt.key).Nodup) : ((fs.foldl putB acc).map Bt.key).Nodup := by
  induction fs generalizing acc with
  | nil => exact h
  | cons t fs ih => exact ih (putB_nodup h)
theorem cntOf_nodup (fs : List Bt) : ((cntOf fs).map Bt.key).Nodup := fold_nodup List.nodup_nil
theorem fold_len (acc fs : List Bt) : (fs.foldl putB acc).length ≤ acc.length + fs.length := by
  induction fs generalizing acc with
  | nil => simp
  | cons t fs ih =>
    have := ih (putB acc t)
    have := putB_len acc t
    simp only [List.foldl_cons, List.length_cons]
    omega
theorem cntOf_len (fs : List Bt) : (cntOf fs).length ≤ fs.length := by
  have := fold_len [] fs
  unfold cntOf
  simpa using this
theorem put_kv (acc : List Bt) (t : Bt) : (∃ u ∈ acc, u.key = t.key ∧ dget (kvOf acc) t.key = some u.v ∧ dput (kvOf acc) t.key (gt2 u t).v = kvOf (putB acc t)) ∨ (dget (kvOf acc) t.key = none ∧ dput (kvOf acc) t.key t.v = kvOf (putB acc t)) := by
  induction acc with
  | nil => exact .inr ⟨rfl, rfl⟩
  | cons u r ih =>
    by_cases e : u.key = t.key
    · refine .inl ⟨u, List.mem_cons_self .., e, ?_, ?_⟩
      · simp only [kvOf, List.map_cons, dget, if_pos e]
      · simp only [kvOf, List.map_cons, dput, if_pos e, putB]
        rw [gt2_key e, e]
    · have e1 : dget (kvOf (u :: r)) t.key = dget (kvOf r) t.key := by simp only [kvOf, List.map_cons, dget, if_neg e]
      have e2 : ∀ v, dput (kvOf (u :: r)) t.key v = (u.key, u.v) :: dput (kvOf r) t.key v := fun v => by simp only [kvOf, List.map_cons, dput, if_neg e]
      have e3 : kvOf (putB (u :: r) t) = (u.key, u.v) :: kvOf (putB r t) := by simp only [putB, if_neg e, kvOf, List.map_cons]
      rcases ih with ⟨x, hx, h1, h2, h3⟩ | ⟨h1, h2⟩
      · exact .inl ⟨x, List.mem_cons_of_mem _ hx, h1, by rw [e1]; exact h2, by rw [e2, e3, h3]⟩
      · exact .inr ⟨by rw [e1]; exact h1, by rw [e2, e3, h2]⟩
theorem max2 {S : List Int} {M : Mem} {u t : Bt} (hu : pur 5 u.v = true) (ht : pur 5 t.v = true) (h1 : W.alike (dat u.v) (dat t.v) = true) (h2 : W.alike (dat t.v) (dat u.v) = true) : biW (Gp S) .max [u.v, t.v] M = .ok (gt2 u t).v M := by
  have e1 := toD_pur (S := (Gp S).S) (M := M) (m := deepD) hu (by decide)
  have e2 := toD_pur (S := (Gp S).S) (M := M) (m := deepD) ht (by decide)
  have n1 : noneB (dat u.v) = false := by simp only [Bt.v, dat, noneB]
  have n2 : noneB (dat t.v) = false := by simp only [Bt.v, dat, noneB]
  have d1 : dcap (dat u.v) = true := decide_eq_true (Nat.le_trans (dat_depth hu) (by decide))
  have d2 : dcap (dat t.v) = true := decide_eq_true (Nat.le_trans (dat_depth ht) (by decide))
  have eb : biW (Gp S) .max [u.v, t.v] M = .ofO ((mapO (toD (Gp S).S M deepD) [u.v, t.v]).bind (bestOf true)) M := rfl
  rw [eb]
  simp only [mapO, e1, e2, Option.bind_some, bestOf, alikeAllB, List.all_cons, List.all_nil, alike_dat hu, alike_dat ht, h1, h2, n1, n2, d1, d2, Bool.and_self, Bool.not_false, if_true]
  unfold W.maxD gt2
  simp only [List.foldl_cons, List.foldl_nil]
  split
  · rw [ofD_dat ht]; rfl
  · rw [ofD_dat hu]; rfl
def Alk (fs : List Bt) : Prop := ∀ u ∈ fs, ∀ t ∈ fs, u.key = t.key → W.alike (dat u.v) (dat t.v) = true
theorem found_for (S : List Int) (k y fd : Nat) (fs : List Bt) (a b c e f g : Option Wv) (M0 : Mem) (hy : M0[y]? = some (.lst (fs.map Bt.v))) (hne : y ≠ fd) (hfd : fd < M0.length) (hok : ∀ t ∈ fs, t.ok) (hal : Alk fs) (hl : fs.length ≤ 300) {C1 : Nat → List Wv → Mem → Out Wv} :
    (forGo (.nm 3) (evSl (Gp S) (callN (Gp S) fuel (k + 1)) C1 fuel (.cons (.asg (.nm 4) (.tup (.cons (.call ix_thing_of (.cons (.var 3) .nil) []) (.cons (.sub (.var 3) (.con (.int 1))) .nil))))
      (.cons (.asgS (.var 2) (.var 4) (.bi .max (.cons (.bm .get (.var 2) (.cons (.var 4) (.cons (.var 3) .nil))) (.cons (.var 3) .nil)))) .nil))) [(y, .lst (fs.map Bt.v))] (fs.map Bt.v) [a, b, some (.ref fd), c, e, f, g] (M0.set fd (.dct false []))).sat
      fun q M' => ∃ c' e', q = (.nx, [a, b, some (.ref fd), c', e', f, g]) ∧ M' = M0.set fd (.dct false (kvOf (cntOf fs))) := by
  have hz : 1001 ≤ sizeLine := by decide
  refine for_rule (fun pre post σ M' => ∃ p q : List Bt, fs = p ++ q ∧ post = q.map Bt.v ∧ ∃ c' e', σ = [a, b, some (.ref fd), c', e', f, g] ∧ M' = M0.set fd (.dct false (kvOf (cntOf p)))) ?_ ?_ (fs.map Bt.v) [] _ _ ⟨[], fs, rfl, rfl, c, e, rfl, rfl⟩
  · rintro pre x post σ M' ⟨p, q, hfs, hq, c', e', rfl, rfl⟩
    match q, hq with
    | t :: q, hq =>
    simp only [List.map_cons, List.cons.injEq] at hq
    obtain ⟨rfl, rfl⟩ := hq
    have ht : t ∈ fs := by rw [hfs]; simp
    have ok := hok t ht
    have hM : (M0.set fd (.dct false (kvOf (cntOf p))))[fd]? = some (.dct false (kvOf (cntOf p))) := by rw [List.getElem?_set_self hfd]
    have hlp : p.length ≤ 300 := by rw [hfs] at hl; simp at hl; omega
    have hlc : (kvOf (cntOf p)).length ≤ 300 := by
      have := cntOf_len p
      unfold kvOf
      rw [List.length_map]; omega
    have hmp : ∀ u ∈ cntOf p, u ∈ fs := fun u hu => by rw [hfs]; exact List.mem_append_left _ (cntOf_mem hu)
    have hkp : ∀ r ∈ kvOf (cntOf p), keyT r.1 = true := by
      intro r hr
      unfold kvOf at hr
      obtain ⟨u, hu, rfl⟩ := List.mem_map.mp hr
      exact (hok u (hmp u hu)).kk
    refine ⟨stays_lst (by rw [List.getElem?_set_ne (Ne.symm hne)]; exact hy), _, rfl, ?_⟩
    have e1 := thing_of_ok S k t (M0.set fd (.dct false (kvOf (cntOf p)))) ok
    have hkey : Wv.tup [t.thing, .int t.d] = t.key := rfl
    simp only [q_nil, q_cons, k_nx, k_ret, k_brk, k_ct, q_asg, q_asgA, q_asgS, q_aug, q_ex, q_ret, q_retN, q_pass, q_brk, q_cont, q_ifs, q_for, q_whl, b_t, b_f, be_t, be_f, ba_t, ba_f, bo_t, bo_f, t_bl, t_int, t_non,     q_var, q_con, q_glb, q_tup, q_lst, q_dict0, q_bin, q_neg, q_not, q_and, q_or, q_ife, q_cmp, q_cmp2, q_attr, q_sub, q_srev, q_call, q_callk, q_meth, q_bm, q_new, q_bi, q_isi, q_lc, q_lc2, q_dc, q_sortk, q_sortv, q_sortvM, q_maxk, q_sortm, q_dict2, q_anil, q_acons, q_ival, q_items, q_vals, q_rng, q_zip, q_cntT, q_tab, q_tnin, q_zipT,     o_add, o_sub, o_mul, o_fdiv, o_mod, o_pow18, o_addT, ag_add, ag_sub, c_lt, c_gt, c_le, c_ge, c_eq, c_ne, c_is, c_isn, c_in, c_nin, u_tup, u_scr, n_scr, n_tup, n_str, n_abs, n_min2, n_min3, n_max2, tg_nm, tg_2, tg_3, at_0, at_1, at_2, at_3, at_4, i_int, sat_some, getV_0, getV_s,     List.set_cons_zero, List.set_cons_succ, List.map_cons, List.map_nil, List.replicate_succ, List.replicate_zero, List.cons_append, List.nil_append, List.length_cons, List.length_nil, e1, sat_ok]
    have hv : t.v = .tup (.str t.w :: .int t.d :: t.xs) := rfl
    have hsub : ∀ N : Mem, subW (Gp S) t.v (.int 1) N = .ok (.int t.d) N := fun N => rfl
    refine sat_of (hsub _) ?_
    simp only [q_nil, q_cons, k_nx, k_ret, k_brk, k_ct, q_asg, q_asgA, q_asgS, q_aug, q_ex, q_ret, q_retN, q_pass, q_brk, q_cont, q_ifs, q_for, q_whl, b_t, b_f, be_t, be_f, ba_t, ba_f, bo_t, bo_f, t_bl, t_int, t_non,     q_var, q_con, q_glb, q_tup, q_lst, q_dict0, q_bin, q_neg, q_not, q_and, q_or, q_ife, q_cmp, q_cmp2, q_attr, q_sub, q_srev, q_call, q_callk, q_meth, q_bm, q_new, q_bi, q_isi, q_lc, q_lc2, q_dc, q_sortk, q_sortv, q_sortvM, q_maxk, q_sortm, q_dict2, q_anil, q_acons, q_ival, q_items, q_vals, q_rng, q_zip, q_cntT, q_tab, q_tnin, q_zipT,     o_add, o_sub, o_mul, o_fdiv, o_mod, o_pow18, o_addT, ag_add, ag_sub, c_lt, c_gt, c_le, c_ge, c_eq, c_ne, c_is, c_isn, c_in, c_nin, u_tup, u_scr, n_scr, n_tup, n_str, n_abs, n_min2, n_min3, n_max2, tg_nm, tg_2, tg_3, at_0, at_1, at_2, at_3, at_4, i_int, sat_some, getV_0, getV_s,     List.set_cons_zero, List.set_cons_succ, List.map_cons, List.map_nil, List.replicate_succ, List.replicate_zero, List.cons_append, List.nil_append, List.length_cons, List.length_nil, hkey]
    refine ⟨len_ok (by decide), bmT_get hM, sat_of (bm_get2 hM (keyOk_T ok.kk hkp)) ?_⟩
    have fin : ∀ z : Wv, dput (kvOf (cntOf p)) t.key z = kvOf (putB (cntOf p) t) → (setW (.ref fd) t.key z (M0.set fd (.dct false (kvOf (cntOf p))))).sat fun _ M => ∃ p_1 q_1, fs = p_1 ++ q_1 ∧ List.map Bt.v q = List.map Bt.v q_1 ∧ ∃ c'_1 e'_1, [a, b, some (.ref fd), some t.v, some t.key, f, g] = [a, b, some (.ref fd), c'_1, e'_1, f, g] ∧ M = M0.set fd (.dct false (kvOf (cntOf p_1))) := fun z hz' => by
      refine sat_of (set_dct hM (keyOk_T ok.kk hkp) (by omega)) ⟨p ++ [t], q, by rw [hfs]; simp, rfl, _, _, rfl, ?_⟩
      rw [List.set_set, cntOf_snoc, hz']
    rcases put_kv (cntOf p) t with ⟨u, hu, h1, h2, h3⟩ | ⟨h1, h2⟩
    · rw [h2]
      have a1 := hal u (hmp u hu) t ht h1
      have a2 := hal t ht u (hmp u hu) h1.symm
      refine sat_of (max2 (hok u (hmp u hu)).pv ok.pv a1 a2) (fin _ h3)
    · rw [h1]
      refine sat_of (max2 ok.pv ok.pv (alike_dat ok.pv) (alike_dat ok.pv)) ?_
      have : gt2 t t = t := by
        rcases gt2_mem t t with e | e <;> exact e
      rw [this]
      exact fin _ h2
  · rintro pre σ M' ⟨p, q, hfs, hq, c', e', rfl, rfl⟩
    have : q = [] := by
      cases q with
      | nil => rfl
      | cons _ _ => cases hq
    subst this
    rw [List.append_nil] at hfs
    subst hfs
    exact ⟨stays_lst (by rw [List.getElem?_set_ne (Ne.symm hne)]; exact hy), c', e', rfl, rfl⟩
end Bh
end
section
set_option Elab.async false
set_option linter.all false
set_option maxRecDepth 100000
set_option maxHeartbeats 0
namespace Bh
open PySem MP
inductive Rws (M : Mem) (r : Nat) : List (Wv × Wv) → List (Wv × List Wv) → Prop
  | nil : Rws M r [] []
  | cons {k : Wv} {x : Nat} {ws : List Wv} {kvs : List (Wv × Wv)} {R : List (Wv × List Wv)} (h : M[x]? = some (.lst ws)) (hx : r < x) (t : Rws M r kvs R) : Rws M r ((k, .ref x) :: kvs) ((k, ws) :: R)
def addRow : List (Wv × List Wv) → Wv → Wv → List (Wv × List Wv)
  | [], k, v => [(k, [v])]
  | p :: R, k, v => if p.1 = k then (p.1, p.2 ++ [v]) :: R else p :: addRow R k v
def lookR : List (Wv × List Wv) → Wv → List Wv
  | [], _ => []
  | p :: R, k => if p.1 = k then p.2 else lookR R k
def rowsOf (sk : List Bt) : List (Wv × List Wv) := sk.foldl (fun R t => addRow R t.thing t.v) []
theorem Rws.mono {M M' : Mem} {r : Nat} {kvs : List (Wv × Wv)} {R : List (Wv × List Wv)} (h : Rws M r kvs R) (m : ∀ x ws, x ≠ r → M[x]? = some (.lst ws) → M'[x]? = some (.lst ws)) : Rws M' r kvs R := by
  induction h with
  | nil => exact .nil
  | cons h hx t ih => exact .cons (m _ _ (Nat.ne_of_gt hx) h) hx ih
theorem Rws.look {M : Mem} {r : Nat} {kvs : List (Wv × Wv)} {R : List (Wv × List Wv)} (h : Rws M r kvs R) (k : Wv) (em : Nat) (he : M[em]? = some (.lst [])) : ∃ x, (dget kvs k).getD (.ref em) = .ref x ∧ M[x]? = some (.lst (lookR R k)) := by
  induction h with
  | nil => exact ⟨em, rfl, he⟩
  | @cons k' x ws kvs R h hx t ih =>
    simp only [dget, lookR]
    by_cases e : k' = k
    · rw [if_pos e, if_pos e]; exact ⟨x, rfl, h⟩
    · rw [if_neg e, if_neg e]; exact ih
theorem Rws.put {M : Mem} {r : Nat} {kvs : List (Wv × Wv)} {R : List (Wv × List Wv)} (h : Rws M r kvs R) (k v : Wv) (z : Nat) (hz : M[z]? = some (.lst (lookR R k ++ [v]))) (hzr : r < z) : Rws M r (dput kvs k (.ref z)) (addRow R k v) := by
  induction h with
  | nil => exact .cons hz hzr .nil
  | @cons k' x ws kvs R h hx t ih =>
    simp only [dput, addRow]
    simp only [lookR] at hz
    by_cases e : k' = k
    · rw [if_pos e, if_pos e]
      rw [if_pos e] at hz
      exact .cons hz hzr t
    · rw [if_neg e, if_neg e]
      rw [if_neg e] at hz
      exact .cons h hx (ih hz)
theorem Rws.keys {M : Mem} {r : Nat} {kvs : List (Wv × Wv)} {R : List (Wv × List Wv)} (h : Rws M r kvs R) : kvs.map (·.1) = R.map (·.1) := by
  induction h with
  | nil => rfl
  | cons h hx t ih => simp [ih]
theorem addRow_keys {R : List (Wv × List Wv)} {k v : Wv} : ∀ p ∈ addRow R k v, p.1 = k ∨ ∃ q ∈ R, q.1 = p.1 := by
  induction R with
  | nil => intro p hp; simp [addRow] at hp; exact .inl (by rw [hp])
  | cons q R ih =>
    intro p hp
    simp only [addRow] at hp
    by_cases e : q.1 = k
    · rw [if_pos e] at hp
      rcases List.mem_cons.mp hp with h | h
      · exact .inl (by rw [h]; exact e)
      · exact .inr ⟨p, List.mem_cons_of_mem _ h, rfl⟩
    · rw [if_neg e] at hp
      rcases List.mem_cons.mp hp with h | h
      · exact .inr ⟨q, List.mem_cons_self .., by rw [h]⟩
      · rcases ih p h with h | ⟨u, hu, e⟩
        · exact .inl h
        · exact .inr ⟨u, List.mem_cons_of_mem _ hu, e⟩
theorem addRow_len (R : List (Wv × List Wv)) (k v : Wv) : (addRow R k v).length ≤ R.length + 1 := by
  induction R with
  | nil => simp [addRow]
  | cons q R ih =>
    simp only [addRow]
    split
    · simp
    · simp; omega
theorem lookR_len {R : List (Wv × List Wv)} {k : Wv} {n : Nat} (h : ∀ p ∈ R, p.2.length ≤ n) : (lookR R k).length ≤ n := by
  induction R with
  | nil => simp [lookR]
  | cons q R ih =>
    simp only [lookR]
    split
    · exact h q (List.mem_cons_self ..)
    · exact ih fun p hp => h p (List.mem_cons_of_mem _ hp)
theorem addRow_each {R : List (Wv × List Wv)} {k v : Wv} {n : Nat} (h : ∀ p ∈ R, p.2.length ≤ n) : ∀ p ∈ addRow R k v, p.2.length ≤ n + 1 := by
  induction R with
  | nil => intro p hp; simp [addRow] at hp; rw [hp]; simp
  | cons q R ih =>
    intro p hp
    have hq := h q (List.mem_cons_self ..)
    simp only [addRow] at hp
    by_cases e : q.1 = k
    · rw [if_pos e] at hp
      rcases List.mem_cons.mp hp with h' | h'
      · rw [h']; simp; omega
      · have := h p (List.mem_cons_of_mem _ h'); omega
    · rw [if_neg e] at hp
      rcases List.mem_cons.mp hp with h' | h'
      · rw [h']; omega
      · exact ih (fun p hp => h p (List.mem_cons_of_mem _ hp)) p h'
theorem dget_kv {fs : List Bt} {t : Bt} (h : t ∈ fs) (hnd : (fs.map Bt.key).Nodup) : dget (kvOf fs) t.key = some t.v := by
  induction fs with
  | nil => cases h
  | cons u fs ih =>
    simp only [kvOf, List.map_cons, dget]
    by_cases e : u.key = t.key
    · rw [if_pos e]
      rcases List.mem_cons.mp h with h | h
      · rw [h]
      · rw [List.map_cons, List.nodup_cons] at hnd
        exact absurd (List.mem_map.mpr ⟨t, h, e.symm⟩) hnd.1
    · rw [if_neg e]
      rcases List.mem_cons.mp h with h | h
      · exact absurd (by rw [h]) e
      · rw [List.map_cons, List.nodup_cons] at hnd
        exact ih h hnd.2
theorem rows_for (S : List Int) (s fd r yl : Nat) (fs sk : List Bt) (b c e f g : Option Wv) (M0 M1 : Mem) (hp : M0 <+: M1) (hs : M1[s]? = some (.ins ci_World [("rows", .ref r)])) (hr : M1[r]? = some (.dct false [])) (hfd : M1[fd]? = some (.dct false (kvOf fs))) (hyl : M1[yl]? = some (.lst (sk.map Bt.key))) (h0 : M0.length ≤ r) (n1 : s ≠ r) (n2 : fd ≠ r)
    (hok : ∀ t ∈ fs, t.ok) (hnd : (fs.map Bt.key).Nodup) (hsk : ∀ t ∈ sk, t ∈ fs) (hl : sk.length ≤ 300) {C C1 : Nat → List Wv → Mem → Out Wv} :
    (forGo (.tup [5, 6]) (evSl (Gp S) C C1 fuel (.cons (.asgS (.attr (.var 0) "rows") (.var 5) (.bin .add (.bm .get (.attr (.var 0) "rows") (.cons (.var 5) (.cons (.lst .nil) .nil))) (.lst (.cons (.sub (.var 2) (.tup (.cons (.var 5) (.cons (.var 6) .nil)))) .nil)))) .nil)) [(yl, .lst (sk.map Bt.key))] (sk.map Bt.key) [some (.ref s), b, some (.ref fd), c, e, f, g] M1).sat
      fun q M' => ∃ f' g', q = (.nx, [some (.ref s), b, some (.ref fd), c, e, f', g']) ∧ M0 <+: M' ∧ M'[s]? = some (.ins ci_World [("rows", .ref r)]) ∧ s < M'.length ∧ ∃ kvs, M'[r]? = some (.dct false kvs) ∧ Rws M' r kvs (rowsOf sk) := by
  have hz : 1001 ≤ sizeLine := by decide
  refine for_rule (fun pre post σ M' => ∃ p q : List Bt, sk = p ++ q ∧ post = q.map Bt.key ∧ (∃ f' g', σ = [some (.ref s), b, some (.ref fd), c, e, f', g']) ∧ M0 <+: M' ∧ (∀ x o, x ≠ r → M1[x]? = some o → M'[x]? = some o) ∧ ∃ kvs, M'[r]? = some (.dct false kvs) ∧ Rws M' r kvs (rowsOf p) ∧ (∀ z ∈ rowsOf p, keyT z.1 = true ∧ z.2.length ≤ p.length) ∧ (rowsOf p).length ≤ p.length) ?_ ?_ (sk.map Bt.key) [] _ _
    ⟨[], sk, rfl, rfl, ⟨f, g, rfl⟩, hp, fun x o _ h => h, [], hr, .nil, (fun z hz => by cases hz), Nat.le_refl _⟩
  · rintro pre x post σ M' ⟨p, q, hsk', hq, ⟨f', g', rfl⟩, pm, hfr, kvs, hkv, hR, hb, hbl⟩
    match q, hq with
    | t :: q, hq =>
    simp only [List.map_cons, List.cons.injEq] at hq
    obtain ⟨rfl, rfl⟩ := hq
    have ht : t ∈ fs := hsk t (by rw [hsk']; simp)
    have ok := hok t ht
    have hlp : p.length < 300 := by rw [hsk'] at hl; simp at hl; omega
    have hsM := hfr s _ n1 hs
    have hfM := hfr fd _ n2 hfd
    have hrl : r < M'.length := (List.getElem?_eq_some_iff.mp hkv).1
    have hsl : s < M'.length := (List.getElem?_eq_some_iff.mp hsM).1
    have hfl : fd < M'.length := (List.getElem?_eq_some_iff.mp hfM).1
    have nyl : yl ≠ r := fun e => by rw [e, hr] at hyl; cases hyl
    refine ⟨stays_lst (hfr yl _ nyl hyl), [some (.ref s), b, some (.ref fd), c, e, some t.thing, some (.int t.d)], rfl, ?_⟩
    have at1 : ∀ (N : Mem), N[s]? = some (.ins ci_World [("rows", .ref r)]) → attrW (Gp S) (.ref s) "rows" N = .ok (.ref r) N := fun N h => by
      simp only [attrW, h, cls_World, Option.isSome_some, Out.chk]
      rfl
    have hkk : ∀ z ∈ kvs, keyT z.1 = true := fun z hz => by
      have : z.1 ∈ (rowsOf p).map (·.1) := by rw [← hR.keys]; exact List.mem_map.mpr ⟨z, hz, rfl⟩
      obtain ⟨u, hu, e⟩ := List.mem_map.mp this
      rw [← e]; exact (hb u hu).1
    simp only [q_nil, q_cons, k_nx, k_ret, k_brk, k_ct, q_asg, q_asgA, q_asgS, q_aug, q_ex, q_ret, q_retN, q_pass, q_brk, q_cont, q_ifs, q_for, q_whl, b_t, b_f, be_t, be_f, ba_t, ba_f, bo_t, bo_f, t_bl, t_int, t_non,     q_var, q_con, q_glb, q_tup, q_lst, q_dict0, q_bin, q_neg, q_not, q_and, q_or, q_ife, q_cmp, q_cmp2, q_attr, q_sub, q_srev, q_call, q_callk, q_meth, q_bm, q_new, q_bi, q_isi, q_lc, q_lc2, q_dc, q_sortk, q_sortv, q_sortvM, q_maxk, q_sortm, q_dict2, q_anil, q_acons, q_ival, q_items, q_vals, q_rng, q_zip, q_cntT, q_tab, q_tnin, q_zipT,     o_add, o_sub, o_mul, o_fdiv, o_mod, o_pow18, o_addT, ag_add, ag_sub, c_lt, c_gt, c_le, c_ge, c_eq, c_ne, c_is, c_isn, c_in, c_nin, u_tup, u_scr, n_scr, n_tup, n_str, n_abs, n_min2, n_min3, n_max2, tg_nm, tg_2, tg_3, at_0, at_1, at_2, at_3, at_4, i_int, sat_some, getV_0, getV_s,     List.set_cons_zero, List.set_cons_succ, List.map_cons, List.map_nil, List.replicate_succ, List.replicate_zero, List.cons_append, List.nil_append, List.length_cons, List.length_nil]
    refine sat_of (at1 _ hsM) ?_
    refine ⟨bmT_get hkv, len_ok (by decide), ?_⟩
    have hkv1 : (M' ++ [Ob.lst []])[r]? = some (.dct false kvs) := by rw [List.getElem?_append_left hrl]; exact hkv
    refine sat_of (bm_get2 hkv1 (keyOk_T ok.kt hkk)) ?_
    have hR1 : Rws (M' ++ [Ob.lst []]) r kvs (rowsOf p) := hR.mono fun x o _ h => by rw [List.getElem?_append_left (List.getElem?_eq_some_iff.mp h).1]; exact h
    obtain ⟨x, ex, hx⟩ := hR1.look t.thing M'.length (at_new ..)
    rw [ex]
    have hkey : Wv.tup [t.thing, .int t.d] = t.key := rfl
    have hf1 : (M' ++ [Ob.lst []])[fd]? = some (.dct false (kvOf fs)) := by rw [List.getElem?_append_left hfl]; exact hfM
    simp only [hkey]
    refine ⟨len_ok (by decide), ?_⟩
    refine sat_of (sub_dct hf1 (keyOk_T ok.kk fun z hz => by
      unfold kvOf at hz
      obtain ⟨u, hu, rfl⟩ := List.mem_map.mp hz
      exact (hok u hu).kk) (dget_kv ht hnd)) ?_
    refine ⟨len_ok (by decide), ?_⟩
    have hlk := lookR_len (k := t.thing) fun z hz => (hb z hz).2
    refine o_addL x _ (lookR (rowsOf p) t.thing) [t.v] (by rw [List.getElem?_append_left (List.getElem?_eq_some_iff.mp hx).1]; exact hx) (at_new ..) (len_ok (by simp; omega)) ?_
    generalize hN : M' ++ [Ob.lst []] ++ [Ob.lst [t.v]] = N
    have pN : M' <+: N := by rw [← hN, List.append_assoc]; exact List.prefix_append _ _
    have pN2 : M' <+: N ++ [Ob.lst (lookR (rowsOf p) t.thing ++ [t.v])] := pre_snoc pN _
    have hNl : M'.length ≤ N.length := pre_len pN
    refine sat_of (at1 _ (pre_get pN2 hsM)) ?_
    have hkl : kvs.length ≤ p.length := by
      have := congrArg List.length hR.keys
      simp only [List.length_map] at this
      omega
    refine sat_of (set_dct (pre_get pN2 hkv) (keyOk_T ok.kt hkk) (by omega)) ?_
    have er : rowsOf (p ++ [t]) = addRow (rowsOf p) t.thing t.v := by unfold rowsOf; simp
    refine ⟨p ++ [t], q, by rw [hsk']; simp, rfl, ⟨_, _, rfl⟩, pre_set (pm.trans pN2) h0, fun y o ny hy => ?_, dput kvs t.thing (.ref N.length), ?_, ?_, ?_, ?_⟩
    · rw [List.getElem?_set_ne (Ne.symm ny)]
      exact pre_get pN2 (hfr y o ny hy)
    · rw [List.getElem?_set_self (by simp; omega)]
    · rw [er]
      refine Rws.mono ((hR.mono fun y o _ h => pre_get pN2 h).put t.thing t.v N.length (at_new ..) (by omega)) fun y o ny hy => ?_
      rw [List.getElem?_set_ne (Ne.symm ny)]
      exact hy
    · rw [er]
      intro z hz
      refine ⟨?_, ?_⟩
      · rcases addRow_keys z hz with h | ⟨u, hu, e⟩
        · rw [h]; exact ok.kt
        · rw [← e]; exact (hb u hu).1
      · have := addRow_each (fun z hz => (hb z hz).2) z hz
        simpa using this
    · rw [er]
      have := addRow_len (rowsOf p) t.thing t.v
      simp; omega
  · rintro pre σ M' ⟨p, q, hsk', hq, ⟨f', g', rfl⟩, pm, hfr, kvs, hkv, hR, hb, hbl⟩
    have : q = [] := by
      cases q with
      | nil => rfl
      | cons _ _ => cases hq
    subst this
    rw [List.append_nil] at hsk'
    subst hsk'
    have nyl : yl ≠ r := fun e => by rw [e, hr] at hyl; cases hyl
    have hsM := hfr s _ n1 hs
    exact ⟨stays_lst (hfr yl _ nyl hyl), f', g', rfl, pm, hsM, (List.getElem?_eq_some_iff.mp hsM).1, kvs, hkv, hR⟩
end Bh
end
section
set_option Elab.async false
set_option linter.all false
set_option maxRecDepth 100000
set_option maxHeartbeats 0
namespace Bh
open PySem MP
def WAt (M : Mem) (s : Nat) (R : List (Wv × List Wv)) : Prop := ∃ r q kvs, M[s]? = some (.ins ci_World [("rows", .ref r), ("kept", .ref q)]) ∧ M[r]? = some (.dct false kvs) ∧ Rws M r kvs R
theorem WAt.mono {M M' : Mem} {s : Nat} {R : List (Wv × List Wv)} (h : WAt M s R) (p : M <+: M') : WAt M' s R := by
  obtain ⟨r, q, kvs, h1, h2, h3⟩ := h
  exact ⟨r, q, kvs, pre_get p h1, pre_get p h2, h3.mono fun x o _ h => pre_get p h⟩
theorem world_new (S : List Int) (k l : Nat) (ts : List Wv) (kn : List Tr) (fs sk : List Bt) (M : Mem) (hM : M[l]? = some (.lst ts)) (hts : ∀ t ∈ ts, keyT t = true) (hlen : ts.length ≤ 300) (hk : keysOf ts = kn.map Tr.w) (K : Kn kn)
    (hf : (forceOf kn).map Tr.w = fs.map Bt.v) (hok : ∀ t ∈ fs, t.ok) (hal : Alk fs) (hfl : fs.length ≤ 300) (hsort : sortBy (((cntOf fs).map Bt.key).map dat) ((cntOf fs).map Bt.key) = some (sk.map Bt.key)) (hsk : ∀ t ∈ sk, t ∈ cntOf fs) (hsl : sk.length ≤ 300) :
    (newW (Gp S) (callN (Gp S) fuel (k + 3)) ci_World [.ref l] M).sat fun v M' => M <+: M' ∧ ∃ s, v = .ref s ∧ WAt M' s (rowsOf sk) := by
  have hz : 1001 ≤ sizeLine := by decide
  rw [new_World, sat_bind]
  generalize hsn : M.length = s
  generalize hMi : M ++ [Ob.ins ci_World []] = Mi
  have pi : M <+: Mi := by rw [← hMi]; exact List.prefix_append _ _
  have hsi : Mi[s]? = some (.ins ci_World []) := by rw [← hMi, ← hsn]; exact at_new ..
  have hli : Mi.length = s + 1 := by rw [← hMi, ← hsn]; simp
  have hll : l < s := by rw [← hsn]; exact (List.getElem?_eq_some_iff.mp hM).1
  rw [at_World___init__]
  refine run_sat rfl ?_
  show (evSl (Gp S) _ _ fuel sl_World___init__ [some (.ref s), some (.ref l), none, none, none, none, none] Mi).sat _
  unfold sl_World___init__
  simp only [q_nil, q_cons, k_nx, k_ret, k_brk, k_ct, q_asg, q_asgA, q_asgS, q_aug, q_ex, q_ret, q_retN, q_pass, q_brk, q_cont, q_ifs, q_for, q_whl, b_t, b_f, be_t, be_f, ba_t, ba_f, bo_t, bo_f, t_bl, t_int, t_non,     q_var, q_con, q_glb, q_tup, q_lst, q_dict0, q_bin, q_neg, q_not, q_and, q_or, q_ife, q_cmp, q_cmp2, q_attr, q_sub, q_srev, q_call, q_callk, q_meth, q_bm, q_new, q_bi, q_isi, q_lc, q_lc2, q_dc, q_sortk, q_sortv, q_sortvM, q_maxk, q_sortm, q_dict2, q_anil, q_acons, q_ival, q_items, q_vals, q_rng, q_zip, q_cntT, q_tab, q_tnin, q_zipT,     o_add, o_sub, o_mul, o_fdiv, o_mod, o_pow18, o_addT, ag_add, ag_sub, c_lt, c_gt, c_le, c_ge, c_eq, c_ne, c_is, c_isn, c_in, c_nin, u_tup, u_scr, n_scr, n_tup, n_str, n_abs, n_min2, n_min3, n_max2, tg_nm, tg_2, tg_3, at_0, at_1, at_2, at_3, at_4, i_int, sat_some, getV_0, getV_s,     List.set_cons_zero, List.set_cons_succ, List.map_cons, List.map_nil, List.replicate_succ, List.replicate_zero, List.cons_append, List.nil_append, List.length_cons, List.length_nil]
  generalize hM2 : Mi ++ [Ob.dct false []] = M2
  have p2 : Mi <+: M2 := by rw [← hM2]; exact List.prefix_append _ _
  have hfd2 : M2[s + 1]? = some (.dct false []) := by rw [← hM2, ← hli]; exact at_new ..
  have hl2 : M2.length = s + 2 := by rw [← hM2]; simp; omega
  refine sat_mono (in_force_ok S k l ts kn M2 (pre_get (pi.trans p2) hM) hts hlen hk K) fun v M3 ⟨p3, y, hv, hy0, hy⟩ => ?_
  subst hv
  simp only [walk_lst hy, sat_some, lock_lst, unlk_lst]
  rw [hli]
  have hfd3 : M3[s + 1]? = some (.dct false []) := pre_get p3 hfd2
  have e3 : M3 = M3.set (s + 1) (.dct false []) := (set_self hfd3).symm
  rw [hf] at hy ⊢
  rw [e3]
  have hl3 := pre_len p3
  refine sat_mono (found_for S (k + 1) y (s + 1) fs _ _ _ _ _ _ M3 hy (by omega) (by omega) hok hal hfl) fun q M4 ⟨c', e', eq, e4⟩ => ?_
  subst eq e4
  generalize hM4 : M3.set (s + 1) (.dct false (kvOf (cntOf fs))) = M4
  have hl4 : M4.length = M3.length := by rw [← hM4]; simp
  have p4 : Mi <+: M4 := by rw [← hM4]; exact pre_set (p2.trans p3) (by omega)
  have hfd4 : M4[s + 1]? = some (.dct false (kvOf (cntOf fs))) := by rw [← hM4, List.getElem?_set_self (by omega)]
  have hs4 : M4[s]? = some (.ins ci_World []) := pre_get p4 hsi
  simp only [q_nil, q_cons, k_nx, k_ret, k_brk, k_ct, q_asg, q_asgA, q_asgS, q_aug, q_ex, q_ret, q_retN, q_pass, q_brk, q_cont, q_ifs, q_for, q_whl, b_t, b_f, be_t, be_f, ba_t, ba_f, bo_t, bo_f, t_bl, t_int, t_non,     q_var, q_con, q_glb, q_tup, q_lst, q_dict0, q_bin, q_neg, q_not, q_and, q_or, q_ife, q_cmp, q_cmp2, q_attr, q_sub, q_srev, q_call, q_callk, q_meth, q_bm, q_new, q_bi, q_isi, q_lc, q_lc2, q_dc, q_sortk, q_sortv, q_sortvM, q_maxk, q_sortm, q_dict2, q_anil, q_acons, q_ival, q_items, q_vals, q_rng, q_zip, q_cntT, q_tab, q_tnin, q_zipT,     o_add, o_sub, o_mul, o_fdiv, o_mod, o_pow18, o_addT, ag_add, ag_sub, c_lt, c_gt, c_le, c_ge, c_eq, c_ne, c_is, c_isn, c_in, c_nin, u_tup, u_scr, n_scr, n_tup, n_str, n_abs, n_min2, n_min3, n_max2, tg_nm, tg_2, tg_3, at_0, at_1, at_2, at_3, at_4, i_int, sat_some, getV_0, getV_s,     List.set_cons_zero, List.set_cons_succ, List.map_cons, List.map_nil, List.replicate_succ, List.replicate_zero, List.cons_append, List.nil_append, List.length_cons, List.length_nil]
  have hs5 : (M4 ++ [Ob.dct false []])[s]? = some (.ins ci_World []) := by rw [List.getElem?_append_left (by omega)]; exact hs4
  have eA : setA (Gp S) (.ref s) "rows" (.ref M4.length) (M4 ++ [Ob.dct false []]) = .ok () ((M4 ++ [Ob.dct false []]).set s (.ins ci_World [("rows", .ref M4.length)])) := by
    simp only [setA, hs5, cls_World]
    rfl
  refine sat_of eA ?_
  generalize hM5 : (M4 ++ [Ob.dct false []]).set s (.ins ci_World [("rows", .ref M4.length)]) = M5
  have hl5 : M5.length = M4.length + 1 := by rw [← hM5]; simp
  have hs5 : M5[s]? = some (.ins ci_World [("rows", .ref M4.length)]) := by rw [← hM5, List.getElem?_set_self (by simp; omega)]
  have hr5 : M5[M4.length]? = some (.dct false []) := by rw [← hM5, List.getElem?_set_ne (by omega)]; exact at_new ..
  have hfd5 : M5[s + 1]? = some (.dct false (kvOf (cntOf fs))) := by rw [← hM5, List.getElem?_set_ne (by omega), List.getElem?_append_left (by omega)]; exact hfd4
  have p5 : M <+: M5 := by rw [← hM5]; exact pre_set (pre_snoc (pi.trans p4) _) (by omega)
  have eS : biW (Gp S) .sorted [.ref (s + 1)] M5 = .ok (.ref M5.length) (M5 ++ [.lst (sk.map Bt.key)]) := by
    have e1 : (kvOf (cntOf fs)).map (·.1) = (cntOf fs).map Bt.key := by unfold kvOf; simp [List.map_map, Function.comp_def]
    have e2 : mapO (toD (Gp S).S M5 deepD) ((cntOf fs).map Bt.key) = some (((cntOf fs).map Bt.key).map dat) := by
      rw [List.map_map]
      exact mapO_map fun t ht => toD_pur (hok t (cntOf_mem ht)).pk (by decide)
    simp only [biW, itemsS, itemsOf, hfd5, e1, Option.bind_some, e2, hsort, newL, List.length_map, len_ok (show sk.length ≤ sizeLine by omega), Out.chk]
  refine sat_of eS ?_
  have hyl : (M5 ++ [Ob.lst (sk.map Bt.key)])[M5.length]? = some (.lst (sk.map Bt.key)) := at_new ..
  simp only [walk_lst hyl, sat_some, lock_lst, unlk_lst]
  refine sat_mono (rows_for S s (s + 1) M4.length M5.length (cntOf fs) sk _ _ _ _ _ M (M5 ++ [Ob.lst (sk.map Bt.key)]) (pre_snoc p5 _) (by rw [List.getElem?_append_left (by omega)]; exact hs5) (by rw [List.getElem?_append_left (by omega)]; exact hr5) (by rw [List.getElem?_append_left (by omega)]; exact hfd5) hyl (by omega) (by omega) (by omega) (fun t ht => hok t (cntOf_mem ht)) (cntOf_nodup fs) hsk hsl) fun q M6 ⟨f', g', eq, p6, hs6, hsl6, kvs, hr6, hR⟩ => ?_
  subst eq
  have hrl : M4.length < M6.length := (List.getElem?_eq_some_iff.mp hr6).1
  simp only [q_nil, q_cons, k_nx, k_ret, k_brk, k_ct, q_asg, q_asgA, q_asgS, q_aug, q_ex, q_ret, q_retN, q_pass, q_brk, q_cont, q_ifs, q_for, q_whl, b_t, b_f, be_t, be_f, ba_t, ba_f, bo_t, bo_f, t_bl, t_int, t_non,     q_var, q_con, q_glb, q_tup, q_lst, q_dict0, q_bin, q_neg, q_not, q_and, q_or, q_ife, q_cmp, q_cmp2, q_attr, q_sub, q_srev, q_call, q_callk, q_meth, q_bm, q_new, q_bi, q_isi, q_lc, q_lc2, q_dc, q_sortk, q_sortv, q_sortvM, q_maxk, q_sortm, q_dict2, q_anil, q_acons, q_ival, q_items, q_vals, q_rng, q_zip, q_cntT, q_tab, q_tnin, q_zipT,     o_add, o_sub, o_mul, o_fdiv, o_mod, o_pow18, o_addT, ag_add, ag_sub, c_lt, c_gt, c_le, c_ge, c_eq, c_ne, c_is, c_isn, c_in, c_nin, u_tup, u_scr, n_scr, n_tup, n_str, n_abs, n_min2, n_min3, n_max2, tg_nm, tg_2, tg_3, at_0, at_1, at_2, at_3, at_4, i_int, sat_some, getV_0, getV_s,     List.set_cons_zero, List.set_cons_succ, List.map_cons, List.map_nil, List.replicate_succ, List.replicate_zero, List.cons_append, List.nil_append, List.length_cons, List.length_nil]
  have hs7 : (M6 ++ [Ob.dct false []])[s]? = some (.ins ci_World [("rows", .ref M4.length)]) := by rw [List.getElem?_append_left hsl6]; exact hs6
  have eA2 : setA (Gp S) (.ref s) "kept" (.ref M6.length) (M6 ++ [Ob.dct false []]) = .ok () ((M6 ++ [Ob.dct false []]).set s (.ins ci_World [("rows", .ref M4.length), ("kept", .ref M6.length)])) := by
    simp only [setA, hs7, cls_World]
    rfl
  refine sat_of eA2 ?_
  have gt : ∀ x o, x ≠ s → M6[x]? = some o → ((M6 ++ [Ob.dct false []]).set s (.ins ci_World [("rows", .ref M4.length), ("kept", .ref M6.length)]))[x]? = some o := fun x o nx h => by
    rw [List.getElem?_set_ne (Ne.symm nx), List.getElem?_append_left (List.getElem?_eq_some_iff.mp h).1]
    exact h
  simp only [sat_chk, sat_ok, decide_true, true_and]
  refine ⟨pre_set (pre_snoc p6 _) (by omega), s, rfl, M4.length, M6.length, kvs, ?_, gt _ _ (by omega) hr6, ?_⟩
  · rw [List.getElem?_set_self (by simp; omega)]
  · refine hR.mono fun x ws _ hx => gt x _ (fun e => ?_) hx
    rw [e, hs6] at hx
    cases hx
def nmW : Option Str → Wv
  | none => .non
  | some n => .str n
def nmHit : Option Str → Str → Bool
  | none, _ => true
  | some n, b => decide (b = n)
def ofHit (w : Str) (n : Option Str) : Wv → Bool
  | .tup (.str a :: .str b :: _) => decide (a = w) && nmHit n b
  | _ => false
def ofRows (w : Str) (n : Option Str) : List (Wv × List Wv) → List Wv
  | [] => []
  | p :: R => if ofHit w n p.1 = true then p.2 ++ ofRows w n R else ofRows w n R
theorem ofRows_app (w : Str) (n : Option Str) (R T : List (Wv × List Wv)) : ofRows w n (R ++ T) = ofRows w n R ++ ofRows w n T := by
  induction R with
  | nil => rfl
  | cons p R ih =>
    simp only [List.cons_append, ofRows, ih]
    split
    · rw [List.append_assoc]
    · rfl
theorem in_name {G : Pg} {M : Mem} (n : Option Str) (b : Str) : inW G (nmW n) (.tup [.non, .str b]) M = some (nmHit n b) := by
  cases n with
  | none => rfl
  | some n =>
    have : PyData.eqv (.str b) (.str n) = decide (b = n) := by
      simp only [PyData.eqv]
      by_cases h : b = n
      · subst h; simp
      · simp [h]
    show some ((PyData.eqv .none (.str n)) || ((PyData.eqv (.str b) (.str n)) || false)) = _
    rw [this]
    simp [PyData.eqv, nmHit]
def okey (t : Bt) : PyData := .tuple [.int t.d, dat t.v]
theorem of_ok (S : List Int) (k s : Nat) (R : List (Wv × List Wv)) (w : Str) (n : Option Str) (ts us : List Bt) (M : Mem) (hW : WAt M s R) (hR : ∀ p ∈ R, ∃ a b rest, p.1 = .tup (.str a :: .str b :: rest) ∧ SeqAt.shaped (.str a) = true) (hw : SeqAt.shaped (.str w) = true) (hts : ofRows w n R = ts.map Bt.v) (hok : ∀ t ∈ ts, pur 5 t.v = true) (hlen : ts.length ≤ 1000) (hs : sortBy (ts.map okey) (ts.map Bt.v) = some (us.map Bt.v)) (hul : us.length ≤ 1000) :
    (callN (Gp S) fuel (k + 1) ix_World_of [.ref s, .str w, nmW n] M).sat fun v M' => M <+: M' ∧ ∃ y, v = .ref y ∧ M.length ≤ y ∧ M'[y]? = some (.lst (us.map Bt.v)) := by
  have hz : 1001 ≤ sizeLine := by decide
  obtain ⟨r, q, kvs, hs0, hr0, hRw⟩ := hW
  rw [at_World_of]
  refine run_sat rfl ?_
  show (evSl (Gp S) _ _ fuel sl_World_of [some (.ref s), some (.str w), some (nmW n), none, none, none] M).sat _
  unfold sl_World_of
  simp only [q_nil, q_cons, k_nx, k_ret, k_brk, k_ct, q_asg, q_asgA, q_asgS, q_aug, q_ex, q_ret, q_retN, q_pass, q_brk, q_cont, q_ifs, q_for, q_whl, b_t, b_f, be_t, be_f, ba_t, ba_f, bo_t, bo_f, t_bl, t_int, t_non,     q_var, q_con, q_glb, q_tup, q_lst, q_dict0, q_bin, q_neg, q_not, q_and, q_or, q_ife, q_cmp, q_cmp2, q_attr, q_sub, q_srev, q_call, q_callk, q_meth, q_bm, q_new, q_bi, q_isi, q_lc, q_lc2, q_dc, q_sortk, q_sortv, q_sortvM, q_maxk, q_sortm, q_dict2, q_anil, q_acons, q_ival, q_items, q_vals, q_rng, q_zip, q_cntT, q_tab, q_tnin, q_zipT,     o_add, o_sub, o_mul, o_fdiv, o_mod, o_pow18, o_addT, ag_add, ag_sub, c_lt, c_gt, c_le, c_ge, c_eq, c_ne, c_is, c_isn, c_in, c_nin, u_tup, u_scr, n_scr, n_tup, n_str, n_abs, n_min2, n_min3, n_max2, tg_nm, tg_2, tg_3, at_0, at_1, at_2, at_3, at_4, i_int, sat_some, getV_0, getV_s,     List.set_cons_zero, List.set_cons_succ, List.map_cons, List.map_nil, List.replicate_succ, List.replicate_zero, List.cons_append, List.nil_append, List.length_cons, List.length_nil]
  refine ⟨len_ok (by decide), ?_⟩
  generalize hM1 : M ++ [Ob.lst []] = M1
  have p1 : M <+: M1 := by rw [← hM1]; exact List.prefix_append _ _
  have hf1 : M1[M.length]? = some (.lst []) := by rw [← hM1]; exact at_new ..
  have hrl : r < M.length := (List.getElem?_eq_some_iff.mp hr0).1
  have hs1 := pre_get p1 hs0
  have hr1 := pre_get p1 hr0
  have hRw1 : Rws M1 r kvs R := hRw.mono fun x o _ h => pre_get p1 h
  generalize hfn : M.length = f at *
  have at1 : attrW (Gp S) (.ref s) "rows" M1 = .ok (.ref r) M1 := by
    simp only [attrW, hs1, cls_World, Option.isSome_some, Out.chk]
    rfl
  refine sat_of at1 ?_
  have it1 : itmW (.ref r) M1 = some (kvs, [(r, .dct false kvs)]) := by simp only [itmW, hr1]
  simp only [it1, sat_some]
  have hlk : lockM [(r, .dct false kvs)] M1 = M1.set r (.dct true kvs) := rfl
  rw [hlk]
  refine sat_mono (for_rule (Q := fun q M' => ∃ a b y, q = (.nx, [some (.ref s), some (.str w), some (nmW n), some (.ref y), a, b]) ∧ f ≤ y ∧ M'[y]? = some (.lst (ts.map Bt.v)) ∧ M1.set r (.dct true kvs) <+: M')
    (fun pre post σ M' => ∃ kv2 R1 R2, post = kv2.map (fun p => Wv.tup [p.1, p.2]) ∧ R = R1 ++ R2 ∧ Rws M1 r kv2 R2 ∧ (∃ a b y, σ = [some (.ref s), some (.str w), some (nmW n), some (.ref y), a, b] ∧ f ≤ y ∧ M'[y]? = some (.lst (ofRows w n R1))) ∧ M1.set r (.dct true kvs) <+: M') ?_ ?_ _ [] _ _ ⟨kvs, [], R, rfl, rfl, hRw1, ⟨_, _, f, rfl, Nat.le_refl _, by rw [List.getElem?_set_ne (by omega)]; exact hf1⟩, List.prefix_refl _⟩) fun q M2 ⟨a, b, y, eq, hy0, hy, p2⟩ => ?_
  · rintro pre x post σ M' ⟨kv2, R1, R2, hpost, hRR, hRw2, ⟨a, b, y, rfl, hy0, hy⟩, pm⟩
    cases hRw2 with
    | nil => cases hpost
    | @cons k' x' ws kv2 R2 h hx t =>
    simp only [List.map_cons, List.cons.injEq] at hpost
    obtain ⟨rfl, rfl⟩ := hpost
    obtain ⟨c, d, rest, ek, hc⟩ := hR (k', ws) (by rw [hRR]; simp)
    simp only at ek
    subst ek
    have hx2 : M'[x']? = some (.lst ws) := pre_get pm (by rw [List.getElem?_set_ne (Nat.ne_of_lt hx)]; exact h)
    have e1 : ∀ z, ofRows w n (R1 ++ [(.tup (.str c :: .str d :: rest), ws)]) = z ↔ ofRows w n R1 ++ (if ofHit w n (.tup (.str c :: .str d :: rest)) = true then ws else []) = z := fun z => by
      rw [ofRows_app]
      simp only [ofRows]
      split <;> simp
    have hRR2 : R = (R1 ++ [(.tup (.str c :: .str d :: rest), ws)]) ++ R2 := by rw [hRR]; simp
    refine ⟨rfl, _, rfl, ?_⟩
    simp only [q_nil, q_cons, k_nx, k_ret, k_brk, k_ct, q_asg, q_asgA, q_asgS, q_aug, q_ex, q_ret, q_retN, q_pass, q_brk, q_cont, q_ifs, q_for, q_whl, b_t, b_f, be_t, be_f, ba_t, ba_f, bo_t, bo_f, t_bl, t_int, t_non,     q_var, q_con, q_glb, q_tup, q_lst, q_dict0, q_bin, q_neg, q_not, q_and, q_or, q_ife, q_cmp, q_cmp2, q_attr, q_sub, q_srev, q_call, q_callk, q_meth, q_bm, q_new, q_bi, q_isi, q_lc, q_lc2, q_dc, q_sortk, q_sortv, q_sortvM, q_maxk, q_sortm, q_dict2, q_anil, q_acons, q_ival, q_items, q_vals, q_rng, q_zip, q_cntT, q_tab, q_tnin, q_zipT,     o_add, o_sub, o_mul, o_fdiv, o_mod, o_pow18, o_addT, ag_add, ag_sub, c_lt, c_gt, c_le, c_ge, c_eq, c_ne, c_is, c_isn, c_in, c_nin, u_tup, u_scr, n_scr, n_tup, n_str, n_abs, n_min2, n_min3, n_max2, tg_nm, tg_2, tg_3, at_0, at_1, at_2, at_3, at_4, i_int, sat_some, getV_0, getV_s,     List.set_cons_zero, List.set_cons_succ, List.map_cons, List.map_nil, List.replicate_succ, List.replicate_zero, List.cons_append, List.nil_append, List.length_cons, List.length_nil]
    refine ⟨_, eqW_str hc hw, ?_⟩
    by_cases h1 : c = w
    · rw [decide_eq_true h1]
      simp only [q_nil, q_cons, k_nx, k_ret, k_brk, k_ct, q_asg, q_asgA, q_asgS, q_aug, q_ex, q_ret, q_retN, q_pass, q_brk, q_cont, q_ifs, q_for, q_whl, b_t, b_f, be_t, be_f, ba_t, ba_f, bo_t, bo_f, t_bl, t_int, t_non,     q_var, q_con, q_glb, q_tup, q_lst, q_dict0, q_bin, q_neg, q_not, q_and, q_or, q_ife, q_cmp, q_cmp2, q_attr, q_sub, q_srev, q_call, q_callk, q_meth, q_bm, q_new, q_bi, q_isi, q_lc, q_lc2, q_dc, q_sortk, q_sortv, q_sortvM, q_maxk, q_sortm, q_dict2, q_anil, q_acons, q_ival, q_items, q_vals, q_rng, q_zip, q_cntT, q_tab, q_tnin, q_zipT,     o_add, o_sub, o_mul, o_fdiv, o_mod, o_pow18, o_addT, ag_add, ag_sub, c_lt, c_gt, c_le, c_ge, c_eq, c_ne, c_is, c_isn, c_in, c_nin, u_tup, u_scr, n_scr, n_tup, n_str, n_abs, n_min2, n_min3, n_max2, tg_nm, tg_2, tg_3, at_0, at_1, at_2, at_3, at_4, i_int, sat_some, getV_0, getV_s,     List.set_cons_zero, List.set_cons_succ, List.map_cons, List.map_nil, List.replicate_succ, List.replicate_zero, List.cons_append, List.nil_append, List.length_cons, List.length_nil]
      refine ⟨len_ok (by decide), _, in_name n d, ?_⟩
      cases h2 : nmHit n d with
      | true =>
        simp only [q_nil, q_cons, k_nx, k_ret, k_brk, k_ct, q_asg, q_asgA, q_asgS, q_aug, q_ex, q_ret, q_retN, q_pass, q_brk, q_cont, q_ifs, q_for, q_whl, b_t, b_f, be_t, be_f, ba_t, ba_f, bo_t, bo_f, t_bl, t_int, t_non,     q_var, q_con, q_glb, q_tup, q_lst, q_dict0, q_bin, q_neg, q_not, q_and, q_or, q_ife, q_cmp, q_cmp2, q_attr, q_sub, q_srev, q_call, q_callk, q_meth, q_bm, q_new, q_bi, q_isi, q_lc, q_lc2, q_dc, q_sortk, q_sortv, q_sortvM, q_maxk, q_sortm, q_dict2, q_anil, q_acons, q_ival, q_items, q_vals, q_rng, q_zip, q_cntT, q_tab, q_tnin, q_zipT,     o_add, o_sub, o_mul, o_fdiv, o_mod, o_pow18, o_addT, ag_add, ag_sub, c_lt, c_gt, c_le, c_ge, c_eq, c_ne, c_is, c_isn, c_in, c_nin, u_tup, u_scr, n_scr, n_tup, n_str, n_abs, n_min2, n_min3, n_max2, tg_nm, tg_2, tg_3, at_0, at_1, at_2, at_3, at_4, i_int, sat_some, getV_0, getV_s,     List.set_cons_zero, List.set_cons_succ, List.map_cons, List.map_nil, List.replicate_succ, List.replicate_zero, List.cons_append, List.nil_append, List.length_cons, List.length_nil]
        have hh : ofHit w n (.tup (.str c :: .str d :: rest)) = true := by simp [ofHit, h1, h2]
        have hl2 : (ofRows w n R1).length + ws.length ≤ 1000 := by
          have := congrArg List.length hts
          rw [hRR2, ofRows_app, (e1 _).mpr rfl, if_pos hh] at this
          simp at this
          omega
        refine o_addL y x' _ _ hy hx2 (len_ok (by omega)) ?_
        try simp only [q_nil, q_cons, k_nx, k_ret, k_brk, k_ct, q_asg, q_asgA, q_asgS, q_aug, q_ex, q_ret, q_retN, q_pass, q_brk, q_cont, q_ifs, q_for, q_whl, b_t, b_f, be_t, be_f, ba_t, ba_f, bo_t, bo_f, t_bl, t_int, t_non,     q_var, q_con, q_glb, q_tup, q_lst, q_dict0, q_bin, q_neg, q_not, q_and, q_or, q_ife, q_cmp, q_cmp2, q_attr, q_sub, q_srev, q_call, q_callk, q_meth, q_bm, q_new, q_bi, q_isi, q_lc, q_lc2, q_dc, q_sortk, q_sortv, q_sortvM, q_maxk, q_sortm, q_dict2, q_anil, q_acons, q_ival, q_items, q_vals, q_rng, q_zip, q_cntT, q_tab, q_tnin, q_zipT,     o_add, o_sub, o_mul, o_fdiv, o_mod, o_pow18, o_addT, ag_add, ag_sub, c_lt, c_gt, c_le, c_ge, c_eq, c_ne, c_is, c_isn, c_in, c_nin, u_tup, u_scr, n_scr, n_tup, n_str, n_abs, n_min2, n_min3, n_max2, tg_nm, tg_2, tg_3, at_0, at_1, at_2, at_3, at_4, i_int, sat_some, getV_0, getV_s,     List.set_cons_zero, List.set_cons_succ, List.map_cons, List.map_nil, List.replicate_succ, List.replicate_zero, List.cons_append, List.nil_append, List.length_cons, List.length_nil]
        refine ⟨kv2, _, R2, rfl, hRR2, t, ⟨_, _, _, rfl, ?_, ?_⟩, pre_snoc pm _⟩
        · have := pre_len pm
          have := pre_len p1
          simp only [List.length_set] at *
          omega
        · rw [at_new, (e1 _).mpr rfl, if_pos hh]
      | false =>
        simp only [q_nil, q_cons, k_nx, k_ret, k_brk, k_ct, q_asg, q_asgA, q_asgS, q_aug, q_ex, q_ret, q_retN, q_pass, q_brk, q_cont, q_ifs, q_for, q_whl, b_t, b_f, be_t, be_f, ba_t, ba_f, bo_t, bo_f, t_bl, t_int, t_non,     q_var, q_con, q_glb, q_tup, q_lst, q_dict0, q_bin, q_neg, q_not, q_and, q_or, q_ife, q_cmp, q_cmp2, q_attr, q_sub, q_srev, q_call, q_callk, q_meth, q_bm, q_new, q_bi, q_isi, q_lc, q_lc2, q_dc, q_sortk, q_sortv, q_sortvM, q_maxk, q_sortm, q_dict2, q_anil, q_acons, q_ival, q_items, q_vals, q_rng, q_zip, q_cntT, q_tab, q_tnin, q_zipT,     o_add, o_sub, o_mul, o_fdiv, o_mod, o_pow18, o_addT, ag_add, ag_sub, c_lt, c_gt, c_le, c_ge, c_eq, c_ne, c_is, c_isn, c_in, c_nin, u_tup, u_scr, n_scr, n_tup, n_str, n_abs, n_min2, n_min3, n_max2, tg_nm, tg_2, tg_3, at_0, at_1, at_2, at_3, at_4, i_int, sat_some, getV_0, getV_s,     List.set_cons_zero, List.set_cons_succ, List.map_cons, List.map_nil, List.replicate_succ, List.replicate_zero, List.cons_append, List.nil_append, List.length_cons, List.length_nil]
        have hh : ofHit w n (.tup (.str c :: .str d :: rest)) = false := by simp [ofHit, h2]
        refine ⟨kv2, _, R2, rfl, hRR2, t, ⟨_, _, _, rfl, hy0, ?_⟩, pm⟩
        rw [(e1 _).mpr rfl, hh]
        simpa using hy
    · rw [decide_eq_false h1]
      simp only [q_nil, q_cons, k_nx, k_ret, k_brk, k_ct, q_asg, q_asgA, q_asgS, q_aug, q_ex, q_ret, q_retN, q_pass, q_brk, q_cont, q_ifs, q_for, q_whl, b_t, b_f, be_t, be_f, ba_t, ba_f, bo_t, bo_f, t_bl, t_int, t_non,     q_var, q_con, q_glb, q_tup, q_lst, q_dict0, q_bin, q_neg, q_not, q_and, q_or, q_ife, q_cmp, q_cmp2, q_attr, q_sub, q_srev, q_call, q_callk, q_meth, q_bm, q_new, q_bi, q_isi, q_lc, q_lc2, q_dc, q_sortk, q_sortv, q_sortvM, q_maxk, q_sortm, q_dict2, q_anil, q_acons, q_ival, q_items, q_vals, q_rng, q_zip, q_cntT, q_tab, q_tnin, q_zipT,     o_add, o_sub, o_mul, o_fdiv, o_mod, o_pow18, o_addT, ag_add, ag_sub, c_lt, c_gt, c_le, c_ge, c_eq, c_ne, c_is, c_isn, c_in, c_nin, u_tup, u_scr, n_scr, n_tup, n_str, n_abs, n_min2, n_min3, n_max2, tg_nm, tg_2, tg_3, at_0, at_1, at_2, at_3, at_4, i_int, sat_some, getV_0, getV_s,     List.set_cons_zero, List.set_cons_succ, List.map_cons, List.map_nil, List.replicate_succ, List.replicate_zero, List.cons_append, List.nil_append, List.length_cons, List.length_nil]
      have hh : ofHit w n (.tup (.str c :: .str d :: rest)) = false := by simp [ofHit, h1]
      refine ⟨kv2, _, R2, rfl, hRR2, t, ⟨_, _, _, rfl, hy0, ?_⟩, pm⟩
      rw [(e1 _).mpr rfl, hh]
      simpa using hy
  · rintro pre σ M' ⟨kv2, R1, R2, hpost, hRR, hRw2, ⟨a, b, y, rfl, hy0, hy⟩, pm⟩
    have : kv2 = [] := by
      cases kv2 with
      | nil => rfl
      | cons _ _ => cases hpost
    subst this
    cases hRw2
    rw [List.append_nil] at hRR
    subst hRR
    exact ⟨rfl, a, b, y, rfl, hy0, by rw [← hts]; exact hy, pm⟩
  · subst eq
    simp only [q_nil, q_cons, k_nx, k_ret, k_brk, k_ct, q_asg, q_asgA, q_asgS, q_aug, q_ex, q_ret, q_retN, q_pass, q_brk, q_cont, q_ifs, q_for, q_whl, b_t, b_f, be_t, be_f, ba_t, ba_f, bo_t, bo_f, t_bl, t_int, t_non,     q_var, q_con, q_glb, q_tup, q_lst, q_dict0, q_bin, q_neg, q_not, q_and, q_or, q_ife, q_cmp, q_cmp2, q_attr, q_sub, q_srev, q_call, q_callk, q_meth, q_bm, q_new, q_bi, q_isi, q_lc, q_lc2, q_dc, q_sortk, q_sortv, q_sortvM, q_maxk, q_sortm, q_dict2, q_anil, q_acons, q_ival, q_items, q_vals, q_rng, q_zip, q_cntT, q_tab, q_tnin, q_zipT,     o_add, o_sub, o_mul, o_fdiv, o_mod, o_pow18, o_addT, ag_add, ag_sub, c_lt, c_gt, c_le, c_ge, c_eq, c_ne, c_is, c_isn, c_in, c_nin, u_tup, u_scr, n_scr, n_tup, n_str, n_abs, n_min2, n_min3, n_max2, tg_nm, tg_2, tg_3, at_0, at_1, at_2, at_3, at_4, i_int, sat_some, getV_0, getV_s,     List.set_cons_zero, List.set_cons_succ, List.map_cons, List.map_nil, List.replicate_succ, List.replicate_zero, List.cons_append, List.nil_append, List.length_cons, List.length_nil]
    have hul2 : unlkM [(r, .dct false kvs)] M2 = M2.set r (.dct false kvs) := rfl
    rw [hul2]
    generalize hM3 : M2.set r (.dct false kvs) = M3
    have p3 : M1 <+: M3 := by rw [← hM3]; exact pre_unlk hr1 p2
    have hy3 : M3[y]? = some (.lst (ts.map Bt.v)) := by rw [← hM3, List.getElem?_set_ne (by omega)]; exact hy
    have eK : mapO (keyOf (Gp S) (.tup (.sub .v 1) .v) M3) (ts.map Bt.v) = some (ts.map okey) := mapO_map fun t ht => by
      unfold keyOf
      rw [toD_pur (hok t ht) (by decide)]
      simp only [noL_dat (hok t ht), if_true]
      simp only [keyD, Bt.v, dat, dats, okey]
      rfl
    refine sat_of (a := .ref M3.length) (M := M3 ++ [.lst (us.map Bt.v)]) ?_ ?_
    · simp only [lstOf, hy3, Option.bind_some, eK, hs, newL, List.length_map, len_ok (show us.length ≤ sizeLine by omega), Out.chk]
    · refine ⟨pre_snoc (p1.trans p3) _, _, rfl, ?_, at_new ..⟩
      have := pre_len (p1.trans p3)
      omega
end Bh
end
section
set_option Elab.async false
set_option linter.all false
set_option maxRecDepth 100000
set_option maxHeartbeats 0
namespace Bh
open PySem MP
def okS (x : Str) : Bool := PyData.strOk x && decide (x.length ≤ 8)
def okI (i : Int) : Bool := decide (0 ≤ i) && decide (i < 10000000)
def sigM : List Bool → List Wv → Bool
  | [], [] => true
  | true :: s, .str x :: r => okS x && sigM s r
  | false :: s, .int i :: r => okI i && sigM s r
  | _, _ => false
def sigT : List (Str × List Bool) := [("place", [true, true, false, false]), ("read", [true, false]), ("right", [true, true, true, false, false, false, false, false, false, true, false]), ("ask", [true, false]), ("store", [true]), ("dam", [true, false, false]), ("share", [true, true, false]), ("release", [true, true, true, false]), ("sold", [true, true]), ("leased", [true, true, false]), ("moved", [true, true])]
def BKb (t : Bt) : Prop := okI t.d = true ∧ ∃ s, (t.w, s) ∈ sigT ∧ sigM s t.xs = true
theorem sigM_ind {P : List Bool → List Wv → Prop} (h0 : P [] []) (hs : ∀ s x r, okS x = true → sigM s r = true → P s r → P (true :: s) (.str x :: r)) (hi : ∀ s i r, okI i = true → sigM s r = true → P s r → P (false :: s) (.int i :: r)) : ∀ s xs, sigM s xs = true → P s xs
  | [], [], _ => h0
  | true :: s, .str x :: r, h => by
    simp only [sigM, Bool.and_eq_true] at h
    exact hs s x r h.1 h.2 (sigM_ind h0 hs hi s r h.2)
  | false :: s, .int i :: r, h => by
    simp only [sigM, Bool.and_eq_true] at h
    exact hi s i r h.1 h.2 (sigM_ind h0 hs hi s r h.2)
  | [], _ :: _, h => by simp [sigM] at h
  | true :: s, [], h => by simp [sigM] at h
  | false :: s, [], h => by simp [sigM] at h
  | true :: s, .int _ :: _, h => by simp [sigM] at h
  | true :: s, .non :: _, h => by simp [sigM] at h
  | true :: s, .bl _ :: _, h => by simp [sigM] at h
  | true :: s, .tup _ :: _, h => by simp [sigM] at h
  | true :: s, .ref _ :: _, h => by simp [sigM] at h
  | true :: s, .scr :: _, h => by simp [sigM] at h
  | false :: s, .str _ :: _, h => by simp [sigM] at h
  | false :: s, .non :: _, h => by simp [sigM] at h
  | false :: s, .bl _ :: _, h => by simp [sigM] at h
  | false :: s, .tup _ :: _, h => by simp [sigM] at h
  | false :: s, .ref _ :: _, h => by simp [sigM] at h
  | false :: s, .scr :: _, h => by simp [sigM] at h
theorem sig_len {s : List Bool} {xs : List Wv} (h : sigM s xs = true) : xs.length = s.length :=
  sigM_ind (P := fun s xs => xs.length = s.length) rfl (fun s x r _ _ h => by simp [h]) (fun s i r _ _ h => by simp [h]) s xs h
theorem okS_ok {x : Str} (h : okS x = true) : PyData.strOk x = true := by
  unfold okS at h
  rw [Bool.and_eq_true] at h
  exact h.1
theorem sig_purs (n : Nat) {s : List Bool} {xs : List Wv} (h : sigM s xs = true) : purs n xs = true :=
  sigM_ind (P := fun s xs => purs n xs = true) (by simp [purs]) (fun s x r hx _ h => by simp [purs, pur, okS_ok hx, h]) (fun s i r _ _ h => by simp [purs, pur, h]) s xs h
theorem sig_key (n : Nat) {s : List Bool} {xs : List Wv} (h : sigM s xs = true) : keyTup n xs = true :=
  sigM_ind (P := fun s xs => keyTup n xs = true) (by simp [keyTup]) (fun s x r hx _ h => by simp [keyTup, keyIn, h]) (fun s i r _ _ h => by simp [keyTup, keyIn, h]) s xs h
theorem sig_take {s : List Bool} {xs : List Wv} (h : sigM s xs = true) : ∀ n, sigM (s.take n) (xs.take n) = true :=
  sigM_ind (P := fun s xs => ∀ n, sigM (s.take n) (xs.take n) = true) (fun n => by simp [sigM]) (fun s x r hx _ h n => by
    cases n with
    | zero => rfl
    | succ n => simp only [List.take_succ_cons, sigM, hx, h n, Bool.and_self]) (fun s i r hi _ h n => by
    cases n with
    | zero => rfl
    | succ n => simp only [List.take_succ_cons, sigM, hi, h n, Bool.and_self]) s xs h
theorem sig_alike {s : List Bool} {xs : List Wv} (h : sigM s xs = true) : ∀ ys, sigM s ys = true → W.alikeAll (dats xs) (dats ys) = true :=
  sigM_ind (P := fun s xs => ∀ ys, sigM s ys = true → W.alikeAll (dats xs) (dats ys) = true) (fun ys _ => by simp [dats, W.alikeAll]) (fun s x r hx _ h ys hy => by
    match ys, hy with
    | .str y :: ys, hy =>
      simp only [sigM, Bool.and_eq_true] at hy
      simp only [dats, dat, W.alikeAll, W.alike, h ys hy.2, Bool.and_self]) (fun s i r hi _ h ys hy => by
    match ys, hy with
    | .int y :: ys, hy =>
      simp only [sigM, Bool.and_eq_true] at hy
      simp only [dats, dat, W.alikeAll, W.alike, h ys hy.2, Bool.and_self]) s xs h
theorem strs_alike : ∀ {s t : List Bool} {xs ys : List Wv}, sigM s xs = true → sigM t ys = true → (s.all id) = true → (t.all id) = true → W.alikeAll (dats xs) (dats ys) = true
  | [], _, [], _, _, _, _, _ => by simp [dats, W.alikeAll]
  | _ :: _, [], _ :: _, [], _, _, _, _ => by simp [dats, W.alikeAll]
  | true :: s, true :: t, .str x :: xs, .str y :: ys, h1, h2, h3, h4 => by
    simp only [sigM, Bool.and_eq_true] at h1 h2
    simp only [List.all_cons, id, Bool.true_and] at h3 h4
    simp only [dats, dat, W.alikeAll, W.alike, strs_alike h1.2 h2.2 h3 h4, Bool.and_self]
  | [], _, _ :: _, _, h, _, _, _ => by simp [sigM] at h
  | true :: _, _, [], _, h, _, _, _ => by simp [sigM] at h
  | false :: _, _, _, _, _, _, h, _ => by simp at h
  | _, false :: _, _, _, _, _, _, h => by simp at h
  | true :: _, [], _, _ :: _, _, h, _, _ => by simp [sigM] at h
  | true :: _, true :: _, _, [], _, h, _, _ => by simp [sigM] at h
  | true :: _, _, .int _ :: _, _, h, _, _, _ => by simp [sigM] at h
  | true :: _, _, .non :: _, _, h, _, _, _ => by simp [sigM] at h
  | true :: _, _, .bl _ :: _, _, h, _, _, _ => by simp [sigM] at h
  | true :: _, _, .tup _ :: _, _, h, _, _, _ => by simp [sigM] at h
  | true :: _, _, .ref _ :: _, _, h, _, _, _ => by simp [sigM] at h
  | true :: _, _, .scr :: _, _, h, _, _, _ => by simp [sigM] at h
  | _, true :: _, _, .int _ :: _, _, h, _, _ => by simp [sigM] at h
  | _, true :: _, _, .non :: _, _, h, _, _ => by simp [sigM] at h
  | _, true :: _, _, .bl _ :: _, _, h, _, _ => by simp [sigM] at h
  | _, true :: _, _, .tup _ :: _, _, h, _, _ => by simp [sigM] at h
  | _, true :: _, _, .ref _ :: _, _, h, _, _ => by simp [sigM] at h
  | _, true :: _, _, .scr :: _, _, h, _, _ => by simp [sigM] at h
def tnW (w : Str) : Nat := if w = ("share" : Str) then 2 else if w = ("release" : Str) then 3 else 1
theorem tn_eq (t : Bt) : t.tn = tnW t.w := rfl
theorem sig_words : ∀ p ∈ sigT, p.1 ≠ ("void" : Str) ∧ SeqAt.shaped (.str p.1) = true ∧ PyData.strOk p.1 = true ∧ tnW p.1 ≤ p.2.length ∧ ((p.2.take (tnW p.1)).all id) = true := by
  have : (sigT.all fun p => decide (p.1 ≠ ("void" : Str)) && SeqAt.shaped (.str p.1) && PyData.strOk p.1 && decide (tnW p.1 ≤ p.2.length) && ((p.2.take (tnW p.1)).all id)) = true := by decide +kernel
  intro p hp
  have h := List.all_eq_true.mp this p hp
  simp only [Bool.and_eq_true] at h
  exact ⟨of_decide_eq_true h.1.1.1.1, h.1.1.1.2, h.1.1.2, of_decide_eq_true h.1.2, h.2⟩
theorem sig_one : ∀ p ∈ sigT, ∀ q ∈ sigT, p.1 = q.1 → p = q := by
  have : (sigT.all fun p => sigT.all fun q => !decide (p.1 = q.1) || decide (p = q)) = true := by decide +kernel
  intro p hp q hq e
  have h := List.all_eq_true.mp (List.all_eq_true.mp this p hp) q hq
  rw [decide_eq_true e] at h
  simpa using h
theorem BKb.ok {t : Bt} (h : BKb t) : t.ok := by
  obtain ⟨hd, s, hs, hm⟩ := h
  obtain ⟨w1, w2, w3, w4, w5⟩ := sig_words _ hs
  have htk := sig_take hm t.tn
  refine ⟨w1, w2, ?_, ?_, ?_, ?_, ?_⟩
  · rw [tn_eq, sig_len hm]; exact w4
  · show pur 5 (.tup (.str t.w :: .int t.d :: t.xs)) = true
    simp only [pur, purs, w3, sig_purs 4 hm, Bool.and_self]
  · show keyTup 7 (.str t.w :: t.xs.take t.tn) = true
    simp only [keyTup, keyIn, sig_key 7 htk, Bool.and_self]
  · show keyTup 7 [t.thing, .int t.d] = true
    simp only [Bt.thing, keyTup, keyIn, sig_key 6 htk, Bool.and_self]
  · show pur 6 (.tup [t.thing, .int t.d]) = true
    simp only [Bt.thing, pur, purs, w3, sig_purs 4 htk, Bool.and_self]
theorem BKb.kv {t : Bt} (h : BKb t) : keyT t.v = true := by
  obtain ⟨hd, s, hs, hm⟩ := h
  show keyTup 7 (.str t.w :: .int t.d :: t.xs) = true
  simp only [keyTup, keyIn, sig_key 7 hm, Bool.and_self]
theorem thing_w {u t : Bt} (h : u.thing = t.thing) : u.w = t.w := by
  simp only [Bt.thing, Wv.tup.injEq, List.cons.injEq, Wv.str.injEq] at h
  exact h.1
theorem BKb.alk {fs : List Bt} (h : ∀ t ∈ fs, BKb t) : Alk fs := fun u hu t ht e => by
  obtain ⟨_, s, hs, hm⟩ := h u hu
  obtain ⟨_, r, hr, hn⟩ := h t ht
  have ew : u.w = t.w := by
    simp only [Bt.key, Wv.tup.injEq, List.cons.injEq] at e
    exact thing_w e.1
  have := sig_one _ hs _ hr ew
  have es : s = r := congrArg Prod.snd this
  subst es
  simp only [Bt.v, dat, dats, W.alike, W.alikeAll, sig_alike hm _ hn, Bool.and_self]
theorem BKb.kalike {u t : Bt} (hu : BKb u) (ht : BKb t) : W.alike (dat u.key) (dat t.key) = true := by
  obtain ⟨_, s, hs, hm⟩ := hu
  obtain ⟨_, r, hr, hn⟩ := ht
  have a1 := (sig_words _ hs).2.2.2.2
  have a2 := (sig_words _ hr).2.2.2.2
  have := strs_alike (sig_take hm u.tn) (sig_take hn t.tn) a1 a2
  simp only [Bt.key, Bt.thing, dat, dats, W.alike, W.alikeAll, this, Bool.and_self]
end Bh
end
section
set_option Elab.async false
set_option linter.all false
set_option maxRecDepth 100000
set_option maxHeartbeats 0
namespace Bh
open PySem MP
def vdN : Nat → Wv → Wv
  | 0, v => v
  | n + 1, v => .tup [.str "void", vdN n v]
theorem sig_small : ∀ p ∈ sigT, p.1.cps.size ≤ 8 := by
  have : (sigT.all fun p => decide (p.1.cps.size ≤ 8)) = true := by decide +kernel
  exact fun p hp => of_decide_eq_true (List.all_eq_true.mp this p hp)
theorem int_small {i : Int} (h : okI i = true) : PyData.showable (.int i) = true ∧ PyData.intsShort 13 (.int i) = true ∧ PyData.weight (.int i) ≤ 25 := by
  unfold okI at h
  rw [Bool.and_eq_true] at h
  have h1 := of_decide_eq_true h.1
  have h2 := of_decide_eq_true h.2
  have hn : i.natAbs < 10000000 := by omega
  have hlog : i.natAbs.log2 ≤ 24 := by
    by_cases z : i.natAbs = 0
    · rw [z]; decide
    · have := (Nat.log2_lt z (k := 25)).mpr (by omega)
      omega
  refine ⟨?_, ?_, ?_⟩
  · simp only [PyData.showable]
    exact decide_eq_true (by omega)
  · simp only [PyData.intsShort]
    refine decide_eq_true ?_
    have := int_text_length_le10 (a := i) (k := 7) (by omega) (by omega)
    show (Str.ofString (toString i)).length ≤ 13
    rw [ofString_length]
    omega
  · simp only [PyData.weight]
    split <;> omega
theorem sig_shown {s : List Bool} {xs : List Wv} (h : sigM s xs = true) : PyData.showableAll (dats xs) = true ∧ PyData.intsShortAll 13 (dats xs) = true ∧ PyData.weightAll (dats xs) ≤ 26 * xs.length :=
  sigM_ind (P := fun s xs => PyData.showableAll (dats xs) = true ∧ PyData.intsShortAll 13 (dats xs) = true ∧ PyData.weightAll (dats xs) ≤ 26 * xs.length) ⟨by simp [dats, PyData.showableAll], by simp [dats, PyData.intsShortAll], by simp [dats, PyData.weightAll]⟩
    (fun s x r hx _ ⟨h1, h2, h3⟩ => by
      have hl : x.cps.size ≤ 8 := by
        unfold okS at hx
        rw [Bool.and_eq_true] at hx
        exact of_decide_eq_true hx.2
      refine ⟨by simp [dats, dat, PyData.showableAll, PyData.showable, h1], by simp [dats, dat, PyData.intsShortAll, PyData.intsShort, h2], ?_⟩
      simp only [dats, dat, PyData.weightAll, PyData.weight, List.length_cons]
      omega)
    (fun s i r hi _ ⟨h1, h2, h3⟩ => by
      obtain ⟨g1, g2, g3⟩ := int_small hi
      refine ⟨by simp only [dats, dat, PyData.showableAll, g1, h1, Bool.and_self], by simp only [dats, dat, PyData.intsShortAll, g2, h2, Bool.and_self], ?_⟩
      simp only [dats, dat, PyData.weightAll, List.length_cons]
      omega) s xs h
theorem sig_short : ∀ p ∈ sigT, p.2.length ≤ 11 := by
  have : (sigT.all fun p => decide (p.2.length ≤ 11)) = true := by decide +kernel
  exact fun p hp => of_decide_eq_true (List.all_eq_true.mp this p hp)
theorem vd_strOk : PyData.strOk ("void" : Str) = true := by decide +kernel
theorem vdN_pur {t : Bt} (h : BKb t) : ∀ n, pur (n + 5) (vdN n t.v) = true
  | 0 => h.ok.pv
  | n + 1 => by
    show (PyData.strOk ("void" : Str) && (pur (n + 5) (vdN n t.v) && true)) = true
    rw [vd_strOk, vdN_pur h n]
    rfl
theorem vdN_shown {t : Bt} (h : BKb t) : ∀ n, PyData.showable (dat (vdN n t.v)) = true ∧ PyData.intsShort 13 (dat (vdN n t.v)) = true ∧ PyData.weight (dat (vdN n t.v)) ≤ 400 + 10 * n
  | 0 => by
    obtain ⟨hd, s, hs, hm⟩ := h
    obtain ⟨g1, g2, g3⟩ := int_small hd
    obtain ⟨f1, f2, f3⟩ := sig_shown hm
    have hl := sig_len hm
    have h11 := sig_short _ hs
    have h8 := sig_small _ hs
    simp only at h8 h11
    refine ⟨?_, ?_, ?_⟩
    · simp only [vdN, Bt.v, dat, dats, PyData.showable, PyData.showableAll, g1, f1, Bool.and_self]
      simpa [PyData.showable] using g1
    · simp only [vdN, Bt.v, dat, dats, PyData.intsShort, PyData.intsShortAll, f2, Bool.true_and, Bool.and_true]
      simpa [PyData.intsShort] using g2
    · simp only [vdN, Bt.v, dat, dats, PyData.weight, PyData.weightAll] at g3 ⊢
      omega
  | n + 1 => by
    obtain ⟨g1, g2, g3⟩ := vdN_shown h n
    refine ⟨?_, ?_, ?_⟩
    · simp only [vdN, dat, dats, PyData.showable, PyData.showableAll, g1, Bool.and_self]
    · simp only [vdN, dat, dats, PyData.intsShort, PyData.intsShortAll, g2, Bool.and_self]
    · have e4 : ("void" : Str).cps.size = 4 := by decide +kernel
      simp only [vdN, dat, dats, PyData.weight, PyData.weightAll, e4]
      omega
theorem str_ok (S : List Int) {t : Bt} (h : BKb t) (n : Nat) (hn : n ≤ 3) (M : Mem) : biW (Gp S) .str [vdN n t.v] M = .ok (.str (dat (vdN n t.v)).shown) M := by
  have hp := vdN_pur h n
  obtain ⟨g1, g2, g3⟩ := vdN_shown h n
  have hlay : PyData.layable0 (dat (vdN n t.v)) = true := by
    unfold PyData.layable0
    rw [dat_lay hp, decide_eq_true (Nat.le_trans (dat_depth hp) (by omega)), decide_eq_true (by omega)]
    rfl
  have hlen := PyData.shown_le_of_layable0 hlay g2
  have hz : 15728653 ≤ sizeLine := by decide
  have hD := PyData.hasDict_of_canLay _ (dat_lay hp)
  have hc : dcap (dat (vdN n t.v)) = true := decide_eq_true (Nat.le_trans (dat_depth hp) (by omega))
  have ht : toD (Gp S).S M deepD (vdN n t.v) = some (dat (vdN n t.v)) := toD_pur hp (show n + 5 ≤ 12 by omega)
  have hsh : ∃ ws, vdN n t.v = .tup ws := by
    cases n with
    | zero => exact ⟨_, rfl⟩
    | succ n => exact ⟨_, rfl⟩
  obtain ⟨ws, ew⟩ := hsh
  rw [ew] at ht ⊢
  rw [ew] at g1 hD hc hlen
  simp only [biW, ht, g1, hD, hc, len_ok (show (dat (.tup ws)).shown.length ≤ sizeLine by omega), Bool.not_false, Bool.and_self, Out.chk]
def kf (i : Nat) : Nat := (if 2 < i then 1 else 0) + (if 11 < i then 1 else 0) + (if 20 < i then 1 else 0)
def nb (i : Nat) : Nat := if i ≤ 2 then 0 else if i ≤ 11 then 6 else if i ≤ 20 then 15 else 24
theorem kf_at : kf 2 = 0 ∧ kf 3 = 1 ∧ kf 11 = 1 ∧ kf 12 = 2 ∧ kf 20 = 2 ∧ kf 21 = 3 ∧ nb 2 = 0 ∧ nb 3 = 6 ∧ nb 11 = 6 ∧ nb 12 = 15 ∧ nb 20 = 15 ∧ nb 21 = 24 := by decide
theorem kf_no {i : Nat} (h2 : i ≠ 2) (h11 : i ≠ 11) (h20 : i ≠ 20) : kf (i + 1) = kf i ∧ nb (i + 1) = nb i := by
  unfold kf nb
  have e1 : (2 < i + 1) = (2 < i) := by apply propext; omega
  have e2 : (11 < i + 1) = (11 < i) := by apply propext; omega
  have e3 : (20 < i + 1) = (20 < i) := by apply propext; omega
  have e4 : (i + 1 ≤ 2) = (i ≤ 2) := by apply propext; omega
  have e5 : (i + 1 ≤ 11) = (i ≤ 11) := by apply propext; omega
  have e6 : (i + 1 ≤ 20) = (i ≤ 20) := by apply propext; omega
  simp only [e1, e2, e3, e4, e5, e6]
  exact ⟨trivial, trivial⟩
theorem kf_step (i : Nat) : kf (i + 1) ≤ kf i + 1 := by
  by_cases h2 : i = 2
  · subst h2; decide
  · by_cases h11 : i = 11
    · subst h11; decide
    · by_cases h20 : i = 20
      · subst h20; decide
      · rw [(kf_no h2 h11 h20).1]; omega
open PySem.Builtin.Str PySem.StrLaws in
theorem occ_inv (s v : Str) (hi lim : Nat) (hv : v.length = 4) (h2 : subAt s v 2 = true) (h11 : subAt s v 11 = true) (h20 : subAt s v 20 = true) (hh : 24 ≤ hi) (hlim : hi < lim) : ∀ (n i : Nat) (st : Array Nat × Nat), i + n ≤ hi + 1 →
    (kf i ≤ st.1.size ∧ (st.1.size = kf i → st.2 ≤ nb i) ∧ st.2 ≤ i + 3 ∧ st.1.size ≤ i) → kf (i + n) ≤ ((forIn (List.range' i n) st (occBody s v hi lim)).run).1.size
  | 0, i, st, _, h => h.1
  | n + 1, i, st, hb, ⟨a1, a2, a3, a4⟩ => by
    have e : i + (n + 1) = (i + 1) + n := by omega
    rw [List.range'_succ, List.forIn_cons, e]
    obtain ⟨f1, f2, f3, f4, f5, f6, f7, f8, f9, f10, f11, f12⟩ := kf_at
    by_cases hc : ((st.1.size < lim ∧ st.2 ≤ i) ∧ i + v.length ≤ hi) ∧ subAt s v i = true
    · have hb1 : occBody s v hi lim i st = pure (ForInStep.yield (st.1.push i, i + v.length)) := by unfold occBody; rw [if_pos hc]
      rw [hb1]
      refine occ_inv s v hi lim hv h2 h11 h20 hh hlim n (i + 1) (st.1.push i, i + v.length) (by omega) ⟨?_, ?_, ?_, ?_⟩
      · have := kf_step i
        simp only [Array.size_push]; omega
      · simp only [Array.size_push, hv]
        intro z
        by_cases q2 : i = 2
        · subst q2; show 2 + 4 ≤ nb 3; omega
        · by_cases q11 : i = 11
          · subst q11; show 11 + 4 ≤ nb 12; omega
          · by_cases q20 : i = 20
            · subst q20; show 20 + 4 ≤ nb 21; omega
            · have := (kf_no q2 q11 q20).1; omega
      · simp only [hv]; omega
      · simp only [Array.size_push]; omega
    · have hb1 : occBody s v hi lim i st = pure (ForInStep.yield (st.1, st.2)) := by unfold occBody; rw [if_neg hc]
      rw [hb1]
      have key : subAt s v i = true → i + 4 ≤ hi → ¬ st.2 ≤ i := fun hs hi' hf => hc ⟨⟨⟨by omega, hf⟩, by omega⟩, hs⟩
      refine occ_inv s v hi lim hv h2 h11 h20 hh hlim n (i + 1) (st.1, st.2) (by omega) ⟨?_, ?_, by show st.2 ≤ i + 1 + 3; omega, by show st.1.size ≤ i + 1; omega⟩
      · show kf (i + 1) ≤ st.1.size
        by_cases q2 : i = 2
        · subst q2
          have k2 := key h2 (by omega)
          by_cases z : st.1.size = kf 2
          · have := a2 z; omega
          · show kf 3 ≤ _; omega
        · by_cases q11 : i = 11
          · subst q11
            have k2 := key h11 (by omega)
            by_cases z : st.1.size = kf 11
            · have := a2 z; omega
            · show kf 12 ≤ _; omega
          · by_cases q20 : i = 20
            · subst q20
              have k2 := key h20 (by omega)
              by_cases z : st.1.size = kf 20
              · have := a2 z; omega
              · show kf 21 ≤ _; omega
            · rw [(kf_no q2 q11 q20).1]; exact a1
      · show st.1.size = kf (i + 1) → st.2 ≤ nb (i + 1)
        intro z
        by_cases q2 : i = 2
        · subst q2; show st.2 ≤ nb 3; omega
        · by_cases q11 : i = 11
          · subst q11; show st.2 ≤ nb 12; omega
          · by_cases q20 : i = 20
            · subst q20; show st.2 ≤ nb 21; omega
            · obtain ⟨g1, g2⟩ := kf_no q2 q11 q20
              rw [g2]; exact a2 (by omega)
open PySem.Builtin.Str PySem.StrLaws in
theorem occ_three {s v : Str} (hv : v.length = 4) (h2 : subAt s v 2 = true) (h11 : subAt s v 11 = true) (h20 : subAt s v 20 = true) (hl : 24 ≤ s.length) : 3 ≤ Txt.count s v := by
  have h := occ_inv s v s.length (s.length + 1) hv h2 h11 h20 hl (by omega) (s.length + 1) 0 (#[], 0) (by omega) ⟨Nat.zero_le _, fun _ => Nat.zero_le _, Nat.zero_le _, Nat.le_refl _⟩
  have e : kf (0 + (s.length + 1)) = 3 := by
    unfold kf
    rw [if_pos (by omega), if_pos (by omega), if_pos (by omega)]
  rw [e] at h
  unfold Txt.count
  rw [occ_eq]
  simp only [Array.length_toList, Nat.sub_zero]
  omega
def preV : List Nat := [40, 39, 118, 111, 105, 100, 39, 44, 32]
theorem shown_void (x : PyData) : (PyData.shown (.tuple [.str "void", x])).cps.toList = preV ++ (x.shown.cps.toList ++ [41]) := by
  have e1 : reprText ("void" : Str) = "'void'" := by decide +kernel
  have e2 : PyData.shown (.tuple [.str "void", x]) = ("(" : Str) ++ (("'void'" : Str) ++ (", " : Str) ++ x.shown) ++ (")" : Str) := by
    simp only [PyData.shown, PyData.shownAll, tupleText, e1, Str.join]
    rfl
  have app : ∀ a b : Str, (a ++ b).cps.toList = a.cps.toList ++ b.cps.toList := fun a b => by
    show (a.cps ++ b.cps).toList = _
    simp
  rw [e2, app, app, app, app]
  have c1 : ("(" : Str).cps.toList = [40] := by decide +kernel
  have c2 : ("'void'" : Str).cps.toList = [39, 118, 111, 105, 100, 39] := by decide +kernel
  have c3 : (", " : Str).cps.toList = [44, 32] := by decide +kernel
  have c4 : (")" : Str).cps.toList = [41] := by decide +kernel
  rw [c1, c2, c3, c4]
  simp [preV]
theorem sub_at {s : Str} {p r : List Nat} (h : s.cps.toList = p ++ ([118, 111, 105, 100] ++ r)) : Builtin.Str.subAt s "void" p.length = true := by
  have hv : ("void" : Str).cps = #[118, 111, 105, 100] := by decide +kernel
  have hl : ("void" : Str).length = 4 := by decide +kernel
  unfold Builtin.Str.subAt
  rw [hl, hv]
  have : s.cps.extract p.length (p.length + 4) = #[118, 111, 105, 100] := by
    apply Array.toList_inj.mp
    rw [Array.toList_extract, h]
    simp [List.extract]
  rw [this]
  rfl
theorem cnt_pre {s : Str} {r : List Nat} (e : s.cps.toList = preV ++ (preV ++ (preV ++ r))) : 3 ≤ Txt.count s "void" := by
  have hv : ("void" : Str).length = 4 := by decide +kernel
  have a1 := sub_at (s := s) (p := [40, 39]) (r := [39, 44, 32] ++ (preV ++ (preV ++ r))) (by rw [e]; rfl)
  have a2 := sub_at (s := s) (p := preV ++ [40, 39]) (r := [39, 44, 32] ++ (preV ++ r)) (by rw [e]; rfl)
  have a3 := sub_at (s := s) (p := preV ++ (preV ++ [40, 39])) (r := [39, 44, 32] ++ r) (by rw [e]; rfl)
  have hl : s.length = s.cps.toList.length := by rw [Array.length_toList]; rfl
  have l1 : preV.length = 9 := rfl
  refine occ_three hv a1 a2 a3 ?_
  rw [hl, e]
  simp only [List.length_append, l1]
  omega
theorem cnt_three (x : PyData) : 3 ≤ Txt.count (PyData.shown (.tuple [.str "void", .tuple [.str "void", .tuple [.str "void", x]]])) "void" := by
  have e1 := shown_void (.tuple [.str "void", .tuple [.str "void", x]])
  have e2 := shown_void (.tuple [.str "void", x])
  have e3 := shown_void x
  rw [e3] at e2
  rw [e2] at e1
  refine cnt_pre (r := x.shown.cps.toList ++ [41] ++ [41] ++ [41]) ?_
  rw [e1]
  simp only [List.append_assoc]
theorem cnt_vd {t : Bt} {n : Nat} (hn : n ≤ 3) (h : Txt.count (dat (vdN n t.v)).shown "void" < 3) : n < 3 := by
  by_cases z : n = 3
  · subst z
    have := cnt_three (dat t.v)
    have e : dat (vdN 3 t.v) = .tuple [.str "void", .tuple [.str "void", .tuple [.str "void", dat t.v]]] := by simp only [vdN, dat, dats]
    rw [e] at h
    omega
  · omega
end Bh
end
section
set_option Elab.async false
set_option linter.all false
set_option maxRecDepth 100000
set_option maxHeartbeats 0
namespace Bh
open PySem MP
def ch (c : Nat) : Str := ⟨#[c]⟩
theorem at_mem {α : Type} {xs : List α} {r : Int} (h0 : 0 ≤ r) (h1 : r < xs.length) : ∃ y ∈ xs, atI xs r = some y := by
  obtain ⟨j, rfl⟩ := Int.eq_ofNat_of_zero_le h0
  have hj : j < xs.length := by omega
  exact ⟨xs[j], List.getElem_mem hj, at_nat (List.getElem?_eq_getElem hj)⟩
theorem str_pick {S : List Int} {M : Mem} {z : Str} {r : Int} (hz : z.length ≤ sizeLine) (h0 : 0 ≤ r) (h1 : r < z.length) : ∃ c ∈ z.cps.toList, subW (Gp S) (.str z) (.int r) M = .ok (.str (ch c)) M := by
  have hl : z.cps.toList.length = z.length := by rw [Array.length_toList]; rfl
  obtain ⟨c, hc, e⟩ := at_mem (xs := z.cps.toList) h0 (by rw [hl]; exact h1)
  refine ⟨c, hc, ?_⟩
  simp only [subW, if_pos hz, e, Option.map_some, Out.ofO]
  rfl
theorem okS_ch {c : Nat} (h : c < 128) : okS (ch c) = true := by
  unfold okS ch PyData.strOk
  rw [Bool.and_eq_true]
  refine ⟨?_, decide_eq_true (show 1 ≤ 8 by omega)⟩
  simp
  omega
theorem okI_of {i : Int} (h0 : 0 ≤ i) (h1 : i < 10000000) : okI i = true := by
  unfold okI
  rw [decide_eq_true h0, decide_eq_true h1]
  rfl
def OW (o : Str) : Prop := o = ("o" : Str) ∨ o = ("w" : Str)
def XB (t : Bt) : Prop := (t.w = ("dam" : Str) → ∃ p room part, t.xs = [.str p, .int room, .int part] ∧ part ≤ 1000 ∧ p = ("b" : Str)) ∧ (t.w = ("release" : Str) → ∃ p o c n, t.xs = [.str p, .str o, .str (ch c), .int n] ∧ c ≠ 45 ∧ p = ("b" : Str) ∧ OW o) ∧ (t.w = ("share" : Str) → ∃ p o n, t.xs = [.str p, .str o, .int n] ∧ p = ("b" : Str) ∧ OW o)
theorem ow_ch {c : Nat} (h : c ∈ ("ow" : Str).cps.toList) : OW (ch c) := by
  have e : ("ow" : Str).cps.toList = [111, 119] := by decide +kernel
  rw [e] at h
  simp only [List.mem_cons, List.not_mem_nil, or_false] at h
  rcases h with rfl | rfl
  · exact .inl (by decide +kernel)
  · exact .inr (by decide +kernel)
def GB (t : Bt) : Prop := BKb t ∧ XB t
theorem gb_of {w : Str} {d : Int} {xs : List Wv} {s : List Bool} (hd : okI d = true) (hs : (w, s) ∈ sigT) (hm : sigM s xs = true) (h1 : ¬ w = ("dam" : Str)) (h2 : ¬ w = ("release" : Str)) (h3 : ¬ w = ("share" : Str) := by decide +kernel) : GB ⟨w, d, xs⟩ :=
  ⟨⟨hd, s, hs, hm⟩, ⟨fun e => absurd e h1, fun e => absurd e h2, fun e => absurd e h3⟩⟩
theorem law_day_ok (S : List Int) (hl : S.length ≤ 63) (k : Nat) (i : Int) (hi : 0 ≤ i) (M : Mem) :
    (callN (Gp S) fuel (k + 2) ix__law_day [.scr, .int i] M).sat fun v M' => M <+: M' ∧ ∃ r : Int, v = .int r ∧ 0 ≤ r ∧ r < 31 := by
  rw [at__law_day]
  refine run_sat rfl ?_
  show (evSl (Gp S) _ _ fuel sl__law_day [some .scr, some (.int i)] M).sat _
  unfold sl__law_day
  simp only [q_nil, q_cons, k_nx, k_ret, k_brk, k_ct, q_asg, q_asgA, q_asgS, q_aug, q_ex, q_ret, q_retN, q_pass, q_brk, q_cont, q_ifs, q_for, q_whl, b_t, b_f, be_t, be_f, ba_t, ba_f, bo_t, bo_f, t_bl, t_int, t_non,     q_var, q_con, q_glb, q_tup, q_lst, q_dict0, q_bin, q_neg, q_not, q_and, q_or, q_ife, q_cmp, q_cmp2, q_attr, q_sub, q_srev, q_call, q_callk, q_meth, q_bm, q_new, q_bi, q_isi, q_lc, q_lc2, q_dc, q_sortk, q_sortv, q_sortvM, q_maxk, q_sortm, q_dict2, q_anil, q_acons, q_ival, q_items, q_vals, q_rng, q_zip, q_cntT, q_tab, q_tnin, q_zipT,     o_add, o_sub, o_mul, o_fdiv, o_mod, o_pow18, o_addT, ag_add, ag_sub, c_lt, c_gt, c_le, c_ge, c_eq, c_ne, c_is, c_isn, c_in, c_nin, u_tup, u_scr, n_scr, n_tup, n_str, n_abs, n_min2, n_min3, n_max2, tg_nm, tg_2, tg_3, at_0, at_1, at_2, at_3, at_4, i_int, sat_some, getV_0, getV_s,     List.set_cons_zero, List.set_cons_succ, List.map_cons, List.map_nil, List.replicate_succ, List.replicate_zero, List.cons_append, List.nil_append, List.length_cons, List.length_nil]
  exact drawn_ok S hl k i 31 hi (by omega) M
theorem law_place_ok (S : List Int) (hl : S.length ≤ 63) (k : Nat) (i : Int) (hi : 0 ≤ i) (M : Mem) :
    (callN (Gp S) fuel (k + 2) ix__law_place [.scr, .int i] M).sat fun v M' => M <+: M' ∧ ∃ c, v = .str (ch c) ∧ c < 128 := by
  rw [at__law_place]
  refine run_sat rfl ?_
  show (evSl (Gp S) _ _ fuel sl__law_place [some .scr, some (.int i)] M).sat _
  unfold sl__law_place
  simp only [q_nil, q_cons, k_nx, k_ret, k_brk, k_ct, q_asg, q_asgA, q_asgS, q_aug, q_ex, q_ret, q_retN, q_pass, q_brk, q_cont, q_ifs, q_for, q_whl, b_t, b_f, be_t, be_f, ba_t, ba_f, bo_t, bo_f, t_bl, t_int, t_non,     q_var, q_con, q_glb, q_tup, q_lst, q_dict0, q_bin, q_neg, q_not, q_and, q_or, q_ife, q_cmp, q_cmp2, q_attr, q_sub, q_srev, q_call, q_callk, q_meth, q_bm, q_new, q_bi, q_isi, q_lc, q_lc2, q_dc, q_sortk, q_sortv, q_sortvM, q_maxk, q_sortm, q_dict2, q_anil, q_acons, q_ival, q_items, q_vals, q_rng, q_zip, q_cntT, q_tab, q_tnin, q_zipT,     o_add, o_sub, o_mul, o_fdiv, o_mod, o_pow18, o_addT, ag_add, ag_sub, c_lt, c_gt, c_le, c_ge, c_eq, c_ne, c_is, c_isn, c_in, c_nin, u_tup, u_scr, n_scr, n_tup, n_str, n_abs, n_min2, n_min3, n_max2, tg_nm, tg_2, tg_3, at_0, at_1, at_2, at_3, at_4, i_int, sat_some, getV_0, getV_s,     List.set_cons_zero, List.set_cons_succ, List.map_cons, List.map_nil, List.replicate_succ, List.replicate_zero, List.cons_append, List.nil_append, List.length_cons, List.length_nil]
  refine sat_mono (drawn_ok S hl k i 4 hi (by omega) M) fun v M' ⟨p, r, hv, h0, h1⟩ => ?_
  subst hv
  obtain ⟨c, hc, e⟩ := str_pick (S := S) (M := M') (z := "abcd") (by decide +kernel) h0 (by rw [show (("abcd" : Str).length : Int) = 4 by decide +kernel]; exact h1)
  refine sat_of e ⟨p, c, rfl, ?_⟩
  have : ∀ c ∈ ("abcd" : Str).cps.toList, c < 128 := by decide +kernel
  exact this c hc
theorem sig_right : (("right" : Str), [true, true, true, false, false, false, false, false, false, true, false]) ∈ sigT := by decide +kernel
theorem law_right_ok (S : List Int) (hl : S.length ≤ 63) (k : Nat) (i day : Int) (hi : 0 ≤ i) (hd : okI day = true) (M : Mem) :
    (callN (Gp S) fuel (k + 3) ix__law_right [.scr, .int i, .int day] M).sat fun v M' => M <+: M' ∧ ∃ t, v = t.v ∧ GB t := by
  rw [at__law_right]
  refine run_sat rfl ?_
  show (evSl (Gp S) _ _ fuel sl__law_right [some .scr, some (.int i), some (.int day), none, none, none, none, none, none, none, none] M).sat _
  unfold sl__law_right
  simp only [q_nil, q_cons, k_nx, k_ret, k_brk, k_ct, q_asg, q_asgA, q_asgS, q_aug, q_ex, q_ret, q_retN, q_pass, q_brk, q_cont, q_ifs, q_for, q_whl, b_t, b_f, be_t, be_f, ba_t, ba_f, bo_t, bo_f, t_bl, t_int, t_non,     q_var, q_con, q_glb, q_tup, q_lst, q_dict0, q_bin, q_neg, q_not, q_and, q_or, q_ife, q_cmp, q_cmp2, q_attr, q_sub, q_srev, q_call, q_callk, q_meth, q_bm, q_new, q_bi, q_isi, q_lc, q_lc2, q_dc, q_sortk, q_sortv, q_sortvM, q_maxk, q_sortm, q_dict2, q_anil, q_acons, q_ival, q_items, q_vals, q_rng, q_zip, q_cntT, q_tab, q_tnin, q_zipT,     o_add, o_sub, o_mul, o_fdiv, o_mod, o_pow18, o_addT, ag_add, ag_sub, c_lt, c_gt, c_le, c_ge, c_eq, c_ne, c_is, c_isn, c_in, c_nin, u_tup, u_scr, n_scr, n_tup, n_str, n_abs, n_min2, n_min3, n_max2, tg_nm, tg_2, tg_3, at_0, at_1, at_2, at_3, at_4, i_int, sat_some, getV_0, getV_s,     List.set_cons_zero, List.set_cons_succ, List.map_cons, List.map_nil, List.replicate_succ, List.replicate_zero, List.cons_append, List.nil_append, List.length_cons, List.length_nil]
  refine sat_mono (drawn_ok S hl (k + 1) i 4 hi (by omega) M) fun v A ⟨pA, r, hv, a0, a1⟩ => ?_
  subst hv
  obtain ⟨c1, hc1, e1⟩ := str_pick (S := S) (M := A) (z := "rstv") (by decide +kernel) a0 (by rw [show (("rstv" : Str).length : Int) = 4 by decide +kernel]; exact a1)
  refine sat_of e1 ?_
  try simp only [q_nil, q_cons, k_nx, k_ret, k_brk, k_ct, q_asg, q_asgA, q_asgS, q_aug, q_ex, q_ret, q_retN, q_pass, q_brk, q_cont, q_ifs, q_for, q_whl, b_t, b_f, be_t, be_f, ba_t, ba_f, bo_t, bo_f, t_bl, t_int, t_non,     q_var, q_con, q_glb, q_tup, q_lst, q_dict0, q_bin, q_neg, q_not, q_and, q_or, q_ife, q_cmp, q_cmp2, q_attr, q_sub, q_srev, q_call, q_callk, q_meth, q_bm, q_new, q_bi, q_isi, q_lc, q_lc2, q_dc, q_sortk, q_sortv, q_sortvM, q_maxk, q_sortm, q_dict2, q_anil, q_acons, q_ival, q_items, q_vals, q_rng, q_zip, q_cntT, q_tab, q_tnin, q_zipT,     o_add, o_sub, o_mul, o_fdiv, o_mod, o_pow18, o_addT, ag_add, ag_sub, c_lt, c_gt, c_le, c_ge, c_eq, c_ne, c_is, c_isn, c_in, c_nin, u_tup, u_scr, n_scr, n_tup, n_str, n_abs, n_min2, n_min3, n_max2, tg_nm, tg_2, tg_3, at_0, at_1, at_2, at_3, at_4, i_int, sat_some, getV_0, getV_s,     List.set_cons_zero, List.set_cons_succ, List.map_cons, List.map_nil, List.replicate_succ, List.replicate_zero, List.cons_append, List.nil_append, List.length_cons, List.length_nil]
  refine sat_mono (law_place_ok S hl k (i + 1) (by omega) A) fun v B ⟨pB, c2, hv, hc2⟩ => ?_
  subst hv
  refine ⟨len_ok (by decide), ?_⟩
  try simp only [q_nil, q_cons, k_nx, k_ret, k_brk, k_ct, q_asg, q_asgA, q_asgS, q_aug, q_ex, q_ret, q_retN, q_pass, q_brk, q_cont, q_ifs, q_for, q_whl, b_t, b_f, be_t, be_f, ba_t, ba_f, bo_t, bo_f, t_bl, t_int, t_non,     q_var, q_con, q_glb, q_tup, q_lst, q_dict0, q_bin, q_neg, q_not, q_and, q_or, q_ife, q_cmp, q_cmp2, q_attr, q_sub, q_srev, q_call, q_callk, q_meth, q_bm, q_new, q_bi, q_isi, q_lc, q_lc2, q_dc, q_sortk, q_sortv, q_sortvM, q_maxk, q_sortm, q_dict2, q_anil, q_acons, q_ival, q_items, q_vals, q_rng, q_zip, q_cntT, q_tab, q_tnin, q_zipT,     o_add, o_sub, o_mul, o_fdiv, o_mod, o_pow18, o_addT, ag_add, ag_sub, c_lt, c_gt, c_le, c_ge, c_eq, c_ne, c_is, c_isn, c_in, c_nin, u_tup, u_scr, n_scr, n_tup, n_str, n_abs, n_min2, n_min3, n_max2, tg_nm, tg_2, tg_3, at_0, at_1, at_2, at_3, at_4, i_int, sat_some, getV_0, getV_s,     List.set_cons_zero, List.set_cons_succ, List.map_cons, List.map_nil, List.replicate_succ, List.replicate_zero, List.cons_append, List.nil_append, List.length_cons, List.length_nil]
  refine sat_mono (drawn_ok S hl (k + 1) (i + 2) 2 (by omega) (by omega) B) fun v C ⟨pC, r, hv, b0, b1⟩ => ?_
  subst hv
  obtain ⟨c3, hc3, e3⟩ := str_pick (S := S) (M := C) (z := "ow") (by decide +kernel) b0 (by rw [show (("ow" : Str).length : Int) = 2 by decide +kernel]; exact b1)
  refine sat_of e3 ?_
  try simp only [q_nil, q_cons, k_nx, k_ret, k_brk, k_ct, q_asg, q_asgA, q_asgS, q_aug, q_ex, q_ret, q_retN, q_pass, q_brk, q_cont, q_ifs, q_for, q_whl, b_t, b_f, be_t, be_f, ba_t, ba_f, bo_t, bo_f, t_bl, t_int, t_non,     q_var, q_con, q_glb, q_tup, q_lst, q_dict0, q_bin, q_neg, q_not, q_and, q_or, q_ife, q_cmp, q_cmp2, q_attr, q_sub, q_srev, q_call, q_callk, q_meth, q_bm, q_new, q_bi, q_isi, q_lc, q_lc2, q_dc, q_sortk, q_sortv, q_sortvM, q_maxk, q_sortm, q_dict2, q_anil, q_acons, q_ival, q_items, q_vals, q_rng, q_zip, q_cntT, q_tab, q_tnin, q_zipT,     o_add, o_sub, o_mul, o_fdiv, o_mod, o_pow18, o_addT, ag_add, ag_sub, c_lt, c_gt, c_le, c_ge, c_eq, c_ne, c_is, c_isn, c_in, c_nin, u_tup, u_scr, n_scr, n_tup, n_str, n_abs, n_min2, n_min3, n_max2, tg_nm, tg_2, tg_3, at_0, at_1, at_2, at_3, at_4, i_int, sat_some, getV_0, getV_s,     List.set_cons_zero, List.set_cons_succ, List.map_cons, List.map_nil, List.replicate_succ, List.replicate_zero, List.cons_append, List.nil_append, List.length_cons, List.length_nil]
  refine ⟨len_ok (by decide), ?_⟩
  refine sat_mono (drawn_ok S hl (k + 1) (i + 3) 4 (by omega) (by omega) _) fun v D ⟨pD, r, hv, d0, d1⟩ => ?_
  subst hv
  obtain ⟨y4, hy4, e4⟩ := at_mem (xs := [Wv.int 3, .int 10, .int 40, .int 9999]) d0 d1
  refine sat_of (sub_lst (pre_get pD (at_new ..)) e4) ?_
  try simp only [q_nil, q_cons, k_nx, k_ret, k_brk, k_ct, q_asg, q_asgA, q_asgS, q_aug, q_ex, q_ret, q_retN, q_pass, q_brk, q_cont, q_ifs, q_for, q_whl, b_t, b_f, be_t, be_f, ba_t, ba_f, bo_t, bo_f, t_bl, t_int, t_non,     q_var, q_con, q_glb, q_tup, q_lst, q_dict0, q_bin, q_neg, q_not, q_and, q_or, q_ife, q_cmp, q_cmp2, q_attr, q_sub, q_srev, q_call, q_callk, q_meth, q_bm, q_new, q_bi, q_isi, q_lc, q_lc2, q_dc, q_sortk, q_sortv, q_sortvM, q_maxk, q_sortm, q_dict2, q_anil, q_acons, q_ival, q_items, q_vals, q_rng, q_zip, q_cntT, q_tab, q_tnin, q_zipT,     o_add, o_sub, o_mul, o_fdiv, o_mod, o_pow18, o_addT, ag_add, ag_sub, c_lt, c_gt, c_le, c_ge, c_eq, c_ne, c_is, c_isn, c_in, c_nin, u_tup, u_scr, n_scr, n_tup, n_str, n_abs, n_min2, n_min3, n_max2, tg_nm, tg_2, tg_3, at_0, at_1, at_2, at_3, at_4, i_int, sat_some, getV_0, getV_s,     List.set_cons_zero, List.set_cons_succ, List.map_cons, List.map_nil, List.replicate_succ, List.replicate_zero, List.cons_append, List.nil_append, List.length_cons, List.length_nil]
  refine ⟨len_ok (by decide), ?_⟩
  refine sat_mono (drawn_ok S hl (k + 1) (i + 4) 3 (by omega) (by omega) _) fun v E ⟨pE, r, hv, d0, d1⟩ => ?_
  subst hv
  obtain ⟨y5, hy5, e5⟩ := at_mem (xs := [Wv.int 5, .int 60, .int 999999]) d0 d1
  refine sat_of (sub_lst (pre_get pE (at_new ..)) e5) ?_
  refine ⟨len_ok (by decide), ?_⟩
  try simp only [q_nil, q_cons, k_nx, k_ret, k_brk, k_ct, q_asg, q_asgA, q_asgS, q_aug, q_ex, q_ret, q_retN, q_pass, q_brk, q_cont, q_ifs, q_for, q_whl, b_t, b_f, be_t, be_f, ba_t, ba_f, bo_t, bo_f, t_bl, t_int, t_non,     q_var, q_con, q_glb, q_tup, q_lst, q_dict0, q_bin, q_neg, q_not, q_and, q_or, q_ife, q_cmp, q_cmp2, q_attr, q_sub, q_srev, q_call, q_callk, q_meth, q_bm, q_new, q_bi, q_isi, q_lc, q_lc2, q_dc, q_sortk, q_sortv, q_sortvM, q_maxk, q_sortm, q_dict2, q_anil, q_acons, q_ival, q_items, q_vals, q_rng, q_zip, q_cntT, q_tab, q_tnin, q_zipT,     o_add, o_sub, o_mul, o_fdiv, o_mod, o_pow18, o_addT, ag_add, ag_sub, c_lt, c_gt, c_le, c_ge, c_eq, c_ne, c_is, c_isn, c_in, c_nin, u_tup, u_scr, n_scr, n_tup, n_str, n_abs, n_min2, n_min3, n_max2, tg_nm, tg_2, tg_3, at_0, at_1, at_2, at_3, at_4, i_int, sat_some, getV_0, getV_s,     List.set_cons_zero, List.set_cons_succ, List.map_cons, List.map_nil, List.replicate_succ, List.replicate_zero, List.cons_append, List.nil_append, List.length_cons, List.length_nil]
  refine ⟨len_ok (by decide), len_ok (by decide), len_ok (by decide), len_ok (by decide), ?_⟩
  refine sat_mono (drawn_ok S hl (k + 1) (i + 5) 3 (by omega) (by omega) _) fun v F ⟨pF, r, hv, d0, d1⟩ => ?_
  subst hv
  obtain ⟨y6, hy6, e6⟩ := at_mem (xs := [Wv.tup [.int 0, .int 364], .tup [.int 5, .int 20], .tup [.int 300, .int 12]]) d0 d1
  refine sat_of (sub_lst (pre_get pF (at_new ..)) e6) ?_
  obtain ⟨f, l, rfl, hf, hll⟩ : ∃ f l : Int, y6 = .tup [.int f, .int l] ∧ okI f = true ∧ okI l = true := by
    simp only [List.mem_cons, List.not_mem_nil, or_false] at hy6
    rcases hy6 with rfl | rfl | rfl <;> exact ⟨_, _, rfl, by decide, by decide⟩
  try simp only [q_nil, q_cons, k_nx, k_ret, k_brk, k_ct, q_asg, q_asgA, q_asgS, q_aug, q_ex, q_ret, q_retN, q_pass, q_brk, q_cont, q_ifs, q_for, q_whl, b_t, b_f, be_t, be_f, ba_t, ba_f, bo_t, bo_f, t_bl, t_int, t_non,     q_var, q_con, q_glb, q_tup, q_lst, q_dict0, q_bin, q_neg, q_not, q_and, q_or, q_ife, q_cmp, q_cmp2, q_attr, q_sub, q_srev, q_call, q_callk, q_meth, q_bm, q_new, q_bi, q_isi, q_lc, q_lc2, q_dc, q_sortk, q_sortv, q_sortvM, q_maxk, q_sortm, q_dict2, q_anil, q_acons, q_ival, q_items, q_vals, q_rng, q_zip, q_cntT, q_tab, q_tnin, q_zipT,     o_add, o_sub, o_mul, o_fdiv, o_mod, o_pow18, o_addT, ag_add, ag_sub, c_lt, c_gt, c_le, c_ge, c_eq, c_ne, c_is, c_isn, c_in, c_nin, u_tup, u_scr, n_scr, n_tup, n_str, n_abs, n_min2, n_min3, n_max2, tg_nm, tg_2, tg_3, at_0, at_1, at_2, at_3, at_4, i_int, sat_some, getV_0, getV_s,     List.set_cons_zero, List.set_cons_succ, List.map_cons, List.map_nil, List.replicate_succ, List.replicate_zero, List.cons_append, List.nil_append, List.length_cons, List.length_nil]
  refine ⟨len_ok (by decide), len_ok (by decide), len_ok (by decide), len_ok (by decide), ?_⟩
  refine sat_mono (drawn_ok S hl (k + 1) (i + 6) 3 (by omega) (by omega) _) fun v G ⟨pG, r, hv, d0, d1⟩ => ?_
  subst hv
  obtain ⟨y7, hy7, e7⟩ := at_mem (xs := [Wv.tup [.int 0, .str "-", .int 0], .tup [.int 500, .str "c", .int 2], .tup [.int 300, .str "b", .int 0]]) d0 d1
  refine sat_of (sub_lst (pre_get pG (at_new ..)) e7) ?_
  obtain ⟨x1, x2, x3, rfl, hx1, hx2, hx3⟩ : ∃ (x1 : Int) (x2 : Str) (x3 : Int), y7 = .tup [.int x1, .str x2, .int x3] ∧ okI x1 = true ∧ okS x2 = true ∧ okI x3 = true := by
    simp only [List.mem_cons, List.not_mem_nil, or_false] at hy7
    rcases hy7 with rfl | rfl | rfl <;> exact ⟨_, _, _, rfl, by decide, by decide +kernel, by decide⟩
  try simp only [q_nil, q_cons, k_nx, k_ret, k_brk, k_ct, q_asg, q_asgA, q_asgS, q_aug, q_ex, q_ret, q_retN, q_pass, q_brk, q_cont, q_ifs, q_for, q_whl, b_t, b_f, be_t, be_f, ba_t, ba_f, bo_t, bo_f, t_bl, t_int, t_non,     q_var, q_con, q_glb, q_tup, q_lst, q_dict0, q_bin, q_neg, q_not, q_and, q_or, q_ife, q_cmp, q_cmp2, q_attr, q_sub, q_srev, q_call, q_callk, q_meth, q_bm, q_new, q_bi, q_isi, q_lc, q_lc2, q_dc, q_sortk, q_sortv, q_sortvM, q_maxk, q_sortm, q_dict2, q_anil, q_acons, q_ival, q_items, q_vals, q_rng, q_zip, q_cntT, q_tab, q_tnin, q_zipT,     o_add, o_sub, o_mul, o_fdiv, o_mod, o_pow18, o_addT, ag_add, ag_sub, c_lt, c_gt, c_le, c_ge, c_eq, c_ne, c_is, c_isn, c_in, c_nin, u_tup, u_scr, n_scr, n_tup, n_str, n_abs, n_min2, n_min3, n_max2, tg_nm, tg_2, tg_3, at_0, at_1, at_2, at_3, at_4, i_int, sat_some, getV_0, getV_s,     List.set_cons_zero, List.set_cons_succ, List.map_cons, List.map_nil, List.replicate_succ, List.replicate_zero, List.cons_append, List.nil_append, List.length_cons, List.length_nil]
  refine sat_mono (drawn_ok S hl (k + 1) (i + 7) 5 (by omega) (by omega) _) fun v J ⟨pJ, r, hv, d0, d1⟩ => ?_
  subst hv
  obtain ⟨q4, rfl, hq4⟩ : ∃ q : Int, y4 = .int q ∧ okI q = true := by
    simp only [List.mem_cons, List.not_mem_nil, or_false] at hy4
    rcases hy4 with rfl | rfl | rfl | rfl <;> exact ⟨_, rfl, by decide⟩
  obtain ⟨q5, rfl, hq5⟩ : ∃ q : Int, y5 = .int q ∧ okI q = true := by
    simp only [List.mem_cons, List.not_mem_nil, or_false] at hy5
    rcases hy5 with rfl | rfl | rfl <;> exact ⟨_, rfl, by decide⟩
  try simp only [q_nil, q_cons, k_nx, k_ret, k_brk, k_ct, q_asg, q_asgA, q_asgS, q_aug, q_ex, q_ret, q_retN, q_pass, q_brk, q_cont, q_ifs, q_for, q_whl, b_t, b_f, be_t, be_f, ba_t, ba_f, bo_t, bo_f, t_bl, t_int, t_non,     q_var, q_con, q_glb, q_tup, q_lst, q_dict0, q_bin, q_neg, q_not, q_and, q_or, q_ife, q_cmp, q_cmp2, q_attr, q_sub, q_srev, q_call, q_callk, q_meth, q_bm, q_new, q_bi, q_isi, q_lc, q_lc2, q_dc, q_sortk, q_sortv, q_sortvM, q_maxk, q_sortm, q_dict2, q_anil, q_acons, q_ival, q_items, q_vals, q_rng, q_zip, q_cntT, q_tab, q_tnin, q_zipT,     o_add, o_sub, o_mul, o_fdiv, o_mod, o_pow18, o_addT, ag_add, ag_sub, c_lt, c_gt, c_le, c_ge, c_eq, c_ne, c_is, c_isn, c_in, c_nin, u_tup, u_scr, n_scr, n_tup, n_str, n_abs, n_min2, n_min3, n_max2, tg_nm, tg_2, tg_3, at_0, at_1, at_2, at_3, at_4, i_int, sat_some, getV_0, getV_s,     List.set_cons_zero, List.set_cons_succ, List.map_cons, List.map_nil, List.replicate_succ, List.replicate_zero, List.cons_append, List.nil_append, List.length_cons, List.length_nil]
  refine ⟨len_ok (by decide), len_ok (by decide), ?_, ⟨"right", day, [.str (ch c1), .str (ch c2), .str (ch c3), .int (1 + r), .int q4, .int q5, .int f, .int l, .int x1, .str x2, .int x3]⟩, rfl, gb_of hd sig_right ?_ (by decide +kernel) (by decide +kernel)⟩
  · refine pA.trans (pB.trans (pC.trans ?_))
    refine (List.prefix_append _ _).trans (pD.trans ?_)
    refine (List.prefix_append _ _).trans (pE.trans ?_)
    refine (List.prefix_append _ _).trans (pF.trans ?_)
    exact (List.prefix_append _ _).trans (pG.trans pJ)
  · have hc1' : ∀ c ∈ ("rstv" : Str).cps.toList, c < 128 := by decide +kernel
    have hc3' : ∀ c ∈ ("ow" : Str).cps.toList, c < 128 := by decide +kernel
    simp only [sigM, okS_ch (hc1' c1 hc1), okS_ch hc2, okS_ch (hc3' c3 hc3), okI_of (show 0 ≤ 1 + r by omega) (by omega), hq4, hq5, hf, hll, hx1, hx2, hx3, Bool.and_self]
end Bh
end
section
set_option Elab.async false
set_option linter.all false
set_option maxRecDepth 100000
set_option maxHeartbeats 0
namespace Bh
open PySem MP
theorem rng_eq (a b : Int) (n : Nat) (h : b = a + n) : rngW a b = (List.range n).map fun (k : Nat) => Wv.int (a + (k : Int)) := by
  unfold rngW
  have : (b - a).toNat = n := by omega
  rw [this]
theorem rng10 {a b : Int} (h1 : -1000000 ≤ a) (h2 : a ≤ 1000000) (h3 : -1000000 ≤ b) (h4 : b ≤ 1000000) : (rngOk a && rngOk b) = true := by
  unfold rngOk
  rw [decide_eq_true (by omega), decide_eq_true (by omega), decide_eq_true (by omega), decide_eq_true (by omega)]
  rfl
theorem sig_read : (("read" : Str), [true, false]) ∈ sigT := by decide +kernel
theorem sig_ask : (("ask" : Str), [true, false]) ∈ sigT := by decide +kernel
theorem sig_store : (("store" : Str), [true]) ∈ sigT := by decide +kernel
theorem sig_release : (("release" : Str), [true, true, true, false]) ∈ sigT := by decide +kernel
theorem sig_sold : (("sold" : Str), [true, true]) ∈ sigT := by decide +kernel
theorem sig_leased : (("leased" : Str), [true, true, false]) ∈ sigT := by decide +kernel
theorem sig_moved : (("moved" : Str), [true, true]) ∈ sigT := by decide +kernel
theorem sig_share : (("share" : Str), [true, true, false]) ∈ sigT := by decide +kernel
theorem sig_dam : (("dam" : Str), [true, false, false]) ∈ sigT := by decide +kernel
theorem sig_place : (("place" : Str), [true, true, false, false]) ∈ sigT := by decide +kernel
theorem b_ok : okS "b" = true := by decide +kernel
theorem law_truth_ok (S : List Int) (hl : S.length ≤ 63) (k : Nat) (i : Int) (hi : 0 ≤ i) (M : Mem) :
    (callN (Gp S) fuel (k + 3) ix__law_truth [.scr, .int i] M).sat fun v M' => M <+: M' ∧ ∃ t, v = t.v ∧ GB t := by
  have hr128 : ∀ c ∈ ("rstv" : Str).cps.toList, c < 128 ∧ c ≠ 45 := by decide +kernel
  have how : ∀ c ∈ ("ow" : Str).cps.toList, c < 128 := by decide +kernel
  have hxy : ∀ c ∈ ("xy" : Str).cps.toList, c < 128 := by decide +kernel
  rw [at__law_truth]
  refine run_sat rfl ?_
  show (evSl (Gp S) _ _ fuel sl__law_truth [some .scr, some (.int i), none, none, none, none, none, none, none] M).sat _
  unfold sl__law_truth
  simp only [q_nil, q_cons, k_nx, k_ret, k_brk, k_ct, q_asg, q_asgA, q_asgS, q_aug, q_ex, q_ret, q_retN, q_pass, q_brk, q_cont, q_ifs, q_for, q_whl, b_t, b_f, be_t, be_f, ba_t, ba_f, bo_t, bo_f, t_bl, t_int, t_non,     q_var, q_con, q_glb, q_tup, q_lst, q_dict0, q_bin, q_neg, q_not, q_and, q_or, q_ife, q_cmp, q_cmp2, q_attr, q_sub, q_srev, q_call, q_callk, q_meth, q_bm, q_new, q_bi, q_isi, q_lc, q_lc2, q_dc, q_sortk, q_sortv, q_sortvM, q_maxk, q_sortm, q_dict2, q_anil, q_acons, q_ival, q_items, q_vals, q_rng, q_zip, q_cntT, q_tab, q_tnin, q_zipT,     o_add, o_sub, o_mul, o_fdiv, o_mod, o_pow18, o_addT, ag_add, ag_sub, c_lt, c_gt, c_le, c_ge, c_eq, c_ne, c_is, c_isn, c_in, c_nin, u_tup, u_scr, n_scr, n_tup, n_str, n_abs, n_min2, n_min3, n_max2, tg_nm, tg_2, tg_3, at_0, at_1, at_2, at_3, at_4, i_int, sat_some, getV_0, getV_s,     List.set_cons_zero, List.set_cons_succ, List.map_cons, List.map_nil, List.replicate_succ, List.replicate_zero, List.cons_append, List.nil_append, List.length_cons, List.length_nil]
  refine sat_mono (law_day_ok S hl k i hi M) fun v A ⟨pA, day, hv, a0, a1⟩ => ?_
  subst hv
  have hd : okI day = true := okI_of a0 (by omega)
  try simp only [q_nil, q_cons, k_nx, k_ret, k_brk, k_ct, q_asg, q_asgA, q_asgS, q_aug, q_ex, q_ret, q_retN, q_pass, q_brk, q_cont, q_ifs, q_for, q_whl, b_t, b_f, be_t, be_f, ba_t, ba_f, bo_t, bo_f, t_bl, t_int, t_non,     q_var, q_con, q_glb, q_tup, q_lst, q_dict0, q_bin, q_neg, q_not, q_and, q_or, q_ife, q_cmp, q_cmp2, q_attr, q_sub, q_srev, q_call, q_callk, q_meth, q_bm, q_new, q_bi, q_isi, q_lc, q_lc2, q_dc, q_sortk, q_sortv, q_sortvM, q_maxk, q_sortm, q_dict2, q_anil, q_acons, q_ival, q_items, q_vals, q_rng, q_zip, q_cntT, q_tab, q_tnin, q_zipT,     o_add, o_sub, o_mul, o_fdiv, o_mod, o_pow18, o_addT, ag_add, ag_sub, c_lt, c_gt, c_le, c_ge, c_eq, c_ne, c_is, c_isn, c_in, c_nin, u_tup, u_scr, n_scr, n_tup, n_str, n_abs, n_min2, n_min3, n_max2, tg_nm, tg_2, tg_3, at_0, at_1, at_2, at_3, at_4, i_int, sat_some, getV_0, getV_s,     List.set_cons_zero, List.set_cons_succ, List.map_cons, List.map_nil, List.replicate_succ, List.replicate_zero, List.cons_append, List.nil_append, List.length_cons, List.length_nil]
  refine sat_mono (drawn_ok S hl (k + 1) (i + 1) 16 (by omega) (by omega) A) fun v B ⟨pB, way, hv, w0, w1⟩ => ?_
  subst hv
  refine ⟨len_ok (by decide), ?_⟩
  try simp only [q_nil, q_cons, k_nx, k_ret, k_brk, k_ct, q_asg, q_asgA, q_asgS, q_aug, q_ex, q_ret, q_retN, q_pass, q_brk, q_cont, q_ifs, q_for, q_whl, b_t, b_f, be_t, be_f, ba_t, ba_f, bo_t, bo_f, t_bl, t_int, t_non,     q_var, q_con, q_glb, q_tup, q_lst, q_dict0, q_bin, q_neg, q_not, q_and, q_or, q_ife, q_cmp, q_cmp2, q_attr, q_sub, q_srev, q_call, q_callk, q_meth, q_bm, q_new, q_bi, q_isi, q_lc, q_lc2, q_dc, q_sortk, q_sortv, q_sortvM, q_maxk, q_sortm, q_dict2, q_anil, q_acons, q_ival, q_items, q_vals, q_rng, q_zip, q_cntT, q_tab, q_tnin, q_zipT,     o_add, o_sub, o_mul, o_fdiv, o_mod, o_pow18, o_addT, ag_add, ag_sub, c_lt, c_gt, c_le, c_ge, c_eq, c_ne, c_is, c_isn, c_in, c_nin, u_tup, u_scr, n_scr, n_tup, n_str, n_abs, n_min2, n_min3, n_max2, tg_nm, tg_2, tg_3, at_0, at_1, at_2, at_3, at_4, i_int, sat_some, getV_0, getV_s,     List.set_cons_zero, List.set_cons_succ, List.map_cons, List.map_nil, List.replicate_succ, List.replicate_zero, List.cons_append, List.nil_append, List.length_cons, List.length_nil]
  refine ⟨len_ok (by decide), ?_⟩
  refine sat_mono (drawn_ok S hl (k + 1) (i + 2) 4 (by omega) (by omega) _) fun v C ⟨pC, r, hv, d0, d1⟩ => ?_
  subst hv
  obtain ⟨y4, hy4, e4⟩ := at_mem (xs := [Wv.int 0, .int 4, .int 12, .int 50]) d0 d1
  refine sat_of (sub_lst (pre_get pC (at_new ..)) e4) ?_
  obtain ⟨am, rfl, ham⟩ : ∃ q : Int, y4 = .int q ∧ okI q = true := by
    simp only [List.mem_cons, List.not_mem_nil, or_false] at hy4
    rcases hy4 with rfl | rfl | rfl | rfl <;> exact ⟨_, rfl, by decide⟩
  try simp only [q_nil, q_cons, k_nx, k_ret, k_brk, k_ct, q_asg, q_asgA, q_asgS, q_aug, q_ex, q_ret, q_retN, q_pass, q_brk, q_cont, q_ifs, q_for, q_whl, b_t, b_f, be_t, be_f, ba_t, ba_f, bo_t, bo_f, t_bl, t_int, t_non,     q_var, q_con, q_glb, q_tup, q_lst, q_dict0, q_bin, q_neg, q_not, q_and, q_or, q_ife, q_cmp, q_cmp2, q_attr, q_sub, q_srev, q_call, q_callk, q_meth, q_bm, q_new, q_bi, q_isi, q_lc, q_lc2, q_dc, q_sortk, q_sortv, q_sortvM, q_maxk, q_sortm, q_dict2, q_anil, q_acons, q_ival, q_items, q_vals, q_rng, q_zip, q_cntT, q_tab, q_tnin, q_zipT,     o_add, o_sub, o_mul, o_fdiv, o_mod, o_pow18, o_addT, ag_add, ag_sub, c_lt, c_gt, c_le, c_ge, c_eq, c_ne, c_is, c_isn, c_in, c_nin, u_tup, u_scr, n_scr, n_tup, n_str, n_abs, n_min2, n_min3, n_max2, tg_nm, tg_2, tg_3, at_0, at_1, at_2, at_3, at_4, i_int, sat_some, getV_0, getV_s,     List.set_cons_zero, List.set_cons_succ, List.map_cons, List.map_nil, List.replicate_succ, List.replicate_zero, List.cons_append, List.nil_append, List.length_cons, List.length_nil]
  refine sat_mono (drawn_ok S hl (k + 1) (i + 3) 4 (by omega) (by omega) C) fun v D ⟨pD, r, hv, d0, d1⟩ => ?_
  subst hv
  obtain ⟨c1, hc1, e1⟩ := str_pick (S := S) (M := D) (z := "rstv") (by decide +kernel) d0 (by rw [show (("rstv" : Str).length : Int) = 4 by decide +kernel]; exact d1)
  refine sat_of e1 ?_
  refine ⟨len_ok (by decide), ?_⟩
  try simp only [q_nil, q_cons, k_nx, k_ret, k_brk, k_ct, q_asg, q_asgA, q_asgS, q_aug, q_ex, q_ret, q_retN, q_pass, q_brk, q_cont, q_ifs, q_for, q_whl, b_t, b_f, be_t, be_f, ba_t, ba_f, bo_t, bo_f, t_bl, t_int, t_non,     q_var, q_con, q_glb, q_tup, q_lst, q_dict0, q_bin, q_neg, q_not, q_and, q_or, q_ife, q_cmp, q_cmp2, q_attr, q_sub, q_srev, q_call, q_callk, q_meth, q_bm, q_new, q_bi, q_isi, q_lc, q_lc2, q_dc, q_sortk, q_sortv, q_sortvM, q_maxk, q_sortm, q_dict2, q_anil, q_acons, q_ival, q_items, q_vals, q_rng, q_zip, q_cntT, q_tab, q_tnin, q_zipT,     o_add, o_sub, o_mul, o_fdiv, o_mod, o_pow18, o_addT, ag_add, ag_sub, c_lt, c_gt, c_le, c_ge, c_eq, c_ne, c_is, c_isn, c_in, c_nin, u_tup, u_scr, n_scr, n_tup, n_str, n_abs, n_min2, n_min3, n_max2, tg_nm, tg_2, tg_3, at_0, at_1, at_2, at_3, at_4, i_int, sat_some, getV_0, getV_s,     List.set_cons_zero, List.set_cons_succ, List.map_cons, List.map_nil, List.replicate_succ, List.replicate_zero, List.cons_append, List.nil_append, List.length_cons, List.length_nil]
  refine sat_mono (drawn_ok S hl (k + 1) (i + 4) 2 (by omega) (by omega) D) fun v E ⟨pE, r, hv, d0, d1⟩ => ?_
  subst hv
  obtain ⟨c2, hc2, e2⟩ := str_pick (S := S) (M := E) (z := "ow") (by decide +kernel) d0 (by rw [show (("ow" : Str).length : Int) = 2 by decide +kernel]; exact d1)
  refine sat_of e2 ?_
  have k1 := okS_ch (hr128 c1 hc1).1
  have k2 := okS_ch (how c2 hc2)
  have pME : M <+: E := pA.trans (pB.trans ((List.prefix_append _ _).trans (pC.trans (pD.trans pE))))
  clear pA pB pC pD pE e1 e2 e4
  try simp only [q_nil, q_cons, k_nx, k_ret, k_brk, k_ct, q_asg, q_asgA, q_asgS, q_aug, q_ex, q_ret, q_retN, q_pass, q_brk, q_cont, q_ifs, q_for, q_whl, b_t, b_f, be_t, be_f, ba_t, ba_f, bo_t, bo_f, t_bl, t_int, t_non,     q_var, q_con, q_glb, q_tup, q_lst, q_dict0, q_bin, q_neg, q_not, q_and, q_or, q_ife, q_cmp, q_cmp2, q_attr, q_sub, q_srev, q_call, q_callk, q_meth, q_bm, q_new, q_bi, q_isi, q_lc, q_lc2, q_dc, q_sortk, q_sortv, q_sortvM, q_maxk, q_sortm, q_dict2, q_anil, q_acons, q_ival, q_items, q_vals, q_rng, q_zip, q_cntT, q_tab, q_tnin, q_zipT,     o_add, o_sub, o_mul, o_fdiv, o_mod, o_pow18, o_addT, ag_add, ag_sub, c_lt, c_gt, c_le, c_ge, c_eq, c_ne, c_is, c_isn, c_in, c_nin, u_tup, u_scr, n_scr, n_tup, n_str, n_abs, n_min2, n_min3, n_max2, tg_nm, tg_2, tg_3, at_0, at_1, at_2, at_3, at_4, i_int, sat_some, getV_0, getV_s,     List.set_cons_zero, List.set_cons_succ, List.map_cons, List.map_nil, List.replicate_succ, List.replicate_zero, List.cons_append, List.nil_append, List.length_cons, List.length_nil]
  by_cases b1 : way < 6
  · rw [decide_eq_true b1]
    simp only [q_nil, q_cons, k_nx, k_ret, k_brk, k_ct, q_asg, q_asgA, q_asgS, q_aug, q_ex, q_ret, q_retN, q_pass, q_brk, q_cont, q_ifs, q_for, q_whl, b_t, b_f, be_t, be_f, ba_t, ba_f, bo_t, bo_f, t_bl, t_int, t_non,     q_var, q_con, q_glb, q_tup, q_lst, q_dict0, q_bin, q_neg, q_not, q_and, q_or, q_ife, q_cmp, q_cmp2, q_attr, q_sub, q_srev, q_call, q_callk, q_meth, q_bm, q_new, q_bi, q_isi, q_lc, q_lc2, q_dc, q_sortk, q_sortv, q_sortvM, q_maxk, q_sortm, q_dict2, q_anil, q_acons, q_ival, q_items, q_vals, q_rng, q_zip, q_cntT, q_tab, q_tnin, q_zipT,     o_add, o_sub, o_mul, o_fdiv, o_mod, o_pow18, o_addT, ag_add, ag_sub, c_lt, c_gt, c_le, c_ge, c_eq, c_ne, c_is, c_isn, c_in, c_nin, u_tup, u_scr, n_scr, n_tup, n_str, n_abs, n_min2, n_min3, n_max2, tg_nm, tg_2, tg_3, at_0, at_1, at_2, at_3, at_4, i_int, sat_some, getV_0, getV_s,     List.set_cons_zero, List.set_cons_succ, List.map_cons, List.map_nil, List.replicate_succ, List.replicate_zero, List.cons_append, List.nil_append, List.length_cons, List.length_nil]
    refine sat_mono (law_place_ok S hl k (i + 5) (by omega) E) fun v F ⟨pF, c3, hv, hc3⟩ => ?_
    subst hv
    refine ⟨len_ok (by decide), pME.trans pF, ⟨"read", day, [.str (ch c3), .int am]⟩, rfl, gb_of hd sig_read ?_ (by decide +kernel) (by decide +kernel)⟩
    simp only [sigM, okS_ch hc3, ham, Bool.and_self]
  · rw [decide_eq_false b1]
    simp only [q_nil, q_cons, k_nx, k_ret, k_brk, k_ct, q_asg, q_asgA, q_asgS, q_aug, q_ex, q_ret, q_retN, q_pass, q_brk, q_cont, q_ifs, q_for, q_whl, b_t, b_f, be_t, be_f, ba_t, ba_f, bo_t, bo_f, t_bl, t_int, t_non,     q_var, q_con, q_glb, q_tup, q_lst, q_dict0, q_bin, q_neg, q_not, q_and, q_or, q_ife, q_cmp, q_cmp2, q_attr, q_sub, q_srev, q_call, q_callk, q_meth, q_bm, q_new, q_bi, q_isi, q_lc, q_lc2, q_dc, q_sortk, q_sortv, q_sortvM, q_maxk, q_sortm, q_dict2, q_anil, q_acons, q_ival, q_items, q_vals, q_rng, q_zip, q_cntT, q_tab, q_tnin, q_zipT,     o_add, o_sub, o_mul, o_fdiv, o_mod, o_pow18, o_addT, ag_add, ag_sub, c_lt, c_gt, c_le, c_ge, c_eq, c_ne, c_is, c_isn, c_in, c_nin, u_tup, u_scr, n_scr, n_tup, n_str, n_abs, n_min2, n_min3, n_max2, tg_nm, tg_2, tg_3, at_0, at_1, at_2, at_3, at_4, i_int, sat_some, getV_0, getV_s,     List.set_cons_zero, List.set_cons_succ, List.map_cons, List.map_nil, List.replicate_succ, List.replicate_zero, List.cons_append, List.nil_append, List.length_cons, List.length_nil]
    by_cases b2 : way < 10
    · rw [decide_eq_true b2]
      simp only [q_nil, q_cons, k_nx, k_ret, k_brk, k_ct, q_asg, q_asgA, q_asgS, q_aug, q_ex, q_ret, q_retN, q_pass, q_brk, q_cont, q_ifs, q_for, q_whl, b_t, b_f, be_t, be_f, ba_t, ba_f, bo_t, bo_f, t_bl, t_int, t_non,     q_var, q_con, q_glb, q_tup, q_lst, q_dict0, q_bin, q_neg, q_not, q_and, q_or, q_ife, q_cmp, q_cmp2, q_attr, q_sub, q_srev, q_call, q_callk, q_meth, q_bm, q_new, q_bi, q_isi, q_lc, q_lc2, q_dc, q_sortk, q_sortv, q_sortvM, q_maxk, q_sortm, q_dict2, q_anil, q_acons, q_ival, q_items, q_vals, q_rng, q_zip, q_cntT, q_tab, q_tnin, q_zipT,     o_add, o_sub, o_mul, o_fdiv, o_mod, o_pow18, o_addT, ag_add, ag_sub, c_lt, c_gt, c_le, c_ge, c_eq, c_ne, c_is, c_isn, c_in, c_nin, u_tup, u_scr, n_scr, n_tup, n_str, n_abs, n_min2, n_min3, n_max2, tg_nm, tg_2, tg_3, at_0, at_1, at_2, at_3, at_4, i_int, sat_some, getV_0, getV_s,     List.set_cons_zero, List.set_cons_succ, List.map_cons, List.map_nil, List.replicate_succ, List.replicate_zero, List.cons_append, List.nil_append, List.length_cons, List.length_nil]
      refine ⟨len_ok (by decide), pME, ⟨"ask", day, [.str (ch c1), .int am]⟩, rfl, gb_of hd sig_ask ?_ (by decide +kernel) (by decide +kernel)⟩
      simp only [sigM, k1, ham, Bool.and_self]
    · rw [decide_eq_false b2]
      simp only [q_nil, q_cons, k_nx, k_ret, k_brk, k_ct, q_asg, q_asgA, q_asgS, q_aug, q_ex, q_ret, q_retN, q_pass, q_brk, q_cont, q_ifs, q_for, q_whl, b_t, b_f, be_t, be_f, ba_t, ba_f, bo_t, bo_f, t_bl, t_int, t_non,     q_var, q_con, q_glb, q_tup, q_lst, q_dict0, q_bin, q_neg, q_not, q_and, q_or, q_ife, q_cmp, q_cmp2, q_attr, q_sub, q_srev, q_call, q_callk, q_meth, q_bm, q_new, q_bi, q_isi, q_lc, q_lc2, q_dc, q_sortk, q_sortv, q_sortvM, q_maxk, q_sortm, q_dict2, q_anil, q_acons, q_ival, q_items, q_vals, q_rng, q_zip, q_cntT, q_tab, q_tnin, q_zipT,     o_add, o_sub, o_mul, o_fdiv, o_mod, o_pow18, o_addT, ag_add, ag_sub, c_lt, c_gt, c_le, c_ge, c_eq, c_ne, c_is, c_isn, c_in, c_nin, u_tup, u_scr, n_scr, n_tup, n_str, n_abs, n_min2, n_min3, n_max2, tg_nm, tg_2, tg_3, at_0, at_1, at_2, at_3, at_4, i_int, sat_some, getV_0, getV_s,     List.set_cons_zero, List.set_cons_succ, List.map_cons, List.map_nil, List.replicate_succ, List.replicate_zero, List.cons_append, List.nil_append, List.length_cons, List.length_nil]
      refine ⟨_, eqW_int _ _, ?_⟩
      by_cases b3 : way = 10
      · rw [decide_eq_true b3]
        simp only [q_nil, q_cons, k_nx, k_ret, k_brk, k_ct, q_asg, q_asgA, q_asgS, q_aug, q_ex, q_ret, q_retN, q_pass, q_brk, q_cont, q_ifs, q_for, q_whl, b_t, b_f, be_t, be_f, ba_t, ba_f, bo_t, bo_f, t_bl, t_int, t_non,     q_var, q_con, q_glb, q_tup, q_lst, q_dict0, q_bin, q_neg, q_not, q_and, q_or, q_ife, q_cmp, q_cmp2, q_attr, q_sub, q_srev, q_call, q_callk, q_meth, q_bm, q_new, q_bi, q_isi, q_lc, q_lc2, q_dc, q_sortk, q_sortv, q_sortvM, q_maxk, q_sortm, q_dict2, q_anil, q_acons, q_ival, q_items, q_vals, q_rng, q_zip, q_cntT, q_tab, q_tnin, q_zipT,     o_add, o_sub, o_mul, o_fdiv, o_mod, o_pow18, o_addT, ag_add, ag_sub, c_lt, c_gt, c_le, c_ge, c_eq, c_ne, c_is, c_isn, c_in, c_nin, u_tup, u_scr, n_scr, n_tup, n_str, n_abs, n_min2, n_min3, n_max2, tg_nm, tg_2, tg_3, at_0, at_1, at_2, at_3, at_4, i_int, sat_some, getV_0, getV_s,     List.set_cons_zero, List.set_cons_succ, List.map_cons, List.map_nil, List.replicate_succ, List.replicate_zero, List.cons_append, List.nil_append, List.length_cons, List.length_nil]
        refine ⟨len_ok (by decide), pME, ⟨"store", day, [.str (ch c1)]⟩, rfl, gb_of hd sig_store ?_ (by decide +kernel) (by decide +kernel)⟩
        simp only [sigM, k1, Bool.and_self]
      · rw [decide_eq_false b3]
        simp only [q_nil, q_cons, k_nx, k_ret, k_brk, k_ct, q_asg, q_asgA, q_asgS, q_aug, q_ex, q_ret, q_retN, q_pass, q_brk, q_cont, q_ifs, q_for, q_whl, b_t, b_f, be_t, be_f, ba_t, ba_f, bo_t, bo_f, t_bl, t_int, t_non,     q_var, q_con, q_glb, q_tup, q_lst, q_dict0, q_bin, q_neg, q_not, q_and, q_or, q_ife, q_cmp, q_cmp2, q_attr, q_sub, q_srev, q_call, q_callk, q_meth, q_bm, q_new, q_bi, q_isi, q_lc, q_lc2, q_dc, q_sortk, q_sortv, q_sortvM, q_maxk, q_sortm, q_dict2, q_anil, q_acons, q_ival, q_items, q_vals, q_rng, q_zip, q_cntT, q_tab, q_tnin, q_zipT,     o_add, o_sub, o_mul, o_fdiv, o_mod, o_pow18, o_addT, ag_add, ag_sub, c_lt, c_gt, c_le, c_ge, c_eq, c_ne, c_is, c_isn, c_in, c_nin, u_tup, u_scr, n_scr, n_tup, n_str, n_abs, n_min2, n_min3, n_max2, tg_nm, tg_2, tg_3, at_0, at_1, at_2, at_3, at_4, i_int, sat_some, getV_0, getV_s,     List.set_cons_zero, List.set_cons_succ, List.map_cons, List.map_nil, List.replicate_succ, List.replicate_zero, List.cons_append, List.nil_append, List.length_cons, List.length_nil]
        refine ⟨_, eqW_int _ _, ?_⟩
        by_cases b4 : way = 11
        · rw [decide_eq_true b4]
          simp only [q_nil, q_cons, k_nx, k_ret, k_brk, k_ct, q_asg, q_asgA, q_asgS, q_aug, q_ex, q_ret, q_retN, q_pass, q_brk, q_cont, q_ifs, q_for, q_whl, b_t, b_f, be_t, be_f, ba_t, ba_f, bo_t, bo_f, t_bl, t_int, t_non,     q_var, q_con, q_glb, q_tup, q_lst, q_dict0, q_bin, q_neg, q_not, q_and, q_or, q_ife, q_cmp, q_cmp2, q_attr, q_sub, q_srev, q_call, q_callk, q_meth, q_bm, q_new, q_bi, q_isi, q_lc, q_lc2, q_dc, q_sortk, q_sortv, q_sortvM, q_maxk, q_sortm, q_dict2, q_anil, q_acons, q_ival, q_items, q_vals, q_rng, q_zip, q_cntT, q_tab, q_tnin, q_zipT,     o_add, o_sub, o_mul, o_fdiv, o_mod, o_pow18, o_addT, ag_add, ag_sub, c_lt, c_gt, c_le, c_ge, c_eq, c_ne, c_is, c_isn, c_in, c_nin, u_tup, u_scr, n_scr, n_tup, n_str, n_abs, n_min2, n_min3, n_max2, tg_nm, tg_2, tg_3, at_0, at_1, at_2, at_3, at_4, i_int, sat_some, getV_0, getV_s,     List.set_cons_zero, List.set_cons_succ, List.map_cons, List.map_nil, List.replicate_succ, List.replicate_zero, List.cons_append, List.nil_append, List.length_cons, List.length_nil]
          refine ⟨len_ok (by decide), pME, ⟨"release", day, [.str "b", .str (ch c2), .str (ch c1), .int am]⟩, rfl, ⟨hd, _, sig_release, ?_⟩, fun e => absurd (show ("release" : Str) = "dam" from e) (by decide +kernel), fun _ => ⟨_, _, c1, am, rfl, (hr128 c1 hc1).2, rfl, ow_ch hc2⟩, fun e => absurd (show ("release" : Str) = "share" from e) (by decide +kernel)⟩
          simp only [sigM, k1, k2, b_ok, ham, Bool.and_self]
        · rw [decide_eq_false b4]
          simp only [q_nil, q_cons, k_nx, k_ret, k_brk, k_ct, q_asg, q_asgA, q_asgS, q_aug, q_ex, q_ret, q_retN, q_pass, q_brk, q_cont, q_ifs, q_for, q_whl, b_t, b_f, be_t, be_f, ba_t, ba_f, bo_t, bo_f, t_bl, t_int, t_non,     q_var, q_con, q_glb, q_tup, q_lst, q_dict0, q_bin, q_neg, q_not, q_and, q_or, q_ife, q_cmp, q_cmp2, q_attr, q_sub, q_srev, q_call, q_callk, q_meth, q_bm, q_new, q_bi, q_isi, q_lc, q_lc2, q_dc, q_sortk, q_sortv, q_sortvM, q_maxk, q_sortm, q_dict2, q_anil, q_acons, q_ival, q_items, q_vals, q_rng, q_zip, q_cntT, q_tab, q_tnin, q_zipT,     o_add, o_sub, o_mul, o_fdiv, o_mod, o_pow18, o_addT, ag_add, ag_sub, c_lt, c_gt, c_le, c_ge, c_eq, c_ne, c_is, c_isn, c_in, c_nin, u_tup, u_scr, n_scr, n_tup, n_str, n_abs, n_min2, n_min3, n_max2, tg_nm, tg_2, tg_3, at_0, at_1, at_2, at_3, at_4, i_int, sat_some, getV_0, getV_s,     List.set_cons_zero, List.set_cons_succ, List.map_cons, List.map_nil, List.replicate_succ, List.replicate_zero, List.cons_append, List.nil_append, List.length_cons, List.length_nil]
          refine ⟨_, eqW_int _ _, ?_⟩
          by_cases b5 : way = 12
          · rw [decide_eq_true b5]
            simp only [q_nil, q_cons, k_nx, k_ret, k_brk, k_ct, q_asg, q_asgA, q_asgS, q_aug, q_ex, q_ret, q_retN, q_pass, q_brk, q_cont, q_ifs, q_for, q_whl, b_t, b_f, be_t, be_f, ba_t, ba_f, bo_t, bo_f, t_bl, t_int, t_non,     q_var, q_con, q_glb, q_tup, q_lst, q_dict0, q_bin, q_neg, q_not, q_and, q_or, q_ife, q_cmp, q_cmp2, q_attr, q_sub, q_srev, q_call, q_callk, q_meth, q_bm, q_new, q_bi, q_isi, q_lc, q_lc2, q_dc, q_sortk, q_sortv, q_sortvM, q_maxk, q_sortm, q_dict2, q_anil, q_acons, q_ival, q_items, q_vals, q_rng, q_zip, q_cntT, q_tab, q_tnin, q_zipT,     o_add, o_sub, o_mul, o_fdiv, o_mod, o_pow18, o_addT, ag_add, ag_sub, c_lt, c_gt, c_le, c_ge, c_eq, c_ne, c_is, c_isn, c_in, c_nin, u_tup, u_scr, n_scr, n_tup, n_str, n_abs, n_min2, n_min3, n_max2, tg_nm, tg_2, tg_3, at_0, at_1, at_2, at_3, at_4, i_int, sat_some, getV_0, getV_s,     List.set_cons_zero, List.set_cons_succ, List.map_cons, List.map_nil, List.replicate_succ, List.replicate_zero, List.cons_append, List.nil_append, List.length_cons, List.length_nil]
            refine ⟨len_ok (by decide), pME, ⟨"sold", day, [.str (ch c1), .str (ch c2)]⟩, rfl, gb_of hd sig_sold ?_ (by decide +kernel) (by decide +kernel)⟩
            simp only [sigM, k1, k2, Bool.and_self]
          · rw [decide_eq_false b5]
            simp only [q_nil, q_cons, k_nx, k_ret, k_brk, k_ct, q_asg, q_asgA, q_asgS, q_aug, q_ex, q_ret, q_retN, q_pass, q_brk, q_cont, q_ifs, q_for, q_whl, b_t, b_f, be_t, be_f, ba_t, ba_f, bo_t, bo_f, t_bl, t_int, t_non,     q_var, q_con, q_glb, q_tup, q_lst, q_dict0, q_bin, q_neg, q_not, q_and, q_or, q_ife, q_cmp, q_cmp2, q_attr, q_sub, q_srev, q_call, q_callk, q_meth, q_bm, q_new, q_bi, q_isi, q_lc, q_lc2, q_dc, q_sortk, q_sortv, q_sortvM, q_maxk, q_sortm, q_dict2, q_anil, q_acons, q_ival, q_items, q_vals, q_rng, q_zip, q_cntT, q_tab, q_tnin, q_zipT,     o_add, o_sub, o_mul, o_fdiv, o_mod, o_pow18, o_addT, ag_add, ag_sub, c_lt, c_gt, c_le, c_ge, c_eq, c_ne, c_is, c_isn, c_in, c_nin, u_tup, u_scr, n_scr, n_tup, n_str, n_abs, n_min2, n_min3, n_max2, tg_nm, tg_2, tg_3, at_0, at_1, at_2, at_3, at_4, i_int, sat_some, getV_0, getV_s,     List.set_cons_zero, List.set_cons_succ, List.map_cons, List.map_nil, List.replicate_succ, List.replicate_zero, List.cons_append, List.nil_append, List.length_cons, List.length_nil]
            refine ⟨_, eqW_int _ _, ?_⟩
            by_cases b6 : way = 13
            · rw [decide_eq_true b6]
              simp only [q_nil, q_cons, k_nx, k_ret, k_brk, k_ct, q_asg, q_asgA, q_asgS, q_aug, q_ex, q_ret, q_retN, q_pass, q_brk, q_cont, q_ifs, q_for, q_whl, b_t, b_f, be_t, be_f, ba_t, ba_f, bo_t, bo_f, t_bl, t_int, t_non,     q_var, q_con, q_glb, q_tup, q_lst, q_dict0, q_bin, q_neg, q_not, q_and, q_or, q_ife, q_cmp, q_cmp2, q_attr, q_sub, q_srev, q_call, q_callk, q_meth, q_bm, q_new, q_bi, q_isi, q_lc, q_lc2, q_dc, q_sortk, q_sortv, q_sortvM, q_maxk, q_sortm, q_dict2, q_anil, q_acons, q_ival, q_items, q_vals, q_rng, q_zip, q_cntT, q_tab, q_tnin, q_zipT,     o_add, o_sub, o_mul, o_fdiv, o_mod, o_pow18, o_addT, ag_add, ag_sub, c_lt, c_gt, c_le, c_ge, c_eq, c_ne, c_is, c_isn, c_in, c_nin, u_tup, u_scr, n_scr, n_tup, n_str, n_abs, n_min2, n_min3, n_max2, tg_nm, tg_2, tg_3, at_0, at_1, at_2, at_3, at_4, i_int, sat_some, getV_0, getV_s,     List.set_cons_zero, List.set_cons_succ, List.map_cons, List.map_nil, List.replicate_succ, List.replicate_zero, List.cons_append, List.nil_append, List.length_cons, List.length_nil]
              refine sat_mono (drawn_ok S hl (k + 1) (i + 5) 2 (by omega) (by omega) E) fun v F ⟨pF, r, hv, d0, d1⟩ => ?_
              subst hv
              obtain ⟨c3, hc3, e3⟩ := str_pick (S := S) (M := F) (z := "xy") (by decide +kernel) d0 (by rw [show (("xy" : Str).length : Int) = 2 by decide +kernel]; exact d1)
              refine sat_of e3 ?_
              try simp only [q_nil, q_cons, k_nx, k_ret, k_brk, k_ct, q_asg, q_asgA, q_asgS, q_aug, q_ex, q_ret, q_retN, q_pass, q_brk, q_cont, q_ifs, q_for, q_whl, b_t, b_f, be_t, be_f, ba_t, ba_f, bo_t, bo_f, t_bl, t_int, t_non,     q_var, q_con, q_glb, q_tup, q_lst, q_dict0, q_bin, q_neg, q_not, q_and, q_or, q_ife, q_cmp, q_cmp2, q_attr, q_sub, q_srev, q_call, q_callk, q_meth, q_bm, q_new, q_bi, q_isi, q_lc, q_lc2, q_dc, q_sortk, q_sortv, q_sortvM, q_maxk, q_sortm, q_dict2, q_anil, q_acons, q_ival, q_items, q_vals, q_rng, q_zip, q_cntT, q_tab, q_tnin, q_zipT,     o_add, o_sub, o_mul, o_fdiv, o_mod, o_pow18, o_addT, ag_add, ag_sub, c_lt, c_gt, c_le, c_ge, c_eq, c_ne, c_is, c_isn, c_in, c_nin, u_tup, u_scr, n_scr, n_tup, n_str, n_abs, n_min2, n_min3, n_max2, tg_nm, tg_2, tg_3, at_0, at_1, at_2, at_3, at_4, i_int, sat_some, getV_0, getV_s,     List.set_cons_zero, List.set_cons_succ, List.map_cons, List.map_nil, List.replicate_succ, List.replicate_zero, List.cons_append, List.nil_append, List.length_cons, List.length_nil]
              refine sat_mono (drawn_ok S hl (k + 1) (i + 6) 12 (by omega) (by omega) F) fun v G ⟨pG, r2, hv, f0, f1⟩ => ?_
              subst hv
              try simp only [q_nil, q_cons, k_nx, k_ret, k_brk, k_ct, q_asg, q_asgA, q_asgS, q_aug, q_ex, q_ret, q_retN, q_pass, q_brk, q_cont, q_ifs, q_for, q_whl, b_t, b_f, be_t, be_f, ba_t, ba_f, bo_t, bo_f, t_bl, t_int, t_non,     q_var, q_con, q_glb, q_tup, q_lst, q_dict0, q_bin, q_neg, q_not, q_and, q_or, q_ife, q_cmp, q_cmp2, q_attr, q_sub, q_srev, q_call, q_callk, q_meth, q_bm, q_new, q_bi, q_isi, q_lc, q_lc2, q_dc, q_sortk, q_sortv, q_sortvM, q_maxk, q_sortm, q_dict2, q_anil, q_acons, q_ival, q_items, q_vals, q_rng, q_zip, q_cntT, q_tab, q_tnin, q_zipT,     o_add, o_sub, o_mul, o_fdiv, o_mod, o_pow18, o_addT, ag_add, ag_sub, c_lt, c_gt, c_le, c_ge, c_eq, c_ne, c_is, c_isn, c_in, c_nin, u_tup, u_scr, n_scr, n_tup, n_str, n_abs, n_min2, n_min3, n_max2, tg_nm, tg_2, tg_3, at_0, at_1, at_2, at_3, at_4, i_int, sat_some, getV_0, getV_s,     List.set_cons_zero, List.set_cons_succ, List.map_cons, List.map_nil, List.replicate_succ, List.replicate_zero, List.cons_append, List.nil_append, List.length_cons, List.length_nil]
              refine ⟨len_ok (by decide), len_ok (by decide), pME.trans (pF.trans pG), ⟨"leased", day, [.str (ch c1), .str (ch c3), .int (day + r2)]⟩, rfl, gb_of hd sig_leased ?_ (by decide +kernel) (by decide +kernel)⟩
              simp only [sigM, k1, okS_ch (hxy c3 hc3), okI_of (show 0 ≤ day + r2 by omega) (by omega), Bool.and_self]
            · rw [decide_eq_false b6]
              simp only [q_nil, q_cons, k_nx, k_ret, k_brk, k_ct, q_asg, q_asgA, q_asgS, q_aug, q_ex, q_ret, q_retN, q_pass, q_brk, q_cont, q_ifs, q_for, q_whl, b_t, b_f, be_t, be_f, ba_t, ba_f, bo_t, bo_f, t_bl, t_int, t_non,     q_var, q_con, q_glb, q_tup, q_lst, q_dict0, q_bin, q_neg, q_not, q_and, q_or, q_ife, q_cmp, q_cmp2, q_attr, q_sub, q_srev, q_call, q_callk, q_meth, q_bm, q_new, q_bi, q_isi, q_lc, q_lc2, q_dc, q_sortk, q_sortv, q_sortvM, q_maxk, q_sortm, q_dict2, q_anil, q_acons, q_ival, q_items, q_vals, q_rng, q_zip, q_cntT, q_tab, q_tnin, q_zipT,     o_add, o_sub, o_mul, o_fdiv, o_mod, o_pow18, o_addT, ag_add, ag_sub, c_lt, c_gt, c_le, c_ge, c_eq, c_ne, c_is, c_isn, c_in, c_nin, u_tup, u_scr, n_scr, n_tup, n_str, n_abs, n_min2, n_min3, n_max2, tg_nm, tg_2, tg_3, at_0, at_1, at_2, at_3, at_4, i_int, sat_some, getV_0, getV_s,     List.set_cons_zero, List.set_cons_succ, List.map_cons, List.map_nil, List.replicate_succ, List.replicate_zero, List.cons_append, List.nil_append, List.length_cons, List.length_nil]
              refine ⟨_, eqW_int _ _, ?_⟩
              by_cases b7 : way = 14
              · rw [decide_eq_true b7]
                simp only [q_nil, q_cons, k_nx, k_ret, k_brk, k_ct, q_asg, q_asgA, q_asgS, q_aug, q_ex, q_ret, q_retN, q_pass, q_brk, q_cont, q_ifs, q_for, q_whl, b_t, b_f, be_t, be_f, ba_t, ba_f, bo_t, bo_f, t_bl, t_int, t_non,     q_var, q_con, q_glb, q_tup, q_lst, q_dict0, q_bin, q_neg, q_not, q_and, q_or, q_ife, q_cmp, q_cmp2, q_attr, q_sub, q_srev, q_call, q_callk, q_meth, q_bm, q_new, q_bi, q_isi, q_lc, q_lc2, q_dc, q_sortk, q_sortv, q_sortvM, q_maxk, q_sortm, q_dict2, q_anil, q_acons, q_ival, q_items, q_vals, q_rng, q_zip, q_cntT, q_tab, q_tnin, q_zipT,     o_add, o_sub, o_mul, o_fdiv, o_mod, o_pow18, o_addT, ag_add, ag_sub, c_lt, c_gt, c_le, c_ge, c_eq, c_ne, c_is, c_isn, c_in, c_nin, u_tup, u_scr, n_scr, n_tup, n_str, n_abs, n_min2, n_min3, n_max2, tg_nm, tg_2, tg_3, at_0, at_1, at_2, at_3, at_4, i_int, sat_some, getV_0, getV_s,     List.set_cons_zero, List.set_cons_succ, List.map_cons, List.map_nil, List.replicate_succ, List.replicate_zero, List.cons_append, List.nil_append, List.length_cons, List.length_nil]
                refine sat_mono (law_place_ok S hl k (i + 5) (by omega) E) fun v F ⟨pF, c3, hv, hc3⟩ => ?_
                subst hv
                refine ⟨len_ok (by decide), pME.trans pF, ⟨"moved", day, [.str (ch c1), .str (ch c3)]⟩, rfl, gb_of hd sig_moved ?_ (by decide +kernel) (by decide +kernel)⟩
                simp only [sigM, k1, okS_ch hc3, Bool.and_self]
              · rw [decide_eq_false b7]
                simp only [q_nil, q_cons, k_nx, k_ret, k_brk, k_ct, q_asg, q_asgA, q_asgS, q_aug, q_ex, q_ret, q_retN, q_pass, q_brk, q_cont, q_ifs, q_for, q_whl, b_t, b_f, be_t, be_f, ba_t, ba_f, bo_t, bo_f, t_bl, t_int, t_non,     q_var, q_con, q_glb, q_tup, q_lst, q_dict0, q_bin, q_neg, q_not, q_and, q_or, q_ife, q_cmp, q_cmp2, q_attr, q_sub, q_srev, q_call, q_callk, q_meth, q_bm, q_new, q_bi, q_isi, q_lc, q_lc2, q_dc, q_sortk, q_sortv, q_sortvM, q_maxk, q_sortm, q_dict2, q_anil, q_acons, q_ival, q_items, q_vals, q_rng, q_zip, q_cntT, q_tab, q_tnin, q_zipT,     o_add, o_sub, o_mul, o_fdiv, o_mod, o_pow18, o_addT, ag_add, ag_sub, c_lt, c_gt, c_le, c_ge, c_eq, c_ne, c_is, c_isn, c_in, c_nin, u_tup, u_scr, n_scr, n_tup, n_str, n_abs, n_min2, n_min3, n_max2, tg_nm, tg_2, tg_3, at_0, at_1, at_2, at_3, at_4, i_int, sat_some, getV_0, getV_s,     List.set_cons_zero, List.set_cons_succ, List.map_cons, List.map_nil, List.replicate_succ, List.replicate_zero, List.cons_append, List.nil_append, List.length_cons, List.length_nil]
                refine ⟨len_ok (by decide), ?_⟩
                refine sat_mono (drawn_ok S hl (k + 1) (i + 5) 3 (by omega) (by omega) _) fun v F ⟨pF, r, hv, d0, d1⟩ => ?_
                subst hv
                obtain ⟨y9, hy9, e9⟩ := at_mem (xs := [Wv.int 0, .int 20, .int 80]) d0 d1
                refine sat_of (sub_lst (pre_get pF (at_new ..)) e9) ?_
                obtain ⟨q9, rfl, hq9⟩ : ∃ q : Int, y9 = .int q ∧ okI q = true := by
                  simp only [List.mem_cons, List.not_mem_nil, or_false] at hy9
                  rcases hy9 with rfl | rfl | rfl <;> exact ⟨_, rfl, by decide⟩
                refine ⟨len_ok (by decide), pME.trans ((List.prefix_append _ _).trans pF), ⟨"share", day, [.str "b", .str (ch c2), .int q9]⟩, rfl, ⟨hd, _, sig_share, ?_⟩, fun e => absurd (show ("share" : Str) = "dam" from e) (by decide +kernel), fun e => absurd (show ("share" : Str) = "release" from e) (by decide +kernel), fun _ => ⟨_, _, _, rfl, rfl, ow_ch hc2⟩⟩
                simp only [sigM, k2, b_ok, hq9, Bool.and_self]
abbrev Vi := Nat × Bt
def Vi.w (i : Vi) : Wv := vdN i.1 i.2.v
def ViOk (its : List Vi) : Prop := ∀ i ∈ its, i.1 ≤ 3 ∧ GB i.2
theorem vi_pur {i : Vi} (h : i.1 ≤ 3 ∧ GB i.2) : pur 8 i.w = true := pur_le (vdN_pur h.2.1 i.1) (by omega)
theorem law_truths_ok (S : List Int) (hl : S.length ≤ 63) (k : Nat) (i : Int) (many : Nat) (hi : 0 ≤ i) (hi2 : i ≤ 100000) (hm : many ≤ 100) (M : Mem) :
    (callN (Gp S) fuel (k + 4) ix__law_truths [.scr, .int i, .int (many : Int)] M).sat fun v M' => M <+: M' ∧ ∃ y its, v = .ref y ∧ M.length ≤ y ∧ ViOk its ∧ its.length = many ∧ M'[y]? = some (.lst (its.map Vi.w)) := by
  have hz : 1001 ≤ sizeLine := by decide
  rw [at__law_truths]
  refine run_sat rfl ?_
  show (evSl (Gp S) _ _ fuel sl__law_truths [some .scr, some (.int i), some (.int (many : Int)), none, none, none, none] M).sat _
  unfold sl__law_truths
  simp only [q_nil, q_cons, k_nx, k_ret, k_brk, k_ct, q_asg, q_asgA, q_asgS, q_aug, q_ex, q_ret, q_retN, q_pass, q_brk, q_cont, q_ifs, q_for, q_whl, b_t, b_f, be_t, be_f, ba_t, ba_f, bo_t, bo_f, t_bl, t_int, t_non,     q_var, q_con, q_glb, q_tup, q_lst, q_dict0, q_bin, q_neg, q_not, q_and, q_or, q_ife, q_cmp, q_cmp2, q_attr, q_sub, q_srev, q_call, q_callk, q_meth, q_bm, q_new, q_bi, q_isi, q_lc, q_lc2, q_dc, q_sortk, q_sortv, q_sortvM, q_maxk, q_sortm, q_dict2, q_anil, q_acons, q_ival, q_items, q_vals, q_rng, q_zip, q_cntT, q_tab, q_tnin, q_zipT,     o_add, o_sub, o_mul, o_fdiv, o_mod, o_pow18, o_addT, ag_add, ag_sub, c_lt, c_gt, c_le, c_ge, c_eq, c_ne, c_is, c_isn, c_in, c_nin, u_tup, u_scr, n_scr, n_tup, n_str, n_abs, n_min2, n_min3, n_max2, tg_nm, tg_2, tg_3, at_0, at_1, at_2, at_3, at_4, i_int, sat_some, getV_0, getV_s,     List.set_cons_zero, List.set_cons_succ, List.map_cons, List.map_nil, List.replicate_succ, List.replicate_zero, List.cons_append, List.nil_append, List.length_cons, List.length_nil]
  refine ⟨len_ok (by decide), rng10 (by omega) (by omega) (by omega) (by omega), ?_⟩
  rw [rng_eq 0 _ many (by omega)]
  have hlk : ∀ N : Mem, lockM [] N = N := fun _ => rfl
  have hul : ∀ N : Mem, unlkM [] N = N := fun _ => rfl
  simp only [hlk, hul]
  generalize hM1 : M ++ [Ob.lst []] = M1
  have p1 : M <+: M1 := by rw [← hM1]; exact List.prefix_append _ _
  have hf1 : M1[M.length]? = some (.lst []) := by rw [← hM1]; exact at_new ..
  generalize hfn : M.length = f at *
  refine sat_mono (for_rule (Q := fun q M' => ∃ (its : List Vi) (x4 x5 x6 : Option Wv), q = (.nx, [some .scr, some (.int i), some (.int (many : Int)), some (.ref f), x4, x5, x6]) ∧ M <+: M' ∧ ViOk its ∧ its.length = many ∧ M'[f]? = some (.lst (its.map Vi.w)))
    (fun pre post σ M' => ∃ (j : Nat) (its : List Vi) (x4 x5 x6 : Option Wv), j ≤ many ∧ post = ((List.range many).drop j).map (fun k : Nat => Wv.int (0 + (k : Int))) ∧ σ = [some .scr, some (.int i), some (.int (many : Int)), some (.ref f), x4, x5, x6] ∧ M <+: M' ∧ ViOk its ∧ its.length = j ∧ M'[f]? = some (.lst (its.map Vi.w))) ?_ ?_ _ [] _ _ ⟨0, [], none, none, none, by omega, rfl, rfl, p1, (fun i hi => by cases hi), rfl, hf1⟩) fun q M2 ⟨its, x4, x5, x6, eq, p2, hok, hlen, hf⟩ => ?_
  · rintro pre x post σ M' ⟨j, its, x4, x5, x6, hj, hpost, rfl, pm, hok, hlen, hf⟩
    have hj2 : j < many := by
      by_cases z : j < many
      · exact z
      · rw [List.drop_eq_nil_of_le (by simp; omega)] at hpost; cases hpost
    rw [List.drop_eq_getElem_cons (by simpa using hj2)] at hpost
    simp only [List.getElem_range, List.map_cons, List.cons.injEq] at hpost
    obtain ⟨rfl, rfl⟩ := hpost
    have e0 : (0 : Int) + (j : Int) = (j : Int) := by omega
    rw [e0]
    refine ⟨rfl, [some .scr, some (.int i), some (.int (many : Int)), some (.ref f), some (.int (j : Int)), x5, x6], rfl, ?_⟩
    simp only [q_nil, q_cons, k_nx, k_ret, k_brk, k_ct, q_asg, q_asgA, q_asgS, q_aug, q_ex, q_ret, q_retN, q_pass, q_brk, q_cont, q_ifs, q_for, q_whl, b_t, b_f, be_t, be_f, ba_t, ba_f, bo_t, bo_f, t_bl, t_int, t_non,     q_var, q_con, q_glb, q_tup, q_lst, q_dict0, q_bin, q_neg, q_not, q_and, q_or, q_ife, q_cmp, q_cmp2, q_attr, q_sub, q_srev, q_call, q_callk, q_meth, q_bm, q_new, q_bi, q_isi, q_lc, q_lc2, q_dc, q_sortk, q_sortv, q_sortvM, q_maxk, q_sortm, q_dict2, q_anil, q_acons, q_ival, q_items, q_vals, q_rng, q_zip, q_cntT, q_tab, q_tnin, q_zipT,     o_add, o_sub, o_mul, o_fdiv, o_mod, o_pow18, o_addT, ag_add, ag_sub, c_lt, c_gt, c_le, c_ge, c_eq, c_ne, c_is, c_isn, c_in, c_nin, u_tup, u_scr, n_scr, n_tup, n_str, n_abs, n_min2, n_min3, n_max2, tg_nm, tg_2, tg_3, at_0, at_1, at_2, at_3, at_4, i_int, sat_some, getV_0, getV_s,     List.set_cons_zero, List.set_cons_succ, List.map_cons, List.map_nil, List.replicate_succ, List.replicate_zero, List.cons_append, List.nil_append, List.length_cons, List.length_nil]
    refine ⟨mul_l (by decide), ?_⟩
    generalize hh : i + 9 * (j : Int) = here
    have hh0 : 0 ≤ here := by omega
    refine sat_mono (drawn_ok S hl (k + 2) (here + 8) 8 (by omega) (by omega) M') fun v A ⟨pA, r, hv, a0, a1⟩ => ?_
    subst hv
    have hfA := pre_get pA hf
    have hflA : f < A.length := (List.getElem?_eq_some_iff.mp hfA).1
    refine ⟨_, eqW_int _ _, ?_⟩
    have put : ∀ (N : Mem) (q : Vi) (y5 y6 : Option Wv), M <+: N → N[f]? = some (.lst (its.map Vi.w)) → q.1 ≤ 3 ∧ GB q.2 → (bmW .append (.ref f) [q.w] N).sat fun _ N2 => ∃ (j_1 : Nat) (its : List Vi) (x4 x5 x6 : Option Wv), j_1 ≤ many ∧ ((List.range many).drop (j + 1)).map (fun k : Nat => Wv.int (0 + (k : Int))) = ((List.range many).drop j_1).map (fun k : Nat => Wv.int (0 + (k : Int))) ∧ [some Wv.scr, some (.int i), some (.int (many : Int)), some (.ref f), some (.int (j : Int)), y5, y6] = [some Wv.scr, some (.int i), some (.int (many : Int)), some (.ref f), x4, x5, x6] ∧ M <+: N2 ∧ ViOk its ∧ its.length = j_1 ∧ N2[f]? = some (.lst (its.map Vi.w)) := fun N q y5 y6 h1 h2 h3 => by
      have hl2 : f < N.length := (List.getElem?_eq_some_iff.mp h2).1
      refine sat_of (bm_append h2 (by simp; omega)) ⟨j + 1, its ++ [q], _, _, _, hj2, rfl, rfl, pre_set h1 (by omega), fun x hx => ?_, by simp [hlen], ?_⟩
      · rcases List.mem_append.mp hx with hx | hx
        · exact hok x hx
        · rw [List.mem_singleton.mp hx]; exact h3
      · rw [List.getElem?_set_self hl2, List.map_append]
        rfl
    have plain : ∀ (N : Mem) (y6 : Option Wv), M <+: N → N[f]? = some (.lst (its.map Vi.w)) → (callN (Gp S) fuel (k + 3) ix__law_truth [.scr, .int here] N).sat fun w N1 => (bmW .append (.ref f) [w] N1).sat fun _ N2 => ∃ (j_1 : Nat) (its : List Vi) (x4 x5 x6 : Option Wv), j_1 ≤ many ∧ ((List.range many).drop (j + 1)).map (fun k : Nat => Wv.int (0 + (k : Int))) = ((List.range many).drop j_1).map (fun k : Nat => Wv.int (0 + (k : Int))) ∧ [some Wv.scr, some (.int i), some (.int (many : Int)), some (.ref f), some (.int (j : Int)), some (.int here), y6] = [some Wv.scr, some (.int i), some (.int (many : Int)), some (.ref f), x4, x5, x6] ∧ M <+: N2 ∧ ViOk its ∧ its.length = j_1 ∧ N2[f]? = some (.lst (its.map Vi.w)) := fun N y6 h1 h2 => by
      refine sat_mono (law_truth_ok S hl k here hh0 N) fun w N1 ⟨q1, t, hw, hgb⟩ => ?_
      subst hw
      exact put N1 (0, t) _ _ (h1.trans q1) (pre_get q1 h2) ⟨by show 0 ≤ 3; omega, hgb⟩
    by_cases c1 : r = 0
    · rw [decide_eq_true c1]
      simp only [q_nil, q_cons, k_nx, k_ret, k_brk, k_ct, q_asg, q_asgA, q_asgS, q_aug, q_ex, q_ret, q_retN, q_pass, q_brk, q_cont, q_ifs, q_for, q_whl, b_t, b_f, be_t, be_f, ba_t, ba_f, bo_t, bo_f, t_bl, t_int, t_non,     q_var, q_con, q_glb, q_tup, q_lst, q_dict0, q_bin, q_neg, q_not, q_and, q_or, q_ife, q_cmp, q_cmp2, q_attr, q_sub, q_srev, q_call, q_callk, q_meth, q_bm, q_new, q_bi, q_isi, q_lc, q_lc2, q_dc, q_sortk, q_sortv, q_sortvM, q_maxk, q_sortm, q_dict2, q_anil, q_acons, q_ival, q_items, q_vals, q_rng, q_zip, q_cntT, q_tab, q_tnin, q_zipT,     o_add, o_sub, o_mul, o_fdiv, o_mod, o_pow18, o_addT, ag_add, ag_sub, c_lt, c_gt, c_le, c_ge, c_eq, c_ne, c_is, c_isn, c_in, c_nin, u_tup, u_scr, n_scr, n_tup, n_str, n_abs, n_min2, n_min3, n_max2, tg_nm, tg_2, tg_3, at_0, at_1, at_2, at_3, at_4, i_int, sat_some, getV_0, getV_s,     List.set_cons_zero, List.set_cons_succ, List.map_cons, List.map_nil, List.replicate_succ, List.replicate_zero, List.cons_append, List.nil_append, List.length_cons, List.length_nil]
      have hA2 : (A ++ [Ob.lst []])[f]? = some (.lst (its.map Vi.w)) := pre_get (List.prefix_append _ _) hfA
      have eD : toDs (Gp S).S (A ++ [Ob.lst []]) 11 (its.map Vi.w) = some (its.map fun x => dat x.w) := toDs_map fun x hx => toD_pur (vi_pur (hok x hx)) (by omega)
      refine ⟨len_ok (by decide), _, eqW_nil (toD_lst (n := 11) hA2 eD) (at_new ..) (shaped_lst (d := 8) (by omega) fun x hx => ⟨dat_lay (vi_pur (hok x hx)), dat_depth (vi_pur (hok x hx))⟩), ?_⟩
      have pA2 : M <+: A ++ [Ob.lst []] := pre_snoc (pm.trans pA) _
      cases hit : its with
      | nil =>
        rw [← hit]
        have : (its.map fun x => dat x.w).isEmpty = true := by rw [hit]; rfl
        rw [this]
        simp only [q_nil, q_cons, k_nx, k_ret, k_brk, k_ct, q_asg, q_asgA, q_asgS, q_aug, q_ex, q_ret, q_retN, q_pass, q_brk, q_cont, q_ifs, q_for, q_whl, b_t, b_f, be_t, be_f, ba_t, ba_f, bo_t, bo_f, t_bl, t_int, t_non,     q_var, q_con, q_glb, q_tup, q_lst, q_dict0, q_bin, q_neg, q_not, q_and, q_or, q_ife, q_cmp, q_cmp2, q_attr, q_sub, q_srev, q_call, q_callk, q_meth, q_bm, q_new, q_bi, q_isi, q_lc, q_lc2, q_dc, q_sortk, q_sortv, q_sortvM, q_maxk, q_sortm, q_dict2, q_anil, q_acons, q_ival, q_items, q_vals, q_rng, q_zip, q_cntT, q_tab, q_tnin, q_zipT,     o_add, o_sub, o_mul, o_fdiv, o_mod, o_pow18, o_addT, ag_add, ag_sub, c_lt, c_gt, c_le, c_ge, c_eq, c_ne, c_is, c_isn, c_in, c_nin, u_tup, u_scr, n_scr, n_tup, n_str, n_abs, n_min2, n_min3, n_max2, tg_nm, tg_2, tg_3, at_0, at_1, at_2, at_3, at_4, i_int, sat_some, getV_0, getV_s,     List.set_cons_zero, List.set_cons_succ, List.map_cons, List.map_nil, List.replicate_succ, List.replicate_zero, List.cons_append, List.nil_append, List.length_cons, List.length_nil, Bool.not_true]
        exact ⟨bmT_append hA2, plain _ _ pA2 hA2⟩
      | cons i0 is0 =>
        rw [← hit]
        have : (its.map fun x => dat x.w).isEmpty = false := by rw [hit]; rfl
        rw [this]
        simp only [q_nil, q_cons, k_nx, k_ret, k_brk, k_ct, q_asg, q_asgA, q_asgS, q_aug, q_ex, q_ret, q_retN, q_pass, q_brk, q_cont, q_ifs, q_for, q_whl, b_t, b_f, be_t, be_f, ba_t, ba_f, bo_t, bo_f, t_bl, t_int, t_non,     q_var, q_con, q_glb, q_tup, q_lst, q_dict0, q_bin, q_neg, q_not, q_and, q_or, q_ife, q_cmp, q_cmp2, q_attr, q_sub, q_srev, q_call, q_callk, q_meth, q_bm, q_new, q_bi, q_isi, q_lc, q_lc2, q_dc, q_sortk, q_sortv, q_sortvM, q_maxk, q_sortm, q_dict2, q_anil, q_acons, q_ival, q_items, q_vals, q_rng, q_zip, q_cntT, q_tab, q_tnin, q_zipT,     o_add, o_sub, o_mul, o_fdiv, o_mod, o_pow18, o_addT, ag_add, ag_sub, c_lt, c_gt, c_le, c_ge, c_eq, c_ne, c_is, c_isn, c_in, c_nin, u_tup, u_scr, n_scr, n_tup, n_str, n_abs, n_min2, n_min3, n_max2, tg_nm, tg_2, tg_3, at_0, at_1, at_2, at_3, at_4, i_int, sat_some, getV_0, getV_s,     List.set_cons_zero, List.set_cons_succ, List.map_cons, List.map_nil, List.replicate_succ, List.replicate_zero, List.cons_append, List.nil_append, List.length_cons, List.length_nil, Bool.not_false]
        have hjp : 0 < j := by rw [← hlen, hit]; simp
        refine sat_of (n_lenL (Gp S) f _ hA2) ?_
        rw [List.length_map, hlen]
        refine sat_mono (drawn_ok S hl (k + 2) here (j : Int) hh0 (by omega) _) fun v B ⟨pB, r2, hv, b0, b1⟩ => ?_
        subst hv
        have hfB := pre_get pB hA2
        obtain ⟨y, hy, ey⟩ := at_mem (xs := its.map Vi.w) b0 (by rw [List.length_map, hlen]; exact b1)
        obtain ⟨q, hq, rfl⟩ := List.mem_map.mp hy
        refine sat_of (sub_lst hfB ey) ?_
        have hqok := hok q hq
        try simp only [q_nil, q_cons, k_nx, k_ret, k_brk, k_ct, q_asg, q_asgA, q_asgS, q_aug, q_ex, q_ret, q_retN, q_pass, q_brk, q_cont, q_ifs, q_for, q_whl, b_t, b_f, be_t, be_f, ba_t, ba_f, bo_t, bo_f, t_bl, t_int, t_non,     q_var, q_con, q_glb, q_tup, q_lst, q_dict0, q_bin, q_neg, q_not, q_and, q_or, q_ife, q_cmp, q_cmp2, q_attr, q_sub, q_srev, q_call, q_callk, q_meth, q_bm, q_new, q_bi, q_isi, q_lc, q_lc2, q_dc, q_sortk, q_sortv, q_sortvM, q_maxk, q_sortm, q_dict2, q_anil, q_acons, q_ival, q_items, q_vals, q_rng, q_zip, q_cntT, q_tab, q_tnin, q_zipT,     o_add, o_sub, o_mul, o_fdiv, o_mod, o_pow18, o_addT, ag_add, ag_sub, c_lt, c_gt, c_le, c_ge, c_eq, c_ne, c_is, c_isn, c_in, c_nin, u_tup, u_scr, n_scr, n_tup, n_str, n_abs, n_min2, n_min3, n_max2, tg_nm, tg_2, tg_3, at_0, at_1, at_2, at_3, at_4, i_int, sat_some, getV_0, getV_s,     List.set_cons_zero, List.set_cons_succ, List.map_cons, List.map_nil, List.replicate_succ, List.replicate_zero, List.cons_append, List.nil_append, List.length_cons, List.length_nil]
        refine ⟨bmT_append hfB, ?_⟩
        refine sat_of (str_ok S hqok.2.1 q.1 hqok.1 B) ?_
        try simp only [q_nil, q_cons, k_nx, k_ret, k_brk, k_ct, q_asg, q_asgA, q_asgS, q_aug, q_ex, q_ret, q_retN, q_pass, q_brk, q_cont, q_ifs, q_for, q_whl, b_t, b_f, be_t, be_f, ba_t, ba_f, bo_t, bo_f, t_bl, t_int, t_non,     q_var, q_con, q_glb, q_tup, q_lst, q_dict0, q_bin, q_neg, q_not, q_and, q_or, q_ife, q_cmp, q_cmp2, q_attr, q_sub, q_srev, q_call, q_callk, q_meth, q_bm, q_new, q_bi, q_isi, q_lc, q_lc2, q_dc, q_sortk, q_sortv, q_sortvM, q_maxk, q_sortm, q_dict2, q_anil, q_acons, q_ival, q_items, q_vals, q_rng, q_zip, q_cntT, q_tab, q_tnin, q_zipT,     o_add, o_sub, o_mul, o_fdiv, o_mod, o_pow18, o_addT, ag_add, ag_sub, c_lt, c_gt, c_le, c_ge, c_eq, c_ne, c_is, c_isn, c_in, c_nin, u_tup, u_scr, n_scr, n_tup, n_str, n_abs, n_min2, n_min3, n_max2, tg_nm, tg_2, tg_3, at_0, at_1, at_2, at_3, at_4, i_int, sat_some, getV_0, getV_s,     List.set_cons_zero, List.set_cons_succ, List.map_cons, List.map_nil, List.replicate_succ, List.replicate_zero, List.cons_append, List.nil_append, List.length_cons, List.length_nil]
        refine ⟨rfl, ?_⟩
        have ec : bmW .scount (.str (dat (vdN q.1 q.2.v)).shown) [.str "void"] B = .ok (.int (Txt.count (dat (vdN q.1 q.2.v)).shown "void")) B := rfl
        refine sat_of ec ?_
        try simp only [q_nil, q_cons, k_nx, k_ret, k_brk, k_ct, q_asg, q_asgA, q_asgS, q_aug, q_ex, q_ret, q_retN, q_pass, q_brk, q_cont, q_ifs, q_for, q_whl, b_t, b_f, be_t, be_f, ba_t, ba_f, bo_t, bo_f, t_bl, t_int, t_non,     q_var, q_con, q_glb, q_tup, q_lst, q_dict0, q_bin, q_neg, q_not, q_and, q_or, q_ife, q_cmp, q_cmp2, q_attr, q_sub, q_srev, q_call, q_callk, q_meth, q_bm, q_new, q_bi, q_isi, q_lc, q_lc2, q_dc, q_sortk, q_sortv, q_sortvM, q_maxk, q_sortm, q_dict2, q_anil, q_acons, q_ival, q_items, q_vals, q_rng, q_zip, q_cntT, q_tab, q_tnin, q_zipT,     o_add, o_sub, o_mul, o_fdiv, o_mod, o_pow18, o_addT, ag_add, ag_sub, c_lt, c_gt, c_le, c_ge, c_eq, c_ne, c_is, c_isn, c_in, c_nin, u_tup, u_scr, n_scr, n_tup, n_str, n_abs, n_min2, n_min3, n_max2, tg_nm, tg_2, tg_3, at_0, at_1, at_2, at_3, at_4, i_int, sat_some, getV_0, getV_s,     List.set_cons_zero, List.set_cons_succ, List.map_cons, List.map_nil, List.replicate_succ, List.replicate_zero, List.cons_append, List.nil_append, List.length_cons, List.length_nil]
        by_cases c3 : Txt.count (dat (vdN q.1 q.2.v)).shown "void" < 3
        · rw [decide_eq_true c3]
          simp only [q_nil, q_cons, k_nx, k_ret, k_brk, k_ct, q_asg, q_asgA, q_asgS, q_aug, q_ex, q_ret, q_retN, q_pass, q_brk, q_cont, q_ifs, q_for, q_whl, b_t, b_f, be_t, be_f, ba_t, ba_f, bo_t, bo_f, t_bl, t_int, t_non,     q_var, q_con, q_glb, q_tup, q_lst, q_dict0, q_bin, q_neg, q_not, q_and, q_or, q_ife, q_cmp, q_cmp2, q_attr, q_sub, q_srev, q_call, q_callk, q_meth, q_bm, q_new, q_bi, q_isi, q_lc, q_lc2, q_dc, q_sortk, q_sortv, q_sortvM, q_maxk, q_sortm, q_dict2, q_anil, q_acons, q_ival, q_items, q_vals, q_rng, q_zip, q_cntT, q_tab, q_tnin, q_zipT,     o_add, o_sub, o_mul, o_fdiv, o_mod, o_pow18, o_addT, ag_add, ag_sub, c_lt, c_gt, c_le, c_ge, c_eq, c_ne, c_is, c_isn, c_in, c_nin, u_tup, u_scr, n_scr, n_tup, n_str, n_abs, n_min2, n_min3, n_max2, tg_nm, tg_2, tg_3, at_0, at_1, at_2, at_3, at_4, i_int, sat_some, getV_0, getV_s,     List.set_cons_zero, List.set_cons_succ, List.map_cons, List.map_nil, List.replicate_succ, List.replicate_zero, List.cons_append, List.nil_append, List.length_cons, List.length_nil]
          have h3 := cnt_vd (t := q.2) hqok.1 c3
          refine ⟨len_ok (by decide), ?_⟩
          exact put B (q.1 + 1, q.2) _ _ (pA2.trans pB) hfB ⟨by show q.1 + 1 ≤ 3; omega, hqok.2⟩
        · rw [decide_eq_false c3]
          simp only [q_nil, q_cons, k_nx, k_ret, k_brk, k_ct, q_asg, q_asgA, q_asgS, q_aug, q_ex, q_ret, q_retN, q_pass, q_brk, q_cont, q_ifs, q_for, q_whl, b_t, b_f, be_t, be_f, ba_t, ba_f, bo_t, bo_f, t_bl, t_int, t_non,     q_var, q_con, q_glb, q_tup, q_lst, q_dict0, q_bin, q_neg, q_not, q_and, q_or, q_ife, q_cmp, q_cmp2, q_attr, q_sub, q_srev, q_call, q_callk, q_meth, q_bm, q_new, q_bi, q_isi, q_lc, q_lc2, q_dc, q_sortk, q_sortv, q_sortvM, q_maxk, q_sortm, q_dict2, q_anil, q_acons, q_ival, q_items, q_vals, q_rng, q_zip, q_cntT, q_tab, q_tnin, q_zipT,     o_add, o_sub, o_mul, o_fdiv, o_mod, o_pow18, o_addT, ag_add, ag_sub, c_lt, c_gt, c_le, c_ge, c_eq, c_ne, c_is, c_isn, c_in, c_nin, u_tup, u_scr, n_scr, n_tup, n_str, n_abs, n_min2, n_min3, n_max2, tg_nm, tg_2, tg_3, at_0, at_1, at_2, at_3, at_4, i_int, sat_some, getV_0, getV_s,     List.set_cons_zero, List.set_cons_succ, List.map_cons, List.map_nil, List.replicate_succ, List.replicate_zero, List.cons_append, List.nil_append, List.length_cons, List.length_nil]
          exact put B q _ _ (pA2.trans pB) hfB hqok
    · rw [decide_eq_false c1]
      simp only [q_nil, q_cons, k_nx, k_ret, k_brk, k_ct, q_asg, q_asgA, q_asgS, q_aug, q_ex, q_ret, q_retN, q_pass, q_brk, q_cont, q_ifs, q_for, q_whl, b_t, b_f, be_t, be_f, ba_t, ba_f, bo_t, bo_f, t_bl, t_int, t_non,     q_var, q_con, q_glb, q_tup, q_lst, q_dict0, q_bin, q_neg, q_not, q_and, q_or, q_ife, q_cmp, q_cmp2, q_attr, q_sub, q_srev, q_call, q_callk, q_meth, q_bm, q_new, q_bi, q_isi, q_lc, q_lc2, q_dc, q_sortk, q_sortv, q_sortvM, q_maxk, q_sortm, q_dict2, q_anil, q_acons, q_ival, q_items, q_vals, q_rng, q_zip, q_cntT, q_tab, q_tnin, q_zipT,     o_add, o_sub, o_mul, o_fdiv, o_mod, o_pow18, o_addT, ag_add, ag_sub, c_lt, c_gt, c_le, c_ge, c_eq, c_ne, c_is, c_isn, c_in, c_nin, u_tup, u_scr, n_scr, n_tup, n_str, n_abs, n_min2, n_min3, n_max2, tg_nm, tg_2, tg_3, at_0, at_1, at_2, at_3, at_4, i_int, sat_some, getV_0, getV_s,     List.set_cons_zero, List.set_cons_succ, List.map_cons, List.map_nil, List.replicate_succ, List.replicate_zero, List.cons_append, List.nil_append, List.length_cons, List.length_nil]
      exact ⟨bmT_append hfA, plain A _ (pm.trans pA) hfA⟩
  · rintro pre σ M' ⟨j, its, x4, x5, x6, hj, hpost, rfl, pm, hok, hlen, hf⟩
    have hn2 : j = many := by
      by_cases z : j < many
      · rw [List.drop_eq_getElem_cons (by simpa using z)] at hpost; cases hpost
      · omega
    subst hn2
    exact ⟨rfl, its, x4, x5, x6, rfl, pm, hok, hlen, hf⟩
  · subst eq
    simp only [q_nil, q_cons, k_nx, k_ret, k_brk, k_ct, q_asg, q_asgA, q_asgS, q_aug, q_ex, q_ret, q_retN, q_pass, q_brk, q_cont, q_ifs, q_for, q_whl, b_t, b_f, be_t, be_f, ba_t, ba_f, bo_t, bo_f, t_bl, t_int, t_non,     q_var, q_con, q_glb, q_tup, q_lst, q_dict0, q_bin, q_neg, q_not, q_and, q_or, q_ife, q_cmp, q_cmp2, q_attr, q_sub, q_srev, q_call, q_callk, q_meth, q_bm, q_new, q_bi, q_isi, q_lc, q_lc2, q_dc, q_sortk, q_sortv, q_sortvM, q_maxk, q_sortm, q_dict2, q_anil, q_acons, q_ival, q_items, q_vals, q_rng, q_zip, q_cntT, q_tab, q_tnin, q_zipT,     o_add, o_sub, o_mul, o_fdiv, o_mod, o_pow18, o_addT, ag_add, ag_sub, c_lt, c_gt, c_le, c_ge, c_eq, c_ne, c_is, c_isn, c_in, c_nin, u_tup, u_scr, n_scr, n_tup, n_str, n_abs, n_min2, n_min3, n_max2, tg_nm, tg_2, tg_3, at_0, at_1, at_2, at_3, at_4, i_int, sat_some, getV_0, getV_s,     List.set_cons_zero, List.set_cons_succ, List.map_cons, List.map_nil, List.replicate_succ, List.replicate_zero, List.cons_append, List.nil_append, List.length_cons, List.length_nil]
    exact ⟨p2, f, its, rfl, Nat.le_refl _, hok, hlen, hf⟩
end Bh
end
section
set_option Elab.async false
set_option linter.all false
set_option maxRecDepth 100000
set_option maxHeartbeats 0
namespace Bh
open PySem MP
theorem gb_place {a b : Str} {x y : Int} (ha : okS a = true) (hb : okS b = true) (hx : okI x = true) (hy : okI y = true) : GB ⟨"place", 0, [.str a, .str b, .int x, .int y]⟩ :=
  gb_of (by decide) sig_place (by simp only [sigM, ha, hb, hx, hy, Bool.and_self]) (by decide +kernel) (by decide +kernel)
theorem gb_share {o : Str} {d x : Int} (hd : okI d = true) (ho : okS o = true) (hx : okI x = true) (hw : OW o) : GB ⟨"share", d, [.str "b", .str o, .int x]⟩ :=
  ⟨⟨hd, _, sig_share, by simp only [sigM, b_ok, ho, hx, Bool.and_self]⟩, fun e => absurd (show ("share" : Str) = "dam" from e) (by decide +kernel), fun e => absurd (show ("share" : Str) = "release" from e) (by decide +kernel), fun _ => ⟨_, _, _, rfl, rfl, hw⟩⟩
theorem gb_dam {d x y : Int} (hd : okI d = true) (hx : okI x = true) (hy : okI y = true) (h : y ≤ 1000) : GB ⟨"dam", d, [.str "b", .int x, .int y]⟩ :=
  ⟨⟨hd, _, sig_dam, by simp only [sigM, b_ok, hx, hy, Bool.and_self]⟩, fun _ => ⟨_, _, _, rfl, h, rfl⟩, fun e => absurd (show ("dam" : Str) = "release" from e) (by decide +kernel), fun e => absurd (show ("dam" : Str) = "share" from e) (by decide +kernel)⟩
theorem four {ws : List Wv} {P : Wv → Prop} (hl : ws.length = 4) (h : ∀ w ∈ ws, P w) : ∃ a b c d, ws = [a, b, c, d] ∧ P a ∧ P b ∧ P c ∧ P d := by
  match ws, hl with
  | [a, b, c, d], _ => exact ⟨a, b, c, d, rfl, h a (by simp), h b (by simp), h c (by simp), h d (by simp)⟩
def NumW (w : Wv) : Prop := ∃ q : Int, w = .int q ∧ okI q = true
theorem lc_draw {G : Pg} {c e : Sw → Mem → Out Wv} {σ : Sw} {n : Nat} {M : Mem} {t : Nat} (P : Wv → Prop) (hn : n ≤ 1000) (hc : ∀ τ N, c τ N = .ok (.bl true) N) (he : ∀ (j : Nat) N, j < n → M <+: N → (e (σ.set t (some (.int (j : Int)))) N).sat fun w N2 => N <+: N2 ∧ P w) :
    (lcGo G (.nm t) c e [] ((List.range n).map fun k : Nat => Wv.int (0 + (k : Int))) σ [] M).sat fun ws M' => M <+: M' ∧ ws.length = n ∧ ∀ w ∈ ws, P w := by
  have hz : 1001 ≤ sizeLine := by decide
  refine lc_rule (fun pre post acc M' => ∃ j : Nat, j ≤ n ∧ post = ((List.range n).drop j).map (fun k : Nat => Wv.int (0 + (k : Int))) ∧ M <+: M' ∧ acc.length = j ∧ ∀ w ∈ acc, P w) ?_ ?_ _ [] [] M ⟨0, by omega, rfl, List.prefix_refl _, rfl, fun w hw => by cases hw⟩
  · rintro pre x post acc M' ⟨j, hj, hpost, pm, hlen, hP⟩
    have hj2 : j < n := by
      by_cases z : j < n
      · exact z
      · rw [List.drop_eq_nil_of_le (by simp; omega)] at hpost; cases hpost
    rw [List.drop_eq_getElem_cons (by simpa using hj2)] at hpost
    simp only [List.getElem_range, List.map_cons, List.cons.injEq] at hpost
    obtain ⟨rfl, rfl⟩ := hpost
    have e0 : (0 : Int) + (j : Int) = (j : Int) := by omega
    rw [e0]
    refine ⟨rfl, _, rfl, ?_⟩
    rw [hc]
    refine ⟨true, rfl, fun _ => ?_, fun z => by cases z⟩
    refine sat_mono (he j M' hj2 pm) fun w N2 ⟨q, hw⟩ => ⟨len_ok (by omega), j + 1, hj2, rfl, pm.trans q, by simp [hlen], fun x hx => ?_⟩
    rcases List.mem_append.mp hx with hx | hx
    · exact hP x hx
    · rw [List.mem_singleton.mp hx]; exact hw
  · rintro pre acc M' ⟨j, hj, hpost, pm, hlen, hP⟩
    have hn2 : j = n := by
      by_cases z : j < n
      · rw [List.drop_eq_getElem_cons (by simpa using z)] at hpost; cases hpost
      · omega
    exact ⟨rfl, pm, by omega, hP⟩
def GoodV (w : Wv) : Prop := ∃ t, w = t.v ∧ GB t
def GoodL (m : Nat) (N : Mem) (x : Wv) (n : Nat) : Prop := ∃ y ws, x = .ref y ∧ m ≤ y ∧ N[y]? = some (.lst ws) ∧ ws.length = n ∧ ∀ w ∈ ws, GoodV w
theorem GoodL.mono {m : Nat} {N N2 : Mem} {x : Wv} {n : Nat} (h : GoodL m N x n) (p : N <+: N2) : GoodL m N2 x n := by
  obtain ⟨y, ws, h1, h2, h3, h4⟩ := h
  exact ⟨y, ws, h1, h2, pre_get p h3, h4⟩
theorem add_good {m : Nat} {N : Mem} {x w : Wv} {n : Nat} {Q : Wv → Mem → Prop} (h : GoodL m N x n) (hm : m ≤ N.length) (hn : n ≤ 100) (hw : GoodV w) (q : ∀ x' N', N <+: N' → GoodL m N' x' (n + 1) → Q x' N') : (binW .add x (.ref N.length) (N ++ [.lst [w]])).sat Q := by
  have hz : 1001 ≤ sizeLine := by decide
  obtain ⟨y, ws, rfl, h2, h3, h4, h5⟩ := h
  refine o_addL y N.length ws [w] (pre_get (List.prefix_append _ _) h3) (at_new ..) (len_ok (by simp; omega)) ?_
  refine q _ _ (pre_snoc (List.prefix_append _ _) _) ⟨_, _, rfl, by simp; omega, at_new .., by simp [h4], fun v hv => ?_⟩
  rcases List.mem_append.mp hv with hv | hv
  · exact h5 v hv
  · rw [List.mem_singleton.mp hv]; exact hw
theorem law_base_ok (S : List Int) (hl : S.length ≤ 63) (k : Nat) (i : Int) (hi : 0 ≤ i) (M : Mem) :
    (callN (Gp S) fuel (k + 4) ix__law_base [.scr, .int i] M).sat fun v M' => M <+: M' ∧ ∃ y ws, v = .ref y ∧ M.length ≤ y ∧ ws.length = 10 ∧ (∀ w ∈ ws, GoodV w) ∧ M'[y]? = some (.lst ws) := by
  have hz : 1001 ≤ sizeLine := by decide
  have o1 : okS "a" = true := by decide +kernel
  have o3 : okS "c" = true := by decide +kernel
  have o4 : okS "d" = true := by decide +kernel
  have o5 : okS "-" = true := by decide +kernel
  have o6 : okS "o" = true := by decide +kernel
  have o7 : okS "w" = true := by decide +kernel
  rw [at__law_base]
  refine run_sat rfl ?_
  show (evSl (Gp S) _ _ fuel sl__law_base [some .scr, some (.int i), none, none, none, none] M).sat _
  unfold sl__law_base
  have hlk : ∀ N : Mem, lockM [] N = N := fun _ => rfl
  have hul : ∀ N : Mem, unlkM [] N = N := fun _ => rfl
  simp only [q_nil, q_cons, k_nx, k_ret, k_brk, k_ct, q_asg, q_asgA, q_asgS, q_aug, q_ex, q_ret, q_retN, q_pass, q_brk, q_cont, q_ifs, q_for, q_whl, b_t, b_f, be_t, be_f, ba_t, ba_f, bo_t, bo_f, t_bl, t_int, t_non,     q_var, q_con, q_glb, q_tup, q_lst, q_dict0, q_bin, q_neg, q_not, q_and, q_or, q_ife, q_cmp, q_cmp2, q_attr, q_sub, q_srev, q_call, q_callk, q_meth, q_bm, q_new, q_bi, q_isi, q_lc, q_lc2, q_dc, q_sortk, q_sortv, q_sortvM, q_maxk, q_sortm, q_dict2, q_anil, q_acons, q_ival, q_items, q_vals, q_rng, q_zip, q_cntT, q_tab, q_tnin, q_zipT,     o_add, o_sub, o_mul, o_fdiv, o_mod, o_pow18, o_addT, ag_add, ag_sub, c_lt, c_gt, c_le, c_ge, c_eq, c_ne, c_is, c_isn, c_in, c_nin, u_tup, u_scr, n_scr, n_tup, n_str, n_abs, n_min2, n_min3, n_max2, tg_nm, tg_2, tg_3, at_0, at_1, at_2, at_3, at_4, i_int, sat_some, getV_0, getV_s,     List.set_cons_zero, List.set_cons_succ, List.map_cons, List.map_nil, List.replicate_succ, List.replicate_zero, List.cons_append, List.nil_append, List.length_cons, List.length_nil]
  refine ⟨by decide, ?_⟩
  rw [rng_eq 0 4 4 (by omega)]
  simp only [hlk, hul]
  refine sat_mono (lc_draw NumW (by omega) (fun τ N => by simp only [evE]) (fun j N hj pN => ?_)) fun ws M1 ⟨p1, hl1, hw1⟩ => ?_
  · show (evE (Gp S) _ _ _ [some .scr, some (.int i), none, none, none, some (.int (j : Int))] N).sat _
    simp only [q_nil, q_cons, k_nx, k_ret, k_brk, k_ct, q_asg, q_asgA, q_asgS, q_aug, q_ex, q_ret, q_retN, q_pass, q_brk, q_cont, q_ifs, q_for, q_whl, b_t, b_f, be_t, be_f, ba_t, ba_f, bo_t, bo_f, t_bl, t_int, t_non,     q_var, q_con, q_glb, q_tup, q_lst, q_dict0, q_bin, q_neg, q_not, q_and, q_or, q_ife, q_cmp, q_cmp2, q_attr, q_sub, q_srev, q_call, q_callk, q_meth, q_bm, q_new, q_bi, q_isi, q_lc, q_lc2, q_dc, q_sortk, q_sortv, q_sortvM, q_maxk, q_sortm, q_dict2, q_anil, q_acons, q_ival, q_items, q_vals, q_rng, q_zip, q_cntT, q_tab, q_tnin, q_zipT,     o_add, o_sub, o_mul, o_fdiv, o_mod, o_pow18, o_addT, ag_add, ag_sub, c_lt, c_gt, c_le, c_ge, c_eq, c_ne, c_is, c_isn, c_in, c_nin, u_tup, u_scr, n_scr, n_tup, n_str, n_abs, n_min2, n_min3, n_max2, tg_nm, tg_2, tg_3, at_0, at_1, at_2, at_3, at_4, i_int, sat_some, getV_0, getV_s,     List.set_cons_zero, List.set_cons_succ, List.map_cons, List.map_nil, List.replicate_succ, List.replicate_zero, List.cons_append, List.nil_append, List.length_cons, List.length_nil]
    refine sat_mono (drawn_ok S hl (k + 2) (i + (j : Int)) 3 (by omega) (by omega) N) fun v N2 ⟨p, r, hv, h0, h1⟩ => ?_
    subst hv
    try simp only [q_nil, q_cons, k_nx, k_ret, k_brk, k_ct, q_asg, q_asgA, q_asgS, q_aug, q_ex, q_ret, q_retN, q_pass, q_brk, q_cont, q_ifs, q_for, q_whl, b_t, b_f, be_t, be_f, ba_t, ba_f, bo_t, bo_f, t_bl, t_int, t_non,     q_var, q_con, q_glb, q_tup, q_lst, q_dict0, q_bin, q_neg, q_not, q_and, q_or, q_ife, q_cmp, q_cmp2, q_attr, q_sub, q_srev, q_call, q_callk, q_meth, q_bm, q_new, q_bi, q_isi, q_lc, q_lc2, q_dc, q_sortk, q_sortv, q_sortvM, q_maxk, q_sortm, q_dict2, q_anil, q_acons, q_ival, q_items, q_vals, q_rng, q_zip, q_cntT, q_tab, q_tnin, q_zipT,     o_add, o_sub, o_mul, o_fdiv, o_mod, o_pow18, o_addT, ag_add, ag_sub, c_lt, c_gt, c_le, c_ge, c_eq, c_ne, c_is, c_isn, c_in, c_nin, u_tup, u_scr, n_scr, n_tup, n_str, n_abs, n_min2, n_min3, n_max2, tg_nm, tg_2, tg_3, at_0, at_1, at_2, at_3, at_4, i_int, sat_some, getV_0, getV_s,     List.set_cons_zero, List.set_cons_succ, List.map_cons, List.map_nil, List.replicate_succ, List.replicate_zero, List.cons_append, List.nil_append, List.length_cons, List.length_nil]
    exact ⟨p, _, rfl, okI_of (by omega) (by omega)⟩
  obtain ⟨t0, t1, t2, t3, rfl, ⟨q0, rfl, g0⟩, ⟨q1, rfl, g1⟩, ⟨q2, rfl, g2⟩, ⟨q3, rfl, g3⟩⟩ := four hl1 hw1
  try simp only [q_nil, q_cons, k_nx, k_ret, k_brk, k_ct, q_asg, q_asgA, q_asgS, q_aug, q_ex, q_ret, q_retN, q_pass, q_brk, q_cont, q_ifs, q_for, q_whl, b_t, b_f, be_t, be_f, ba_t, ba_f, bo_t, bo_f, t_bl, t_int, t_non,     q_var, q_con, q_glb, q_tup, q_lst, q_dict0, q_bin, q_neg, q_not, q_and, q_or, q_ife, q_cmp, q_cmp2, q_attr, q_sub, q_srev, q_call, q_callk, q_meth, q_bm, q_new, q_bi, q_isi, q_lc, q_lc2, q_dc, q_sortk, q_sortv, q_sortvM, q_maxk, q_sortm, q_dict2, q_anil, q_acons, q_ival, q_items, q_vals, q_rng, q_zip, q_cntT, q_tab, q_tnin, q_zipT,     o_add, o_sub, o_mul, o_fdiv, o_mod, o_pow18, o_addT, ag_add, ag_sub, c_lt, c_gt, c_le, c_ge, c_eq, c_ne, c_is, c_isn, c_in, c_nin, u_tup, u_scr, n_scr, n_tup, n_str, n_abs, n_min2, n_min3, n_max2, tg_nm, tg_2, tg_3, at_0, at_1, at_2, at_3, at_4, i_int, sat_some, getV_0, getV_s,     List.set_cons_zero, List.set_cons_succ, List.map_cons, List.map_nil, List.replicate_succ, List.replicate_zero, List.cons_append, List.nil_append, List.length_cons, List.length_nil]
  refine ⟨by decide, ?_⟩
  generalize hM2 : M1 ++ [Ob.lst [Wv.int q0, .int q1, .int q2, .int q3]] = M2
  have p2 : M1 <+: M2 := by rw [← hM2]; exact List.prefix_append _ _
  have ht2 : M2[M1.length]? = some (.lst [Wv.int q0, .int q1, .int q2, .int q3]) := by rw [← hM2]; exact at_new ..
  generalize M1.length = tr at *
  refine sat_mono (lc_draw NumW (by omega) (fun τ N => by simp only [evE]) (fun j N hj pN => ?_)) fun ws M3 ⟨p3, hl3, hw3⟩ => ?_
  · show (evE (Gp S) _ _ _ [some .scr, some (.int i), some (.ref tr), none, none, some (.int (j : Int))] N).sat _
    simp only [q_nil, q_cons, k_nx, k_ret, k_brk, k_ct, q_asg, q_asgA, q_asgS, q_aug, q_ex, q_ret, q_retN, q_pass, q_brk, q_cont, q_ifs, q_for, q_whl, b_t, b_f, be_t, be_f, ba_t, ba_f, bo_t, bo_f, t_bl, t_int, t_non,     q_var, q_con, q_glb, q_tup, q_lst, q_dict0, q_bin, q_neg, q_not, q_and, q_or, q_ife, q_cmp, q_cmp2, q_attr, q_sub, q_srev, q_call, q_callk, q_meth, q_bm, q_new, q_bi, q_isi, q_lc, q_lc2, q_dc, q_sortk, q_sortv, q_sortvM, q_maxk, q_sortm, q_dict2, q_anil, q_acons, q_ival, q_items, q_vals, q_rng, q_zip, q_cntT, q_tab, q_tnin, q_zipT,     o_add, o_sub, o_mul, o_fdiv, o_mod, o_pow18, o_addT, ag_add, ag_sub, c_lt, c_gt, c_le, c_ge, c_eq, c_ne, c_is, c_isn, c_in, c_nin, u_tup, u_scr, n_scr, n_tup, n_str, n_abs, n_min2, n_min3, n_max2, tg_nm, tg_2, tg_3, at_0, at_1, at_2, at_3, at_4, i_int, sat_some, getV_0, getV_s,     List.set_cons_zero, List.set_cons_succ, List.map_cons, List.map_nil, List.replicate_succ, List.replicate_zero, List.cons_append, List.nil_append, List.length_cons, List.length_nil]
    refine ⟨len_ok (by decide), ?_⟩
    refine sat_mono (drawn_ok S hl (k + 2) (i + 4 + (j : Int)) 4 (by omega) (by omega) _) fun v N2 ⟨p, r, hv, h0, h1⟩ => ?_
    subst hv
    obtain ⟨y4, hy4, e4⟩ := at_mem (xs := [Wv.int 0, .int 0, .int 2, .int 5]) h0 h1
    refine sat_of (sub_lst (pre_get p (at_new ..)) e4) ⟨(List.prefix_append _ _).trans p, ?_⟩
    simp only [List.mem_cons, List.not_mem_nil, or_false] at hy4
    rcases hy4 with rfl | rfl | rfl | rfl <;> exact ⟨_, rfl, by decide⟩
  obtain ⟨t0, t1, t2, t3, rfl, ⟨u0, rfl, k0⟩, ⟨u1, rfl, k1⟩, ⟨u2, rfl, k2⟩, ⟨u3, rfl, k3⟩⟩ := four hl3 hw3
  generalize hM4 : M3 ++ [Ob.lst [Wv.int u0, .int u1, .int u2, .int u3]] = M4
  have p4 : M3 <+: M4 := by rw [← hM4]; exact List.prefix_append _ _
  have hs4 : M4[M3.length]? = some (.lst [Wv.int u0, .int u1, .int u2, .int u3]) := by rw [← hM4]; exact at_new ..
  generalize M3.length = ls at *
  have ht4 := pre_get (p3.trans p4) ht2
  have pM4 : M <+: M4 := p1.trans (p2.trans (p3.trans p4))
  clear hM4 hM2 p4 p3 p2 p1
  try simp only [q_nil, q_cons, k_nx, k_ret, k_brk, k_ct, q_asg, q_asgA, q_asgS, q_aug, q_ex, q_ret, q_retN, q_pass, q_brk, q_cont, q_ifs, q_for, q_whl, b_t, b_f, be_t, be_f, ba_t, ba_f, bo_t, bo_f, t_bl, t_int, t_non,     q_var, q_con, q_glb, q_tup, q_lst, q_dict0, q_bin, q_neg, q_not, q_and, q_or, q_ife, q_cmp, q_cmp2, q_attr, q_sub, q_srev, q_call, q_callk, q_meth, q_bm, q_new, q_bi, q_isi, q_lc, q_lc2, q_dc, q_sortk, q_sortv, q_sortvM, q_maxk, q_sortm, q_dict2, q_anil, q_acons, q_ival, q_items, q_vals, q_rng, q_zip, q_cntT, q_tab, q_tnin, q_zipT,     o_add, o_sub, o_mul, o_fdiv, o_mod, o_pow18, o_addT, ag_add, ag_sub, c_lt, c_gt, c_le, c_ge, c_eq, c_ne, c_is, c_isn, c_in, c_nin, u_tup, u_scr, n_scr, n_tup, n_str, n_abs, n_min2, n_min3, n_max2, tg_nm, tg_2, tg_3, at_0, at_1, at_2, at_3, at_4, i_int, sat_some, getV_0, getV_s,     List.set_cons_zero, List.set_cons_succ, List.map_cons, List.map_nil, List.replicate_succ, List.replicate_zero, List.cons_append, List.nil_append, List.length_cons, List.length_nil]
  refine sat_of (sub_lst ht4 rfl) (sat_of (sub_lst hs4 rfl) ⟨len_ok (by decide), len_ok (by decide), ?_⟩)
  have pA : M4 <+: M4 ++ [Ob.lst [Wv.tup [.str "place", .int 0, .str "a", .str "b", .int q0, .int u0]]] := List.prefix_append _ _
  refine sat_of (sub_lst (pre_get pA ht4) rfl) (sat_of (sub_lst (pre_get pA hs4) rfl) ⟨len_ok (by decide), len_ok (by decide), ?_⟩)
  have hml : M.length ≤ M4.length := pre_len pM4
  have G1 : GoodL M.length (M4 ++ [Ob.lst [Wv.tup [.str "place", .int 0, .str "a", .str "b", .int q0, .int u0]]]) (.ref M4.length) 1 :=
    ⟨_, _, rfl, hml, at_new .., rfl, fun w hw => by rw [List.mem_singleton.mp hw]; exact ⟨_, rfl, gb_place o1 b_ok g0 k0⟩⟩
  generalize (M4 ++ [Ob.lst [Wv.tup [.str "place", .int 0, .str "a", .str "b", .int q0, .int u0]]]) = N1 at *
  generalize (Wv.ref M4.length) = f1 at *
  have l1 : M.length ≤ N1.length := Nat.le_trans hml (pre_len pA)
  have t1 := pre_get pA ht4
  have s1 := pre_get pA hs4
  refine add_good G1 l1 (by omega) ⟨_, rfl, gb_place b_ok o3 g1 k1⟩ fun f2 N2 pB G2 => ?_
  have l2 : M.length ≤ N2.length := Nat.le_trans l1 (pre_len pB)
  have t2 := pre_get pB t1
  have s2 := pre_get pB s1
  refine sat_of (sub_lst t2 rfl) (sat_of (sub_lst s2 rfl) ⟨len_ok (by decide), len_ok (by decide), ?_⟩)
  refine add_good G2 l2 (by omega) ⟨_, rfl, gb_place o3 o5 g2 k2⟩ fun f3 N3 pC G3 => ?_
  have l3 : M.length ≤ N3.length := Nat.le_trans l2 (pre_len pC)
  have t3 := pre_get pC t2
  have s3 := pre_get pC s2
  refine sat_of (sub_lst t3 rfl) (sat_of (sub_lst s3 rfl) ⟨len_ok (by decide), len_ok (by decide), ?_⟩)
  refine add_good G3 l3 (by omega) ⟨_, rfl, gb_place o4 o3 g3 k3⟩ fun f4 N4 pD G4 => ?_
  have l4 : M.length ≤ N4.length := Nat.le_trans l3 (pre_len pD)
  refine ⟨len_ok (by decide), ?_⟩
  refine sat_mono (drawn_ok S hl (k + 2) (i + 8) 3 (by omega) (by omega) _) fun v N5 ⟨pE, r, hv, h0, h1⟩ => ?_
  subst hv
  obtain ⟨y5, hy5, e5⟩ := at_mem (xs := [Wv.int 0, .int 20, .int 100]) h0 h1
  refine sat_of (sub_lst (pre_get pE (at_new ..)) e5) ⟨len_ok (by decide), len_ok (by decide), ?_⟩
  have pE2 : N4 <+: N5 := (List.prefix_append _ _).trans pE
  have l5 : M.length ≤ N5.length := Nat.le_trans l4 (pre_len pE2)
  obtain ⟨z5, rfl, hz5, hz6⟩ : ∃ q : Int, y5 = .int q ∧ okI q = true ∧ q ≤ 1000 := by
    simp only [List.mem_cons, List.not_mem_nil, or_false] at hy5
    rcases hy5 with rfl | rfl | rfl <;> exact ⟨_, rfl, by decide, by decide⟩
  refine add_good (G4.mono pE2) l5 (by omega) ⟨_, rfl, gb_dam (d := 0) (x := 100) (by decide) (by decide) hz5 hz6⟩ fun f5 N6 pF G5 => ?_
  have l6 : M.length ≤ N6.length := Nat.le_trans l5 (pre_len pF)
  refine ⟨len_ok (by decide), len_ok (by decide), ?_⟩
  refine add_good G5 l6 (by omega) ⟨_, rfl, gb_share (d := 0) (x := 60) (by decide) o6 (by decide) (.inl rfl)⟩ fun f6 N7 pG G6 => ?_
  have l7 : M.length ≤ N7.length := Nat.le_trans l6 (pre_len pG)
  refine ⟨len_ok (by decide), ?_⟩
  refine sat_mono (drawn_ok S hl (k + 2) (i + 9) 2 (by omega) (by omega) _) fun v N8 ⟨pH, r, hv, h0, h1⟩ => ?_
  subst hv
  obtain ⟨y6, hy6, e6⟩ := at_mem (xs := [Wv.int 10, .int 50]) h0 h1
  refine sat_of (sub_lst (pre_get pH (at_new ..)) e6) ⟨len_ok (by decide), len_ok (by decide), ?_⟩
  have pH2 : N7 <+: N8 := (List.prefix_append _ _).trans pH
  have l8 : M.length ≤ N8.length := Nat.le_trans l7 (pre_len pH2)
  obtain ⟨z6, rfl, hz6⟩ : ∃ q : Int, y6 = .int q ∧ okI q = true := by
    simp only [List.mem_cons, List.not_mem_nil, or_false] at hy6
    rcases hy6 with rfl | rfl <;> exact ⟨_, rfl, by decide⟩
  refine add_good (G6.mono pH2) l8 (by omega) ⟨_, rfl, gb_share (d := 0) (by decide) o7 hz6 (.inr rfl)⟩ fun f7 N9 pI G7 => ?_
  have l9 : M.length ≤ N9.length := Nat.le_trans l8 (pre_len pI)
  have pM9 : M <+: N9 := pM4.trans (pA.trans (pB.trans (pC.trans (pD.trans (pE2.trans (pF.trans (pG.trans (pH2.trans pI))))))))
  clear pA pB pC pD pE pE2 pF pG pH pH2 pI pM4
  refine ⟨by decide, ?_⟩
  rw [rng_eq 0 3 3 (by omega)]
  refine sat_mono (lc_draw GoodV (by omega) (fun τ N => by simp only [evE]) (fun j N hj pN => ?_)) fun ws N10 ⟨pJ, hl10, hw10⟩ => ?_
  · show (evE (Gp S) _ _ _ [some .scr, some (.int i), some (.ref tr), some (.ref ls), some f7, some (.int (j : Int))] N).sat _
    simp only [q_nil, q_cons, k_nx, k_ret, k_brk, k_ct, q_asg, q_asgA, q_asgS, q_aug, q_ex, q_ret, q_retN, q_pass, q_brk, q_cont, q_ifs, q_for, q_whl, b_t, b_f, be_t, be_f, ba_t, ba_f, bo_t, bo_f, t_bl, t_int, t_non,     q_var, q_con, q_glb, q_tup, q_lst, q_dict0, q_bin, q_neg, q_not, q_and, q_or, q_ife, q_cmp, q_cmp2, q_attr, q_sub, q_srev, q_call, q_callk, q_meth, q_bm, q_new, q_bi, q_isi, q_lc, q_lc2, q_dc, q_sortk, q_sortv, q_sortvM, q_maxk, q_sortm, q_dict2, q_anil, q_acons, q_ival, q_items, q_vals, q_rng, q_zip, q_cntT, q_tab, q_tnin, q_zipT,     o_add, o_sub, o_mul, o_fdiv, o_mod, o_pow18, o_addT, ag_add, ag_sub, c_lt, c_gt, c_le, c_ge, c_eq, c_ne, c_is, c_isn, c_in, c_nin, u_tup, u_scr, n_scr, n_tup, n_str, n_abs, n_min2, n_min3, n_max2, tg_nm, tg_2, tg_3, at_0, at_1, at_2, at_3, at_4, i_int, sat_some, getV_0, getV_s,     List.set_cons_zero, List.set_cons_succ, List.map_cons, List.map_nil, List.replicate_succ, List.replicate_zero, List.cons_append, List.nil_append, List.length_cons, List.length_nil]
    refine ⟨mul_l (by decide), ?_⟩
    exact law_right_ok S hl k (i + 10 + 10 * (j : Int)) 0 (by omega) (by decide) N
  obtain ⟨y, us, rfl, hy0, hy, hyl, hyg⟩ := G7.mono pJ
  have l10 := pre_len pJ
  refine o_addL y N10.length us ws (pre_get (List.prefix_append _ _) hy) (at_new ..) (len_ok (by omega)) ?_
  refine ⟨pre_snoc (pre_snoc (pM9.trans pJ) _) _, _, _, rfl, by simp; omega, by simp; omega, fun w hw => ?_, at_new ..⟩
  rcases List.mem_append.mp hw with hw | hw
  · exact hyg w hw
  · exact hw10 w hw
theorem law_all_ok (S : List Int) (hl : S.length ≤ 63) (k : Nat) (i : Int) (many : Nat) (hi : 0 ≤ i) (hi2 : i ≤ 1000) (hm : many ≤ 100) (M : Mem) :
    (callN (Gp S) fuel (k + 5) ix__law_all_truths [.scr, .int i, .int (many : Int)] M).sat fun v M' => M <+: M' ∧ ∃ y its, v = .ref y ∧ M.length ≤ y ∧ ViOk its ∧ its.length = many + 10 ∧ M'[y]? = some (.lst (its.map Vi.w)) ∧ ∃ i ∈ its, i.1 = 0 := by
  have hz : 1001 ≤ sizeLine := by decide
  rw [at__law_all_truths]
  refine run_sat rfl ?_
  show (evSl (Gp S) _ _ fuel sl__law_all_truths [some .scr, some (.int i), some (.int (many : Int))] M).sat _
  unfold sl__law_all_truths
  simp only [q_nil, q_cons, k_nx, k_ret, k_brk, k_ct, q_asg, q_asgA, q_asgS, q_aug, q_ex, q_ret, q_retN, q_pass, q_brk, q_cont, q_ifs, q_for, q_whl, b_t, b_f, be_t, be_f, ba_t, ba_f, bo_t, bo_f, t_bl, t_int, t_non,     q_var, q_con, q_glb, q_tup, q_lst, q_dict0, q_bin, q_neg, q_not, q_and, q_or, q_ife, q_cmp, q_cmp2, q_attr, q_sub, q_srev, q_call, q_callk, q_meth, q_bm, q_new, q_bi, q_isi, q_lc, q_lc2, q_dc, q_sortk, q_sortv, q_sortvM, q_maxk, q_sortm, q_dict2, q_anil, q_acons, q_ival, q_items, q_vals, q_rng, q_zip, q_cntT, q_tab, q_tnin, q_zipT,     o_add, o_sub, o_mul, o_fdiv, o_mod, o_pow18, o_addT, ag_add, ag_sub, c_lt, c_gt, c_le, c_ge, c_eq, c_ne, c_is, c_isn, c_in, c_nin, u_tup, u_scr, n_scr, n_tup, n_str, n_abs, n_min2, n_min3, n_max2, tg_nm, tg_2, tg_3, at_0, at_1, at_2, at_3, at_4, i_int, sat_some, getV_0, getV_s,     List.set_cons_zero, List.set_cons_succ, List.map_cons, List.map_nil, List.replicate_succ, List.replicate_zero, List.cons_append, List.nil_append, List.length_cons, List.length_nil]
  refine sat_mono (law_base_ok S hl k i hi M) fun v A ⟨pA, y, ws, hv, hy0, hwl, hwg, hy⟩ => ?_
  subst hv
  refine sat_mono (law_truths_ok S hl k (i + 60) many (by omega) (by omega) hm A) fun v B ⟨pB, y2, its, hv, hy2, hok, hlen, hb⟩ => ?_
  subst hv
  have hv : ∃ us : List Bt, ws = us.map Bt.v ∧ ∀ u ∈ us, GB u := by
    clear hy hwl
    induction ws with
    | nil => exact ⟨[], rfl, fun u hu => by cases hu⟩
    | cons w ws ih =>
      obtain ⟨us, rfl, h⟩ := ih fun w hw => hwg w (List.mem_cons_of_mem _ hw)
      obtain ⟨t, rfl, ht⟩ := hwg w (List.mem_cons_self ..)
      refine ⟨t :: us, rfl, fun u hu => ?_⟩
      rcases List.mem_cons.mp hu with hu | hu
      · rw [hu]; exact ht
      · exact h u hu
  obtain ⟨us, rfl, hus⟩ := hv
  rw [List.length_map] at hwl
  refine o_addL y y2 _ _ (pre_get pB hy) hb (len_ok (by simp; omega)) ?_
  have pl := pre_len (pA.trans pB)
  refine ⟨pre_snoc (pA.trans pB) _, _, us.map (fun u => ((0, u) : Vi)) ++ its, rfl, pl, fun x hx => ?_, by simp; omega, ?_, ?_⟩
  · rcases List.mem_append.mp hx with hx | hx
    · obtain ⟨u, hu, rfl⟩ := List.mem_map.mp hx
      exact ⟨Nat.zero_le _, hus u hu⟩
    · exact hok x hx
  · rw [at_new, List.map_append, List.map_map]
    rfl
  · cases us with
    | nil => simp at hwl
    | cons u us => exact ⟨(0, u), by simp, rfl⟩
end Bh
end
section
set_option Elab.async false
set_option linter.all false
set_option maxRecDepth 100000
set_option maxHeartbeats 0
namespace Bh
open PySem MP
def trN : Nat → Bt → Tr
  | 0, t => .bs t.w (.int t.d :: t.xs)
  | n + 1, t => .vd (trN n t)
theorem trN_w : ∀ n t, (trN n t).w = vdN n t.v
  | 0, _ => rfl
  | n + 1, t => by show Wv.tup [.str "void", (trN n t).w] = _; rw [trN_w n t]; rfl
theorem trN_dep : ∀ n t, (trN n t).dep = n
  | 0, _ => rfl
  | n + 1, t => by show (trN n t).dep + 1 = _; rw [trN_dep n t]
theorem trN_ok {t : Bt} (h : BKb t) : ∀ n, (trN n t).ok
  | 0 => ⟨h.ok.nv, h.ok.sh⟩
  | n + 1 => trN_ok h n
theorem vd_key {t : Bt} (h : BKb t) : ∀ n m, n ≤ m → keyIn (m + 1) (vdN n t.v) = true
  | 0, m, _ => by
    obtain ⟨hd, s, hs, hm⟩ := h
    show keyTup m (.str t.w :: .int t.d :: t.xs) = true
    simp only [keyTup, keyIn, sig_key m hm, Bool.and_self]
  | n + 1, 0, h => by omega
  | n + 1, m + 1, hn => by
    show keyTup (m + 1) [.str "void", vdN n t.v] = true
    simp only [keyTup, keyIn, vd_key h n m (by omega), Bool.and_self]
theorem keyT_in {w : Wv} (h : ∃ ws, w = .tup ws) (k : keyIn 8 w = true) : keyT w = true := by
  obtain ⟨ws, rfl⟩ := h
  exact k
theorem vd_tup (t : Bt) : ∀ n, ∃ ws, vdN n t.v = .tup ws
  | 0 => ⟨_, rfl⟩
  | _ + 1 => ⟨_, rfl⟩
theorem vd_inner {t : Bt} (h : BKb t) (n : Nat) : ∃ m, m ≤ n ∧ inner (vdN n t.v) = vdN m t.v := by
  cases n with
  | zero =>
    refine ⟨0, Nat.le_refl _, ?_⟩
    have := h.ok.ln
    have h1 : 1 ≤ t.tn := by unfold Bt.tn; split <;> (try split) <;> omega
    obtain ⟨w, d, xs⟩ := t
    cases xs with
    | nil => simp at this; omega
    | cons x xs => rfl
  | succ n => exact ⟨n, by omega, rfl⟩
structure RF (R : List (Wv × List Wv)) : Prop where
  row : ∀ p ∈ R, (∃ t, GB t ∧ p.1 = t.thing) ∧ ∀ v ∈ p.2, ∃ u, GB u ∧ v = u.v ∧ u.thing = p.1
  len : R.length ≤ 200
  tot : (R.map fun p => p.2.length).sum ≤ 200
theorem addRow_tot (R : List (Wv × List Wv)) (k v : Wv) : ((addRow R k v).map fun p => p.2.length).sum = (R.map fun p => p.2.length).sum + 1 := by
  induction R with
  | nil => rfl
  | cons p R ih =>
    simp only [addRow]
    split
    · simp only [List.map_cons, List.sum_cons, List.length_append, List.length_singleton]; omega
    · simp only [List.map_cons, List.sum_cons, ih]; omega
theorem rows_tot (sk : List Bt) : ((rowsOf sk).map fun p => p.2.length).sum = sk.length := by
  have key : ∀ (sk : List Bt) (R : List (Wv × List Wv)), ((sk.foldl (fun R t => addRow R t.thing t.v) R).map fun p => p.2.length).sum = (R.map fun p => p.2.length).sum + sk.length := by
    intro sk
    induction sk with
    | nil => intro R; rfl
    | cons t sk ih =>
      intro R
      rw [List.foldl_cons, ih, addRow_tot, List.length_cons]
      omega
  have := key sk []
  simpa [rowsOf] using this
theorem addRow_row {R : List (Wv × List Wv)} {t : Bt} (ht : GB t) (h : ∀ p ∈ R, (∃ t, GB t ∧ p.1 = t.thing) ∧ ∀ v ∈ p.2, ∃ u, GB u ∧ v = u.v ∧ u.thing = p.1) : ∀ p ∈ addRow R t.thing t.v, (∃ t, GB t ∧ p.1 = t.thing) ∧ ∀ v ∈ p.2, ∃ u, GB u ∧ v = u.v ∧ u.thing = p.1 := by
  induction R with
  | nil =>
    intro p hp
    rw [List.mem_singleton.mp hp]
    exact ⟨⟨t, ht, rfl⟩, fun v hv => ⟨t, ht, List.mem_singleton.mp hv, rfl⟩⟩
  | cons q R ih =>
    intro p hp
    simp only [addRow] at hp
    have hq := h q (List.mem_cons_self ..)
    split at hp
    · rename_i e
      rcases List.mem_cons.mp hp with hp | hp
      · rw [hp]
        refine ⟨hq.1, fun v hv => ?_⟩
        rcases List.mem_append.mp hv with hv | hv
        · exact hq.2 v hv
        · exact ⟨t, ht, List.mem_singleton.mp hv, e.symm⟩
      · exact h p (List.mem_cons_of_mem _ hp)
    · rcases List.mem_cons.mp hp with hp | hp
      · rw [hp]; exact hq
      · exact ih (fun q hq => h q (List.mem_cons_of_mem _ hq)) p hp
theorem rows_rf {sk : List Bt} (h : ∀ t ∈ sk, GB t) (hl : sk.length ≤ 200) : RF (rowsOf sk) := by
  have key : ∀ (sk : List Bt) (R : List (Wv × List Wv)), (∀ t ∈ sk, GB t) → (∀ p ∈ R, (∃ t, GB t ∧ p.1 = t.thing) ∧ ∀ v ∈ p.2, ∃ u, GB u ∧ v = u.v ∧ u.thing = p.1) → (∀ p ∈ sk.foldl (fun R t => addRow R t.thing t.v) R, (∃ t, GB t ∧ p.1 = t.thing) ∧ ∀ v ∈ p.2, ∃ u, GB u ∧ v = u.v ∧ u.thing = p.1) ∧ (sk.foldl (fun R t => addRow R t.thing t.v) R).length ≤ R.length + sk.length := by
    intro sk
    induction sk with
    | nil => intro R _ h; exact ⟨h, by simp⟩
    | cons t sk ih =>
      intro R h1 h2
      obtain ⟨g1, g2⟩ := ih (addRow R t.thing t.v) (fun u hu => h1 u (List.mem_cons_of_mem _ hu)) (addRow_row (h1 t (List.mem_cons_self ..)) h2)
      refine ⟨g1, Nat.le_trans g2 ?_⟩
      have := addRow_len R t.thing t.v
      simp only [List.length_cons]
      omega
  obtain ⟨g1, g2⟩ := key sk [] h (fun p hp => by cases hp)
  exact ⟨g1, Nat.le_trans g2 (by simpa using hl), by rw [rows_tot]; exact hl⟩
theorem lookR_mem {R : List (Wv × List Wv)} {k v : Wv} (h : v ∈ lookR R k) : ∃ p ∈ R, p.1 = k ∧ v ∈ p.2 := by
  induction R with
  | nil => cases h
  | cons p R ih =>
    simp only [lookR] at h
    split at h
    · rename_i e
      exact ⟨p, List.mem_cons_self .., e, h⟩
    · obtain ⟨q, hq, h2⟩ := ih h
      exact ⟨q, List.mem_cons_of_mem _ hq, h2⟩
theorem RF.look {R : List (Wv × List Wv)} (F : RF R) {k v : Wv} (h : v ∈ lookR R k) : ∃ u, GB u ∧ v = u.v ∧ u.thing = k := by
  obtain ⟨p, hp, e, hv⟩ := lookR_mem h
  obtain ⟨u, h1, h2, h3⟩ := (F.row p hp).2 v hv
  exact ⟨u, h1, h2, by rw [h3, e]⟩
theorem RF.key {R : List (Wv × List Wv)} (F : RF R) : ∀ p ∈ R, keyT p.1 = true := fun p hp => by
  obtain ⟨t, ht, e⟩ := (F.row p hp).1
  rw [e]; exact ht.1.ok.kt
end Bh
end
section
set_option Elab.async false
set_option linter.all false
set_option maxRecDepth 100000
set_option maxHeartbeats 0
namespace Bh
open PySem MP
def WAtz (z : Bool) (M : Mem) (s : Nat) (R : List (Wv × List Wv)) : Prop := ∃ r q kvs, M[s]? = some (.ins ci_World [("rows", .ref r), ("kept", .ref q)]) ∧ M[r]? = some (.dct z kvs) ∧ Rws M r kvs R
theorem WAtz.mono {z : Bool} {M M' : Mem} {s : Nat} {R : List (Wv × List Wv)} (h : WAtz z M s R) (p : M <+: M') : WAtz z M' s R := by
  obtain ⟨r, q, kvs, h1, h2, h3⟩ := h
  exact ⟨r, q, kvs, pre_get p h1, pre_get p h2, h3.mono fun x o _ h => pre_get p h⟩
theorem WAt.z {M : Mem} {s : Nat} {R : List (Wv × List Wv)} (h : WAt M s R) : WAtz false M s R := h
def dayW : Wv → Int
  | .tup (_ :: .int d :: _) => d
  | _ => 0
def lastGo (day : Int) : List Wv → Wv → Wv
  | [], f => f
  | w :: ws, f => if dayW w > day then f else lastGo day ws w
def lastR (R : List (Wv × List Wv)) (thing : Wv) (day : Int) : Wv := lastGo day (lookR R thing) .non
theorem lastGo_mem {day : Int} {ws : List Wv} {f : Wv} : lastGo day ws f = f ∨ lastGo day ws f ∈ ws := by
  induction ws generalizing f with
  | nil => exact .inl rfl
  | cons w ws ih =>
    simp only [lastGo]
    split
    · exact .inl rfl
    · rcases ih (f := w) with h | h
      · rw [h]; exact .inr (List.mem_cons_self ..)
      · exact .inr (List.mem_cons_of_mem _ h)
theorem RF.last {R : List (Wv × List Wv)} (F : RF R) (k : Wv) (day : Int) : lastR R k day = .non ∨ ∃ u, GB u ∧ lastR R k day = u.v ∧ u.thing = k := by
  rcases lastGo_mem (day := day) (ws := lookR R k) (f := .non) with h | h
  · exact .inl h
  · exact .inr (F.look h)
end Bh
end
section
set_option Elab.async false
set_option linter.all false
set_option maxRecDepth 100000
set_option maxHeartbeats 0
namespace Bh
open PySem MP
theorem bt_v_inj {u t : Bt} (h : u.v = t.v) : u = t := by
  obtain ⟨w, d, xs⟩ := u
  obtain ⟨w', d', xs'⟩ := t
  simp only [Bt.v, Wv.tup.injEq, List.cons.injEq, Wv.str.injEq, Wv.int.injEq] at h
  obtain ⟨rfl, rfl, rfl⟩ := h
  rfl
theorem vdN_inj {t u : Bt} (ht : BKb t) (hu : BKb u) : ∀ n m, vdN n t.v = vdN m u.v → n = m ∧ t = u
  | 0, 0, h => ⟨rfl, bt_v_inj h⟩
  | 0, m + 1, h => by
    simp only [vdN, Bt.v, Wv.tup.injEq, List.cons.injEq, Wv.str.injEq] at h
    exact absurd h.1 ht.ok.nv
  | n + 1, 0, h => by
    simp only [vdN, Bt.v, Wv.tup.injEq, List.cons.injEq, Wv.str.injEq] at h
    exact absurd h.1.symm hu.ok.nv
  | n + 1, m + 1, h => by
    simp only [vdN, Wv.tup.injEq, List.cons.injEq, and_true, true_and] at h
    obtain ⟨e1, e2⟩ := vdN_inj ht hu n m h
    exact ⟨by omega, e2⟩
theorem vi_inj {i j : Vi} (hi : GB i.2) (hj : GB j.2) (h : i.w = j.w) : i = j := by
  obtain ⟨e1, e2⟩ := vdN_inj hi.1 hj.1 i.1 j.1 h
  exact Prod.ext e1 e2
def hold (its : List Vi) : Nat → Nat → Bt → Bool
  | 0, _, _ => true
  | m + 1, n, t => !(decide ((n + 1, t) ∈ its) && hold its m (n + 1) t)
def dv (its : List Vi) : List Vi := its.foldl (fun g i => if i ∈ g then g else g ++ [i]) []
def keepV (its : List Vi) (i : Vi) : Bool := decide (i.1 = 0) && hold its 3 0 i.2
def heldV (its : List Vi) : List Bt := ((dv its).filter (keepV its)).map (·.2)
theorem in_lst {S : List Int} {M : Mem} {f : Nat} {ws : List Wv} {x : Wv} (hM : M[f]? = some (.lst ws)) (hw : ∀ w ∈ ws, pur 6 w = true) (hx : pur 6 x = true) : inW (Gp S) x (.ref f) M = some (decide (x ∈ ws)) := by
  have e : toDs (Gp S).S M deepD ws = some (ws.map dat) := by
    have := toDs_map (S := (Gp S).S) (M := M) (n := deepD) (f := id) (g := dat) (xs := ws) fun w h => toD_pur (hw w h) (by decide)
    rw [List.map_id] at this
    exact this
  have h1 : SeqAt.shaped (dat x) = true := shaped_dat hx (by omega)
  have h2 : SeqAt.shaped (.list (ws.map dat)) = true := shaped_lst (d := 6) (by omega) fun w h => ⟨dat_lay (hw w h), dat_depth (hw w h)⟩
  simp only [inW, hM, inLst, toD_pur (S := (Gp S).S) (M := M) (m := deepD) hx (by decide), e, h1, h2, Bool.and_self, if_true]
  congr 1
  rw [List.any_map]
  by_cases c : x ∈ ws
  · rw [decide_eq_true c, List.any_eq_true]
    refine ⟨x, c, ?_⟩
    simp only [Function.comp_def]
    rw [eqv_dat hx hx, decide_eq_true rfl]
  · rw [decide_eq_false c, List.any_eq_false]
    intro y hy
    simp only [Function.comp_def]
    rw [eqv_dat (hw y hy) hx, decide_eq_false (fun z : y = x => c (z ▸ hy))]
    simp
theorem dv_mem {its : List Vi} {x : Vi} : x ∈ dv its ↔ x ∈ its := by
  have key : ∀ (its g : List Vi), x ∈ its.foldl (fun g i => if i ∈ g then g else g ++ [i]) g ↔ x ∈ g ∨ x ∈ its := by
    intro its
    induction its with
    | nil => intro g; simp
    | cons i its ih =>
      intro g
      rw [List.foldl_cons, ih]
      split
      · rename_i h
        simp only [List.mem_cons]
        constructor
        · rintro (h1 | h1)
          · exact .inl h1
          · exact .inr (.inr h1)
        · rintro (h1 | h1 | h1)
          · exact .inl h1
          · rw [h1]; exact .inl h
          · exact .inr h1
      · simp only [List.mem_append, List.mem_cons, List.not_mem_nil, or_false, or_assoc]
  have := key its []
  simpa [dv] using this
theorem dv_keys {its : List Vi} (ok : ViOk its) : keysOf (its.map Vi.w) = (dv its).map Vi.w := by
  have key : ∀ (q p : List Vi), (∀ i ∈ p, GB i.2) → (∀ i ∈ q, GB i.2) → (q.map Vi.w).foldl addK (p.map Vi.w) = (q.foldl (fun g i => if i ∈ g then g else g ++ [i]) p).map Vi.w := by
    intro q
    induction q with
    | nil => intro p _ _; rfl
    | cons i q ih =>
      intro p hp hq
      have hi := hq i (List.mem_cons_self ..)
      simp only [List.map_cons, List.foldl_cons]
      have e : addK (p.map Vi.w) i.w = (if i ∈ p then p else p ++ [i]).map Vi.w := by
        unfold addK
        by_cases c : i ∈ p
        · rw [if_pos c, if_pos (List.mem_map.mpr ⟨i, c, rfl⟩)]
        · rw [if_neg c, if_neg]
          · simp
          · intro h
            obtain ⟨j, hj, e⟩ := List.mem_map.mp h
            exact c (vi_inj (hp j hj) hi e ▸ hj)
      rw [e]
      refine ih _ (fun j hj => ?_) fun j hj => hq j (List.mem_cons_of_mem _ hj)
      split at hj
      · exact hp j hj
      · rcases List.mem_append.mp hj with hj | hj
        · exact hp j hj
        · rw [List.mem_singleton.mp hj]; exact hi
  exact key its [] (fun i hi => by cases hi) fun i hi => (ok i hi).2
theorem dv_len (its : List Vi) : (dv its).length ≤ its.length := by
  have key : ∀ (q p : List Vi), (q.foldl (fun g i => if i ∈ g then g else g ++ [i]) p).length ≤ p.length + q.length := by
    intro q
    induction q with
    | nil => intro p; simp
    | cons i q ih =>
      intro p
      rw [List.foldl_cons]
      have := ih (if i ∈ p then p else p ++ [i])
      have h2 : (if i ∈ p then p else p ++ [i]).length ≤ p.length + 1 := by
        split
        · omega
        · simp
      simp only [List.length_cons]
      omega
  have := key its []
  simpa [dv] using this
end Bh
end
section
set_option Elab.async false
set_option linter.all false
set_option maxRecDepth 100000
set_option maxHeartbeats 0
namespace Bh
open PySem MP
theorem keyOk_A {kvs : List (Wv × Wv)} {k : Wv} (h : keyA k = true) (hk : ∀ p ∈ kvs, keyA p.1 = true) : keyOk kvs k = true := by
  unfold keyOk
  rw [h, List.all_eq_true.mpr hk]
  rfl
theorem gone3 (j : Nat) : ∀ (vs : List Vi) (g : List Wv), (∀ i ∈ vs, i.1 = j + 1 ∧ GB i.2) → ∀ x, x ∈ (vs.map Vi.w).foldl stepG g ↔ x ∈ g ∨ ∃ i ∈ vs, i.w ∉ g ∧ x = vdN j i.2.v := by
  intro vs
  induction vs with
  | nil => intro g _ x; simp
  | cons i vs ih =>
    intro g hv x
    obtain ⟨hi, hb⟩ := hv i (List.mem_cons_self ..)
    have ei : inner i.w = vdN j i.2.v := by unfold Vi.w; rw [hi]; rfl
    have hmem : ∀ y, y ∈ addK g (vdN j i.2.v) ↔ y ∈ g ∨ y = vdN j i.2.v := fun y => by
      unfold addK
      split
      · rename_i h
        constructor
        · exact .inl
        · rintro (h1 | h1)
          · exact h1
          · rw [h1]; exact h
      · simp
    have hnot : ∀ k ∈ vs, k.w ∈ stepG g i.w ↔ k.w ∈ g := fun k hk => by
      obtain ⟨hk1, hk2⟩ := hv k (List.mem_cons_of_mem _ hk)
      by_cases c : i.w ∈ g
      · rw [stepG_in c]
      · rw [stepG_out c, ei, hmem]
        constructor
        · rintro (h | h)
          · exact h
          · have := (vdN_inj hk2.1 hb.1 k.1 j h).1
            omega
        · exact .inl
    rw [List.map_cons, List.foldl_cons, ih _ (fun k hk => hv k (List.mem_cons_of_mem _ hk)) x]
    have e2 : (∃ k ∈ vs, k.w ∉ stepG g i.w ∧ x = vdN j k.2.v) ↔ ∃ k ∈ vs, k.w ∉ g ∧ x = vdN j k.2.v := by
      constructor
      · rintro ⟨k, hk, h1, h2⟩; exact ⟨k, hk, fun z => h1 ((hnot k hk).mpr z), h2⟩
      · rintro ⟨k, hk, h1, h2⟩; exact ⟨k, hk, fun z => h1 ((hnot k hk).mp z), h2⟩
    rw [e2]
    simp only [List.mem_cons, exists_eq_or_imp]
    by_cases c : i.w ∈ g
    · rw [stepG_in c]
      constructor
      · rintro (h | h)
        · exact .inl h
        · exact .inr (.inr h)
      · rintro (h | ⟨h, _⟩ | h)
        · exact .inl h
        · exact absurd c h
        · exact .inr h
    · rw [stepG_out c, ei, hmem]
      constructor
      · rintro ((h | h) | h)
        · exact .inl h
        · exact .inr (.inl ⟨c, h⟩)
        · exact .inr (.inr h)
      · rintro (h | ⟨_, h⟩ | h)
        · exact .inl (.inl h)
        · exact .inl (.inr h)
        · exact .inr h
theorem held_force {its : List Vi} (ok : ViOk its) : (forceOf ((dv its).map fun j : Vi => trN j.1 j.2)).map Tr.w = (heldV its).map Bt.v := by
  have lay : ∀ n, layer ((dv its).map fun j : Vi => trN j.1 j.2) n = ((dv its).filter fun i => decide (i.1 = n)).map Vi.w := fun n => by
    unfold layer
    rw [List.filter_map, List.map_map]
    have e : ((fun t : Tr => decide (t.dep = n)) ∘ fun j : Vi => trN j.1 j.2) = fun i : Vi => decide (i.1 = n) := by
      funext i
      simp only [Function.comp_def, trN_dep]
    rw [e]
    exact List.map_congr_left fun i _ => trN_w i.1 i.2
  have lm : ∀ n (i : Vi), i ∈ (dv its).filter (fun i => decide (i.1 = n)) ↔ i ∈ its ∧ i.1 = n := fun n i => by
    rw [List.mem_filter, dv_mem, decide_eq_true_eq]
  have lg : ∀ n, ∀ i ∈ (dv its).filter (fun i => decide (i.1 = n + 1)), i.1 = n + 1 ∧ GB i.2 := fun n i hi => by
    obtain ⟨h1, h2⟩ := (lm _ i).mp hi
    exact ⟨h2, (ok i h1).2⟩
  have nb : ∀ {t : Bt} {n m : Nat} {u : Bt}, GB t → GB u → vdN n t.v = vdN m u.v → n = m ∧ t = u := fun ht hu h => vdN_inj ht.1 hu.1 _ _ h
  have g3 : ∀ x, x ∈ (layer ((dv its).map fun j : Vi => trN j.1 j.2) 3).foldl stepG [] ↔ ∃ i ∈ its, i.1 = 3 ∧ x = vdN 2 i.2.v := fun x => by
    rw [lay, gone3 2 _ _ (lg 2)]
    constructor
    · rintro (h | ⟨i, hi, _, e⟩)
      · cases h
      · obtain ⟨h1, h2⟩ := (lm _ i).mp hi
        exact ⟨i, h1, h2, e⟩
    · rintro ⟨i, h1, h2, e⟩
      exact .inr ⟨i, (lm _ i).mpr ⟨h1, h2⟩, (fun z => by cases z), e⟩
  generalize hG3 : (layer ((dv its).map fun j : Vi => trN j.1 j.2) 3).foldl stepG [] = G3 at *
  have g2 : ∀ x, x ∈ (layer ((dv its).map fun j : Vi => trN j.1 j.2) 2).foldl stepG G3 ↔ x ∈ G3 ∨ ∃ i ∈ its, i.1 = 2 ∧ i.w ∉ G3 ∧ x = vdN 1 i.2.v := fun x => by
    rw [lay, gone3 1 _ _ (lg 1)]
    constructor
    · rintro (h | ⟨i, hi, hn, e⟩)
      · exact .inl h
      · obtain ⟨h1, h2⟩ := (lm _ i).mp hi
        exact .inr ⟨i, h1, h2, hn, e⟩
    · rintro (h | ⟨i, h1, h2, hn, e⟩)
      · exact .inl h
      · exact .inr ⟨i, (lm _ i).mpr ⟨h1, h2⟩, hn, e⟩
  generalize hG2 : (layer ((dv its).map fun j : Vi => trN j.1 j.2) 2).foldl stepG G3 = G2 at *
  have g1 : ∀ x, x ∈ goneOf ((dv its).map fun j : Vi => trN j.1 j.2) ↔ x ∈ G2 ∨ ∃ i ∈ its, i.1 = 1 ∧ i.w ∉ G2 ∧ x = vdN 0 i.2.v := fun x => by
    unfold goneOf
    rw [hG3, hG2, lay, gone3 0 _ _ (lg 0)]
    constructor
    · rintro (h | ⟨i, hi, hn, e⟩)
      · exact .inl h
      · obtain ⟨h1, h2⟩ := (lm _ i).mp hi
        exact .inr ⟨i, h1, h2, hn, e⟩
    · rintro (h | ⟨i, h1, h2, hn, e⟩)
      · exact .inl h
      · exact .inr ⟨i, (lm _ i).mpr ⟨h1, h2⟩, hn, e⟩
  have m2 : ∀ t, GB t → (vdN 2 t.v ∈ G3 ↔ (3, t) ∈ its) := fun t ht => by
    rw [g3]
    constructor
    · rintro ⟨⟨n, u⟩, h1, h2, e⟩
      simp only at h2 e
      subst h2
      rw [(nb ht (ok _ h1).2 e).2]
      exact h1
    · exact fun h => ⟨_, h, rfl, rfl⟩
  have m1 : ∀ t, GB t → (vdN 1 t.v ∈ G2 ↔ (2, t) ∈ its ∧ (3, t) ∉ its) := fun t ht => by
    rw [g2]
    constructor
    · rintro (h | ⟨⟨n, u⟩, h1, h2, hn, e⟩)
      · obtain ⟨i, h1, _, e⟩ := (g3 _).mp h
        have := (nb ht (ok _ h1).2 e).1
        omega
      · simp only at h2 e
        subst h2
        have := (nb ht (ok _ h1).2 e).2
        subst this
        exact ⟨h1, fun z => hn ((m2 t ht).mpr z)⟩
    · rintro ⟨h1, h2⟩
      exact .inr ⟨_, h1, rfl, (fun z => h2 ((m2 t ht).mp z)), rfl⟩
  have m0 : ∀ t, GB t → (t.v ∈ goneOf ((dv its).map fun j : Vi => trN j.1 j.2) ↔ (1, t) ∈ its ∧ ¬ ((2, t) ∈ its ∧ (3, t) ∉ its)) := fun t ht => by
    rw [g1]
    constructor
    · rintro (h | ⟨⟨n, u⟩, h1, h2, hn, e⟩)
      · rcases (g2 _).mp h with h | ⟨i, h1, _, _, e⟩
        · obtain ⟨i, h1, _, e⟩ := (g3 _).mp h
          have := (nb (n := 0) ht (ok _ h1).2 e).1
          omega
        · have := (nb (n := 0) ht (ok _ h1).2 e).1
          omega
      · simp only at h2 e
        subst h2
        have := (nb (n := 0) ht (ok _ h1).2 e).2
        subst this
        exact ⟨h1, fun z => hn ((m1 t ht).mpr z)⟩
    · rintro ⟨h1, h2⟩
      exact .inr ⟨_, h1, rfl, (fun z => h2 ((m1 t ht).mp z)), rfl⟩
  have mh : ∀ t, GB t → decide (t.v ∉ goneOf ((dv its).map fun j : Vi => trN j.1 j.2)) = hold its 3 0 t := fun t ht => by
    have := m0 t ht
    simp only [hold, Bool.and_true]
    by_cases c1 : (1, t) ∈ its <;> by_cases c2 : (2, t) ∈ its <;> by_cases c3 : (3, t) ∈ its <;> simp [this, c1, c2, c3]
  unfold forceOf heldV
  rw [List.filter_map, List.map_map, List.map_map]
  have hff : ∀ i ∈ dv its, ((fun t => decide (t.dep = 0) && decide (t.w ∉ goneOf ((dv its).map fun j : Vi => trN j.1 j.2))) ∘ fun j : Vi => trN j.1 j.2) i = keepV its i := fun i hi => by
    have oki := (ok i (dv_mem.mp hi)).2
    obtain ⟨z, t⟩ := i
    simp only [Function.comp_def, trN_w, trN_dep, keepV]
    cases z with
    | succ z => simp
    | zero =>
      rw [show vdN 0 t.v = t.v from rfl, mh t oki]
  rw [List.filter_congr hff]
  refine List.map_congr_left fun i hi => ?_
  have := (List.mem_filter.mp hi).2
  unfold keepV at this
  rw [Bool.and_eq_true] at this
  simp only [Function.comp_def, trN_w]
  rw [of_decide_eq_true this.1]
  rfl
theorem held_len (its : List Vi) : (heldV its).length ≤ its.length := by
  unfold heldV
  rw [List.length_map]
  exact Nat.le_trans (List.length_filter_le _ _) (dv_len its)
theorem held_gb {its : List Vi} (ok : ViOk its) : ∀ t ∈ heldV its, GB t := fun t ht => by
  unfold heldV at ht
  obtain ⟨i, hi, rfl⟩ := List.mem_map.mp ht
  exact (ok i (dv_mem.mp (List.mem_filter.mp hi).1)).2
def cfV (its : List Vi) : List Bt := cntOf (heldV its)
theorem cf_gb {its : List Vi} (ok : ViOk its) : ∀ t ∈ cfV its, GB t := fun t ht => held_gb ok t (cntOf_mem ht)
theorem cf_len (its : List Vi) : (cfV its).length ≤ its.length := Nat.le_trans (cntOf_len _) (held_len its)
theorem world_v (S : List Int) (k l : Nat) (its : List Vi) (sk : List Bt) (M : Mem) (hM : M[l]? = some (.lst (its.map Vi.w))) (hok : ViOk its) (hlen : its.length ≤ 200) (hp : (cfV its).Perm sk) (hs : sortBy (((cfV its).map Bt.key).map dat) ((cfV its).map Bt.key) = some (sk.map Bt.key)) :
    (newW (Gp S) (callN (Gp S) fuel (k + 3)) ci_World [.ref l] M).sat fun v M' => M <+: M' ∧ ∃ s, v = .ref s ∧ WAt M' s (rowsOf sk) := by
  have ek : keysOf (its.map Vi.w) = ((dv its).map fun j : Vi => trN j.1 j.2).map Tr.w := by
    rw [dv_keys hok, List.map_map]
    exact List.map_congr_left fun j _ => (trN_w j.1 j.2).symm
  have hjl := dv_len its
  have hkey : ∀ i : Vi, i.1 ≤ 3 ∧ GB i.2 → keyT i.w = true := fun i hi => keyT_in (vd_tup _ _) (vd_key hi.2.1 i.1 7 (by omega))
  have K : Kn ((dv its).map fun j : Vi => trN j.1 j.2) := by
    refine ⟨fun t ht => ?_, by simp; omega⟩
    obtain ⟨j, hj, rfl⟩ := List.mem_map.mp ht
    obtain ⟨h1, h2⟩ := hok j (dv_mem.mp hj)
    refine ⟨trN_ok h2.1 _, by rw [trN_dep]; exact h1, ?_, ?_⟩
    · rw [trN_w]; exact hkey j ⟨h1, h2⟩
    · rw [trN_w]
      obtain ⟨m, hm, e⟩ := vd_inner h2.1 j.1
      rw [e]
      exact keyT_in (vd_tup _ _) (vd_key h2.1 m 7 (by omega))
  have hfl := held_len its
  have hsl : sk.length ≤ 200 := by
    rw [← hp.length_eq]
    exact Nat.le_trans (cf_len its) hlen
  refine world_new S k l _ _ (heldV its) sk M hM (fun w hw => ?_) (by simp; omega) ek K (held_force hok) (fun t ht => (held_gb hok t ht).1.ok) (BKb.alk fun t ht => (held_gb hok t ht).1) (by omega) hs (fun t ht => hp.mem_iff.mpr ht) (by omega)
  obtain ⟨i, hi, rfl⟩ := List.mem_map.mp hw
  exact hkey i (hok i hi)
end Bh
end
section
set_option Elab.async false
set_option linter.all false
set_option maxRecDepth 100000
set_option maxHeartbeats 0
namespace Bh
open PySem MP
theorem word_alike {u t : Bt} (hu : BKb u) (ht : BKb t) (e : u.w = t.w) : W.alike (dat u.v) (dat t.v) = true := by
  obtain ⟨_, s, hs, hm⟩ := hu
  obtain ⟨_, r, hr, hn⟩ := ht
  have es := congrArg Prod.snd (sig_one _ hs _ hr e)
  simp only at es
  subst es
  simp only [Bt.v, dat, dats, W.alike, W.alikeAll, sig_alike hm _ hn, Bool.and_self]
theorem dlt_irr (d : PyData) : W.dataLt d d = false := PyProof.Rows.lex_irrefl _
theorem msort_pw {α : Type} (f : α → PyData) (xs : List α) : (xs.mergeSort fun a b => W.dataLe false f a b).Pairwise fun a b => W.dataLt (f b) (f a) = false := by
  have e : (fun a b => W.dataLe false f a b) = fun a b => !W.dataLt (f b) (f a) := by funext a b; rw [W.dataLe_eq]; rfl
  rw [e]
  have := List.pairwise_mergeSort (le := fun a b => !W.dataLt (f b) (f a)) (fun a b c h1 h2 => by
      simp only [Bool.not_eq_true'] at *
      cases h : W.dataLt (f c) (f a) with
      | false => rfl
      | true =>
        rcases PyProof.Rows.lex_negTrans _ (W.keyToks (f b)) _ h with h3 | h3
        · rw [show W.dataLt (f c) (f b) = true from h3] at h2; cases h2
        · rw [show W.dataLt (f b) (f a) = true from h3] at h1; cases h1) (fun a b => by
      cases h : W.dataLt (f b) (f a) with
      | false => rfl
      | true =>
        cases h2 : W.dataLt (f a) (f b) with
        | false => rfl
        | true =>
          have := PyProof.Rows.lex_trans _ _ _ h h2
          rw [PyProof.Rows.lex_irrefl] at this
          cases this) xs
  exact this.imp fun h => by simpa using h
theorem dlt_anti {x y : PyData} (ha : W.alike x y = true) (h1 : W.dataLt x y = false) (h2 : W.dataLt y x = false) : PyData.eqv x y = true := by
  cases he : PyData.eqv x y with
  | true => rfl
  | false =>
    have et : W.keyToks x = W.keyToks y := PyProof.Rows.lex_total _ _ h1 h2
    have := (W.toks_eqv x y ha).2 he [.inl 0] [.inl 1]
    rw [et, W.lex_pre, PyProof.Rows.lex_irrefl] at this
    exact absurd this (by decide)
theorem okey_lt (a b : Bt) : W.dataLt (okey a) (okey b) = if a.d = b.d then PyProof.Rows.lexLt PyProof.Rows.itemOrd (W.keyToksAll [dat a.v]) (W.keyToksAll [dat b.v]) else decide (a.d < b.d) := by
  unfold okey
  rw [W.dataLt_tuple]
  by_cases c : a.d = b.d
  · rw [if_pos c, c, W.dataLt_all_yes (x := .int b.d) (y := .int b.d) rfl (by simp [PyData.eqv])]
  · rw [if_neg c, W.dataLt_all_no (x := .int a.d) (y := .int b.d) rfl (by simp [PyData.eqv, c]), W.dataLt_int]
theorem okey_le {a b : Bt} (h : W.dataLt (okey b) (okey a) = false) : a.d ≤ b.d := by
  rw [okey_lt] at h
  by_cases c : b.d = a.d
  · omega
  · rw [if_neg c] at h
    have := of_decide_eq_false h
    omega
theorem okey_anti {a b : Bt} (ha : BKb a) (hb : BKb b) (hw : a.w = b.w) (h1 : W.dataLt (okey b) (okey a) = false) (h2 : W.dataLt (okey a) (okey b) = false) : a = b := by
  have al := word_alike ha hb hw
  have e := dlt_anti (x := okey a) (y := okey b) (by unfold okey; simp only [W.alike, W.alikeAll, al, Bool.and_self]) h2 h1
  unfold okey at e
  simp only [PyData.eqv, PyData.eqvAll, Bool.and_true, Bool.and_eq_true] at e
  have e2 := e.2
  rw [eqv_dat ha.ok.pv hb.ok.pv] at e2
  exact bt_v_inj (of_decide_eq_true e2)
theorem key_le {a b : Bt} (ha : BKb a) (hb : BKb b) (ht : a.thing = b.thing) (h : W.dataLt (dat b.key) (dat a.key) = false) : a.d ≤ b.d := by
  have e : ∀ t : Bt, dat t.key = .tuple [dat t.thing, .int t.d] := fun t => by simp only [Bt.key, dat, dats]
  rw [e, e, ht] at h
  have hp : pur 5 b.thing = true := by
    have := hb.ok.pk
    unfold Bt.key at this
    simp only [pur, purs, Bool.and_true] at this
    exact this
  rw [W.dataLt_pair (alike_dat hp) (by simp [W.alike])] at h
  have e2 : PyData.eqv (dat b.thing) (dat b.thing) = true := by rw [eqv_dat hp hp]; exact decide_eq_true rfl
  have e3 : PyData.eqv (.int b.d) (.int a.d) = decide (b.d = a.d) := by simp [PyData.eqv]; rfl
  rw [e2, if_pos rfl, e3, W.dataLt_int] at h
  by_cases c : b.d = a.d
  · omega
  · rw [decide_eq_false c] at h
    have := of_decide_eq_false (by simpa using h : decide (b.d < a.d) = false)
    omega
structure So (cf sk sf : List Bt) : Prop where
  gb : ∀ t ∈ cf, GB t
  nd : (cf.map Bt.key).Nodup
  kp : cf.Perm sk
  fp : cf.Perm sf
  ks : sortBy ((cf.map Bt.key).map dat) (cf.map Bt.key) = some (sk.map Bt.key)
  fs : sortMix (cf.map okey) (cf.map Bt.v) = some (sf.map Bt.v)
  ko : sk.Pairwise fun a b => W.dataLt (dat b.key) (dat a.key) = false
  fo : sf.Pairwise fun a b => W.dataLt (okey b) (okey a) = false
theorem so_ex {cf : List Bt} (gb : ∀ t ∈ cf, GB t) (nd : (cf.map Bt.key).Nodup) : ∃ sk sf, So cf sk sf := by
  have ks : sortBy ((cf.map Bt.key).map dat) (cf.map Bt.key) = some ((cf.mergeSort fun a b : Bt => W.dataLe false (fun t : Bt => dat t.key) a b).map Bt.key) := by
    have e2 := List.map_mergeSort (r := fun a b : Bt => W.dataLe false (fun t : Bt => dat t.key) a b) (s := fun a b => W.dataLe false (fun p : PyData × Wv => p.1) a b) (f := fun a : Bt => (dat a.key, a.key)) (l := cf) (fun a ha b hb => rfl)
    rw [List.map_map]
    unfold sortBy
    have e1 : (cf.map (dat ∘ Bt.key)).zip (cf.map Bt.key) = cf.map fun a : Bt => (dat a.key, a.key) := by rw [List.zip_map']; rfl
    rw [show alikeAllB (cf.map (dat ∘ Bt.key)) = true from alikeAllB_map fun u hu t ht => (gb u hu).1.kalike (gb t ht).1, show sortableB (cf.map (dat ∘ Bt.key)) = true from sortableB_tup fun u hu => ⟨_, _, rfl⟩, show (cf.map (dat ∘ Bt.key)).all dcap = true from dcap_map fun u hu => Nat.le_trans (dat_depth (gb u hu).1.ok.pk) (by decide)]
    simp only [Bool.and_self, if_true]
    rw [e1, ← e2, List.map_map]
    rfl
  have fs : sortMix (cf.map okey) (cf.map Bt.v) = some ((cf.mergeSort fun a b : Bt => W.dataLe false okey a b).map Bt.v) := by
    have e2 := List.map_mergeSort (r := fun a b : Bt => W.dataLe false okey a b) (s := fun a b => W.dataLe false (fun p : PyData × Wv => p.1) a b) (f := fun a : Bt => (okey a, a.v)) (l := cf) (fun a ha b hb => rfl)
    unfold sortMix
    have e1 : (cf.map okey).zip (cf.map Bt.v) = cf.map fun a : Bt => (okey a, a.v) := by rw [List.zip_map']
    have hm : mixAllB (cf.map okey) = true := by
      unfold mixAllB
      rw [Bool.and_eq_true]
      refine ⟨List.all_eq_true.mpr fun d hd => List.all_eq_true.mpr fun e he => ?_, List.all_eq_true.mpr fun d hd => ?_⟩
      · obtain ⟨u, hu, rfl⟩ := List.mem_map.mp hd
        obtain ⟨t, ht, rfl⟩ := List.mem_map.mp he
        show (decide (u.w ≠ t.w) || W.alikeAll (.int u.d :: dats u.xs) (.int t.d :: dats t.xs)) = true
        by_cases c : u.w = t.w
        · have := word_alike (gb u hu).1 (gb t ht).1 c
          simp only [Bt.v, dat, dats, W.alike, W.alikeAll, Bool.and_eq_true] at this
          simp only [W.alikeAll, W.alike, this.2, Bool.and_self, Bool.or_true]
        · rw [decide_eq_true c]; rfl
      · obtain ⟨u, hu, rfl⟩ := List.mem_map.mp hd
        have := noL_dat (gb u hu).1.ok.pv
        simp only [okey, noL, noLs, this, Bool.and_self]
    have hd : (cf.map okey).all dcap = true := dcap_map fun u hu => by
      have := dat_depth (gb u hu).1.ok.pv
      simp only [okey, PyData.depth, PyData.depthAll]
      omega
    rw [hm, hd]
    simp only [Bool.and_self, if_true]
    rw [e1, ← e2, List.map_map]
    rfl
  exact ⟨_, _, gb, nd, (List.mergeSort_perm _ _).symm, (List.mergeSort_perm _ _).symm, ks, fs, msort_pw (fun t : Bt => dat t.key) cf, msort_pw okey cf⟩
section
variable {cf sk sf : List Bt}
theorem So.gk (h : So cf sk sf) : ∀ t ∈ sk, GB t := fun t ht => h.gb t (h.kp.mem_iff.mpr ht)
theorem So.gf (h : So cf sk sf) : ∀ t ∈ sf, GB t := fun t ht => h.gb t (h.fp.mem_iff.mpr ht)
def rowK (l : List Bt) (K : Wv) : List Bt := l.filter fun t => decide (t.thing = K)
theorem pw_lt {l : List Bt} {K : Wv} (hn : (l.map Bt.key).Nodup) (hp : l.Pairwise fun a b => a.thing = b.thing → a.d ≤ b.d) : (rowK l K).Pairwise fun a b => a.d < b.d := by
  unfold rowK
  have h1 : l.Pairwise fun a b => a.key ≠ b.key := by
    have := hn
    unfold List.Nodup at this
    rwa [List.pairwise_map] at this
  have h2 := hp.and h1
  have h3 := h2.sublist (List.filter_sublist (p := fun t => decide (t.thing = K)))
  refine h3.imp_of_mem fun {a b} ha hb ⟨q1, q2⟩ => ?_
  have ea := of_decide_eq_true (List.mem_filter.mp ha).2
  have eb := of_decide_eq_true (List.mem_filter.mp hb).2
  have et : a.thing = b.thing := ea.trans eb.symm
  have := q1 et
  by_cases c : a.d = b.d
  · exact absurd (show a.key = b.key by unfold Bt.key; rw [et, c]) q2
  · omega
theorem So.pk (h : So cf sk sf) (K : Wv) : (rowK sk K).Pairwise fun a b => a.d < b.d :=
  pw_lt ((h.kp.map Bt.key).nodup_iff.mp h.nd) (h.ko.imp_of_mem fun ha hb q et => key_le (h.gk _ ha).1 (h.gk _ hb).1 et q)
theorem So.pf (h : So cf sk sf) (K : Wv) : (rowK sf K).Pairwise fun a b => a.d < b.d :=
  pw_lt ((h.fp.map Bt.key).nodup_iff.mp h.nd) (h.fo.imp_of_mem fun _ _ q _ => okey_le q)
theorem So.same (h : So cf sk sf) (K : Wv) : rowK sk K = rowK sf K := by
  refine List.Perm.eq_of_pairwise (le := fun a b : Bt => a.d < b.d) (fun a b _ _ h1 h2 => by omega) (h.pk K) (h.pf K) ?_
  exact (h.kp.symm.trans h.fp).filter _
end
end Bh
end
section
set_option Elab.async false
set_option linter.all false
set_option maxRecDepth 100000
set_option maxHeartbeats 0
namespace Bh
open PySem MP
def unV : Wv → Bt
  | .tup (.str w :: .int d :: xs) => ⟨w, d, xs⟩
  | _ => ⟨"", 0, []⟩
theorem ofRows_addP {w : Str} {n : Option Str} {R : List (Wv × List Wv)} {k v : Wv} : (ofRows w n (addRow R k v)).Perm (if ofHit w n k = true then ofRows w n R ++ [v] else ofRows w n R) := by
  induction R with
  | nil =>
    simp only [addRow, ofRows]
    split <;> simp
  | cons p R ih =>
    simp only [addRow]
    by_cases e : p.1 = k
    · rw [if_pos e]
      simp only [ofRows]
      rw [e]
      by_cases c : ofHit w n k = true
      · rw [if_pos c, if_pos c, if_pos c, List.append_assoc, List.append_assoc]
        exact List.Perm.append_left _ List.perm_append_comm
      · rw [if_neg c, if_neg c, if_neg c]
    · rw [if_neg e]
      simp only [ofRows]
      by_cases c2 : ofHit w n p.1 = true
      · rw [if_pos c2, if_pos c2]
        by_cases c : ofHit w n k = true
        · rw [if_pos c] at ih ⊢
          rw [List.append_assoc]
          exact ih.append_left _
        · rw [if_neg c] at ih ⊢
          exact ih.append_left _
      · rw [if_neg c2, if_neg c2]
        exact ih
theorem ofRows_perm (w : Str) (n : Option Str) (sk : List Bt) : (ofRows w n (rowsOf sk)).Perm ((sk.filter fun t => ofHit w n t.thing).map Bt.v) := by
  have key : ∀ (q : List Bt) (R : List (Wv × List Wv)), (ofRows w n (q.foldl (fun R t => addRow R t.thing t.v) R)).Perm (ofRows w n R ++ (q.filter fun t => ofHit w n t.thing).map Bt.v) := by
    intro q
    induction q with
    | nil => intro R; simp
    | cons t q ih =>
      intro R
      rw [List.foldl_cons]
      refine (ih _).trans ?_
      refine (List.Perm.append_right _ ofRows_addP).trans ?_
      by_cases c : ofHit w n t.thing = true
      · rw [if_pos c, List.filter_cons_of_pos (p := fun t : Bt => ofHit w n t.thing) c, List.map_cons, List.append_assoc]
        exact List.Perm.refl _
      · rw [if_neg c, List.filter_cons_of_neg (p := fun t : Bt => ofHit w n t.thing) (by simpa using c)]
  have := key sk []
  simpa [rowsOf, ofRows] using this
theorem of_sorted {cf sk sf : List Bt} (h : So cf sk sf) (w : Str) (n : Option Str) (hw : ∀ t ∈ cf, ofHit w n t.thing = true → t.w = w) : ∃ ts : List Bt, ofRows w n (rowsOf sk) = ts.map Bt.v ∧ (∀ t ∈ ts, GB t) ∧ ts.Perm (sf.filter fun t => ofHit w n t.thing) ∧ ts.length ≤ cf.length ∧
    sortBy (ts.map okey) (ts.map Bt.v) = some ((sf.filter fun t => ofHit w n t.thing).map Bt.v) := by
  have hp := ofRows_perm w n sk
  generalize hL : ofRows w n (rowsOf sk) = L at *
  have e1 : L = (L.map unV).map Bt.v := by
    have : ∀ x ∈ L, (unV x).v = x := fun x hx => by
      obtain ⟨t, _, rfl⟩ := List.mem_map.mp (hp.mem_iff.mp hx)
      rfl
    rw [List.map_map]
    refine (List.map_id L).symm.trans (List.map_congr_left fun x hx => ?_)
    exact (this x hx).symm
  have hp2 : (L.map unV).Perm (sk.filter fun t => ofHit w n t.thing) := by
    have := hp.map unV
    rw [List.map_map] at this
    have e2 : (unV ∘ Bt.v) = id := by funext t; rfl
    rw [e2, List.map_id] at this
    exact this
  have hps : (L.map unV).Perm (sf.filter fun t => ofHit w n t.thing) := hp2.trans ((h.kp.symm.trans h.fp).filter _)
  generalize L.map unV = ts at *
  have hg : ∀ t ∈ ts, GB t ∧ t.w = w := fun t ht => by
    obtain ⟨h1, h2⟩ := List.mem_filter.mp (hps.mem_iff.mp ht)
    have h3 := h.fp.mem_iff.mpr h1
    exact ⟨h.gb t h3, hw t h3 h2⟩
  have hal : ∀ a ∈ ts, ∀ b ∈ ts, W.alike (okey a) (okey b) = true := fun a ha b hb => by
    have := word_alike (hg a ha).1.1 (hg b hb).1.1 ((hg a ha).2.trans (hg b hb).2.symm)
    simp only [okey, W.alike, W.alikeAll, this, Bool.and_self]
  refine ⟨ts, e1, fun t ht => (hg t ht).1, hps, ?_, ?_⟩
  · rw [hps.length_eq]
    exact Nat.le_trans (List.length_filter_le _ _) (Nat.le_of_eq h.fp.length_eq.symm)
  have e2 := List.map_mergeSort (r := fun a b : Bt => W.dataLe false okey a b) (s := fun a b => W.dataLe false (fun p : PyData × Wv => p.1) a b) (f := fun a : Bt => (okey a, a.v)) (l := ts) (fun a ha b hb => rfl)
  unfold sortBy
  rw [alikeAllB_map hal, show sortableB (ts.map okey) = true from sortableB_tup (fun a _ => ⟨_, _, rfl⟩), show (ts.map okey).all dcap = true from dcap_map fun u hu => by
      have := dat_depth (hg u hu).1.1.ok.pv
      simp only [okey, PyData.depth, PyData.depthAll]
      omega]
  simp only [Bool.and_self, if_true]
  have e3 : (ts.map okey).zip (ts.map Bt.v) = ts.map fun a : Bt => (okey a, a.v) := by rw [List.zip_map']
  rw [e3, ← e2, List.map_map]
  have e4 : (ts.mergeSort fun a b : Bt => W.dataLe false okey a b) = sf.filter fun t => ofHit w n t.thing := by
    refine List.Perm.eq_of_pairwise (le := fun a b : Bt => W.dataLt (okey b) (okey a) = false) (fun a b ha hb h1 h2 => ?_) (msort_pw okey ts) (h.fo.sublist List.filter_sublist) ((List.mergeSort_perm _ _).trans hps)
    have ha' := hg a ((List.mergeSort_perm _ _).mem_iff.mp ha)
    have hb' := hg b (hps.mem_iff.mpr hb)
    exact okey_anti ha'.1.1 hb'.1.1 (ha'.2.trans hb'.2.symm) h1 h2
  rw [e4]
  rfl
end Bh
end
section
set_option Elab.async false
set_option linter.all false
set_option maxRecDepth 100000
set_option maxHeartbeats 0
namespace Bh
open PySem MP
def i3 : Wv → Int
  | .tup (_ :: _ :: _ :: .int n :: _) => n
  | _ => 0
def i4 : Wv → Int
  | .tup (_ :: _ :: _ :: _ :: .int n :: _) => n
  | _ => 0
theorem sig_t {s : List Bool} {xs : List Wv} (h : sigM (true :: s) xs = true) : ∃ x r, xs = .str x :: r ∧ okS x = true ∧ sigM s r = true := by
  cases xs with
  | nil => simp [sigM] at h
  | cons x r =>
    cases x with
    | str x =>
      simp only [sigM, Bool.and_eq_true] at h
      exact ⟨x, r, rfl, h.1, h.2⟩
    | _ => simp [sigM] at h
theorem thing_two {t : Bt} (h : BKb t) : ∃ b rest, t.thing = .tup (.str t.w :: .str b :: rest) ∧ pur 4 (.tup [.str t.w, .str b]) = true := by
  obtain ⟨hd, s, hs, hm⟩ := h
  have h1 : 1 ≤ t.tn := by unfold Bt.tn; split <;> (try split) <;> omega
  have hall := (sig_words _ hs).2.2.2.2
  have hw := (sig_words _ hs).2.2.1
  have hln := (sig_words _ hs).2.2.2.1
  simp only at hall hw hln
  have hm2 := sig_take hm t.tn
  rw [show tnW t.w = t.tn from rfl] at hall hln
  have hl := sig_len hm
  cases hx : t.xs.take t.tn with
  | nil =>
    have := congrArg List.length hx
    rw [List.length_take] at this
    simp only [List.length_nil] at this
    omega
  | cons x r =>
    rw [hx] at hm2
    cases hs2 : s.take t.tn with
    | nil => rw [hs2] at hm2; cases x <;> simp [sigM] at hm2
    | cons b bs =>
      rw [hs2] at hm2 hall
      simp only [List.all_cons, Bool.and_eq_true, id] at hall
      obtain ⟨rfl, _⟩ := hall
      cases x with
      | str b =>
        simp only [sigM, Bool.and_eq_true] at hm2
        refine ⟨b, r, by unfold Bt.thing; rw [hx], ?_⟩
        show (PyData.strOk t.w && (PyData.strOk b && true)) = true
        rw [hw, okS_ok hm2.1]
        rfl
      | _ => simp [sigM] at hm2
theorem at_v2 {S : List Int} {t : Bt} (h : BKb t) (M : Mem) : ∃ b : Str, subW (Gp S) t.v (.int 2) M = .ok (.str b) M ∧ SeqAt.shaped (.str b) = true ∧ ∃ rest, t.xs = .str b :: rest := by
  obtain ⟨hd, s, hs, hm⟩ := h
  have h1 : 1 ≤ t.tn := by unfold Bt.tn; split <;> (try split) <;> omega
  have hall := (sig_words _ hs).2.2.2.2
  have hln := (sig_words _ hs).2.2.2.1
  rw [show tnW t.w = t.tn from rfl] at hall hln
  obtain ⟨w, d, xs⟩ := t
  simp only at hm hall hln h1 ⊢
  cases s with
  | nil => simp at hln; omega
  | cons b s =>
    have hb : b = true := by
      generalize hk : Bt.tn ⟨w, d, xs⟩ = k at *
      cases k with
      | zero => omega
      | succ k => simp only [List.take_succ_cons, List.all_cons, Bool.and_eq_true, id] at hall; exact hall.1
    subst hb
    obtain ⟨x, r, rfl, hx, _⟩ := sig_t hm
    exact ⟨x, rfl, shaped_dat (n := 0) (w := .str x) (by simpa [pur] using okS_ok hx) (by omega), r, rfl⟩
end Bh
end
section
set_option Elab.async false
set_option linter.all false
set_option maxRecDepth 100000
set_option maxHeartbeats 0
namespace Bh
open PySem MP
theorem addK_mem {g : List Wv} {k x : Wv} : x ∈ addK g k ↔ x ∈ g ∨ x = k := by
  unfold addK
  split
  · rename_i h
    exact ⟨.inl, fun z => z.elim id fun e => e ▸ h⟩
  · simp
theorem thing_strs {t : Bt} (h : BKb t) : ∃ b rest, t.thing = .tup (.str t.w :: .str b :: rest) ∧ PyData.strOk b = true ∧ SeqAt.shaped (.str t.w) = true := by
  obtain ⟨b, rest, e, hp⟩ := thing_two h
  have hp2 : (PyData.strOk t.w && (PyData.strOk b && true)) = true := hp
  rw [Bool.and_eq_true, Bool.and_eq_true] at hp2
  obtain ⟨hd, s, hs, hm⟩ := h
  exact ⟨b, rest, e, hp2.2.1, (sig_words _ hs).2.1⟩
def nm2 (t : Bt) : Str := match t.xs with
  | .str b :: _ => b
  | _ => ""
theorem hit2 {t : Bt} (h : BKb t) : SeqAt.shaped (.str (nm2 t)) = true ∧ PyData.strOk (nm2 t) = true ∧ (∃ r, t.thing = .tup (.str t.w :: .str (nm2 t) :: r)) ∧ ∀ (S : List Int) (M : Mem), subW (Gp S) t.v (.int 2) M = .ok (.str (nm2 t)) M := by
  obtain ⟨b, rest, e, hb, _⟩ := thing_strs h
  obtain ⟨b2, _, hb2, r2, exs⟩ := at_v2 (S := []) h []
  have en : nm2 t = b2 := by unfold nm2; rw [exs]
  have eb : b = b2 := by
    unfold Bt.thing at e
    rw [exs] at e
    have h1 : 1 ≤ t.tn := by unfold Bt.tn; split <;> (try split) <;> omega
    obtain ⟨m, hm⟩ : ∃ m, t.tn = m + 1 := ⟨t.tn - 1, by omega⟩
    rw [hm, List.take_succ_cons] at e
    simp only [Wv.tup.injEq, List.cons.injEq, Wv.str.injEq] at e
    exact e.2.1.symm
  rw [en]
  refine ⟨hb2, eb ▸ hb, ⟨rest, eb ▸ e⟩, fun S M => ?_⟩
  obtain ⟨w, d, xs⟩ := t
  simp only at exs
  subst exs
  rfl
theorem hit_none {t : Bt} (h : BKb t) (w : Str) : ofHit w none t.thing = decide (t.w = w) := by
  obtain ⟨_, _, ⟨r, e⟩, _⟩ := hit2 h
  rw [e]
  simp [ofHit, nmHit]
theorem hit_some {t : Bt} (h : BKb t) (w n : Str) : ofHit w (some n) t.thing = (decide (t.w = w) && decide (nm2 t = n)) := by
  obtain ⟨_, _, ⟨r, e⟩, _⟩ := hit2 h
  rw [e]
  simp [ofHit, nmHit]
theorem of_cnt (S : List Int) (k s : Nat) {cf sk sf : List Bt} (hO : So cf sk sf) (hcl : cf.length ≤ 200) (F : RF (rowsOf sk)) (w : Str) (n : Option Str) (M : Mem) (hW : WAt M s (rowsOf sk)) (hw : SeqAt.shaped (.str w) = true) :
    (callN (Gp S) fuel (k + 1) ix_World_of [.ref s, .str w, nmW n] M).sat fun v M' => M <+: M' ∧ ∃ y, v = .ref y ∧ M.length ≤ y ∧ M'[y]? = some (.lst ((sf.filter fun t => ofHit w n t.thing).map Bt.v)) := by
  have hh : ∀ t ∈ cf, ofHit w n t.thing = true → t.w = w := fun t ht h => by
    cases n with
    | none => rw [hit_none (hO.gb t ht).1] at h; simpa using h
    | some n => rw [hit_some (hO.gb t ht).1, Bool.and_eq_true] at h; simpa using h.1
  obtain ⟨ts, e1, g1, pm, l1, e2⟩ := of_sorted hO w n hh
  refine of_ok S k s (rowsOf sk) w n ts (sf.filter fun t => ofHit w n t.thing) M hW (fun p hp => ?_) hw e1 (fun t ht => (g1 t ht).1.ok.pv) (by omega) e2 (by rw [← pm.length_eq]; omega)
  obtain ⟨t, ht, et⟩ := (F.row p hp).1
  obtain ⟨b, rest, e, _, h4⟩ := thing_strs ht.1
  exact ⟨t.w, b, rest, by rw [et, e], h4⟩
theorem lock_no (N : Mem) : lockM [] N = N := rfl
theorem unlk_no (N : Mem) : unlkM [] N = N := rfl
end Bh
end
section
set_option Elab.async false
set_option linter.all false
set_option maxRecDepth 100000
set_option maxHeartbeats 0
namespace Bh
open PySem MP
theorem ge_trans {a b c : PyData} (h1 : W.dataLt a b = false) (h2 : W.dataLt b c = false) : W.dataLt a c = false := by
  cases h : W.dataLt a c with
  | false => rfl
  | true =>
    rcases PyProof.Rows.lex_negTrans _ (W.keyToks b) _ h with h3 | h3
    · rw [show W.dataLt a b = true from h3] at h1; cases h1
    · rw [show W.dataLt b c = true from h3] at h2; cases h2
theorem lt_asym {a b : PyData} (h : W.dataLt a b = true) : W.dataLt b a = false := by
  cases h2 : W.dataLt b a with
  | false => rfl
  | true =>
    have := PyProof.Rows.lex_trans _ _ _ h h2
    rw [PyProof.Rows.lex_irrefl] at this
    cases this
theorem put_new (t : Bt) : ∀ acc : List Bt, ∃ u ∈ putB acc t, u.key = t.key ∧ W.dataLt (dat u.v) (dat t.v) = false
  | [] => ⟨t, by simp [putB], rfl, dlt_irr _⟩
  | u :: r => by
    simp only [putB]
    split
    · rename_i e
      refine ⟨gt2 u t, List.mem_cons_self .., gt2_key e, ?_⟩
      unfold gt2
      split
      · exact dlt_irr _
      · rename_i h; exact Bool.eq_false_iff.mpr h
    · obtain ⟨x, hx, h⟩ := put_new t r
      exact ⟨x, List.mem_cons_of_mem _ hx, h⟩
theorem put_old {t x : Bt} : ∀ {acc : List Bt}, x ∈ acc → ∃ u ∈ putB acc t, u.key = x.key ∧ W.dataLt (dat u.v) (dat x.v) = false
  | [], h => by cases h
  | u :: r, h => by
    simp only [putB]
    split
    · rename_i e
      rcases List.mem_cons.mp h with rfl | h
      · refine ⟨gt2 x t, List.mem_cons_self .., by rw [gt2_key e, e], ?_⟩
        unfold gt2
        split
        · rename_i h; exact lt_asym h
        · exact dlt_irr _
      · exact ⟨x, List.mem_cons_of_mem _ h, rfl, dlt_irr _⟩
    · rcases List.mem_cons.mp h with rfl | h
      · exact ⟨x, List.mem_cons_self .., rfl, dlt_irr _⟩
      · obtain ⟨y, hy, g⟩ := put_old h
        exact ⟨y, List.mem_cons_of_mem _ hy, g⟩
theorem cnt_max (fs : List Bt) : ∀ t ∈ fs, ∃ u ∈ cntOf fs, u.key = t.key ∧ W.dataLt (dat u.v) (dat t.v) = false := by
  have key : ∀ (q p : List Bt), (∀ t ∈ p, ∃ u ∈ cntOf p, u.key = t.key ∧ W.dataLt (dat u.v) (dat t.v) = false) → ∀ t ∈ p ++ q, ∃ u ∈ cntOf (p ++ q), u.key = t.key ∧ W.dataLt (dat u.v) (dat t.v) = false := by
    intro q
    induction q with
    | nil => intro p h; simpa using h
    | cons x q ih =>
      intro p h
      have := ih (p ++ [x]) fun t ht => by
        rw [cntOf_snoc]
        rcases List.mem_append.mp ht with ht | ht
        · obtain ⟨u, hu, h1, h2⟩ := h t ht
          obtain ⟨y, hy, h3, h4⟩ := put_old (t := x) hu
          exact ⟨y, hy, h3.trans h1, ge_trans h4 h2⟩
        · rw [List.mem_singleton.mp ht]; exact put_new x _
      simpa using this
  simpa using key fs [] (fun t ht => by cases ht)
def its0 (ts : List Bt) : List Vi := ts.map fun t => ((0, t) : Vi)
theorem its0_w (ts : List Bt) : (its0 ts).map Vi.w = ts.map Bt.v := by unfold its0; rw [List.map_map]; rfl
theorem held0 {ts : List Bt} {x : Bt} : x ∈ heldV (its0 ts) ↔ x ∈ ts := by
  have no : ∀ (t : Bt), ((0 + 1, t) : Vi) ∉ its0 ts := fun t h => by
    unfold its0 at h
    obtain ⟨a, _, e⟩ := List.mem_map.mp h
    cases e
  unfold heldV
  constructor
  · intro h
    obtain ⟨i, hi, rfl⟩ := List.mem_map.mp h
    have := dv_mem.mp (List.mem_filter.mp hi).1
    unfold its0 at this
    obtain ⟨a, ha, rfl⟩ := List.mem_map.mp this
    exact ha
  · intro h
    refine List.mem_map.mpr ⟨((0, x) : Vi), List.mem_filter.mpr ⟨dv_mem.mpr (List.mem_map.mpr ⟨x, h, rfl⟩), ?_⟩, rfl⟩
    simp only [keepV, hold, decide_eq_false (no x), Bool.false_and, Bool.not_false, Bool.and_self, decide_true]
theorem key_inj {l : List Bt} (hn : (l.map Bt.key).Nodup) {a b : Bt} (ha : a ∈ l) (hb : b ∈ l) (h : a.key = b.key) : a = b := by
  induction l with
  | nil => cases ha
  | cons x l ih =>
    rw [List.map_cons, List.nodup_cons] at hn
    rcases List.mem_cons.mp ha with ha | ha
    · rcases List.mem_cons.mp hb with hb | hb
      · rw [ha, hb]
      · exact absurd (List.mem_map.mpr ⟨b, hb, by rw [← h, ha]⟩) hn.1
    · rcases List.mem_cons.mp hb with hb | hb
      · exact absurd (List.mem_map.mpr ⟨a, ha, by rw [h, hb]⟩) hn.1
      · exact ih hn.2 ha hb
theorem key_nd {l : List Bt} (h : (l.map Bt.key).Nodup) : l.Nodup := by
  induction l with
  | nil => exact List.nodup_nil
  | cons t l ih =>
    rw [List.map_cons, List.nodup_cons] at h
    exact List.nodup_cons.mpr ⟨fun hm => h.1 (List.mem_map.mpr ⟨t, hm, rfl⟩), ih h.2⟩
theorem str_tri {a b : Str} (h1 : W.dataLt (.str a) (.str b) = false) (h2 : W.dataLt (.str b) (.str a) = false) : a = b := by
  have := dlt_anti (x := .str a) (y := .str b) (by simp [W.alike]) h1 h2
  simp only [PyData.eqv] at this
  simpa using this
theorem held_mem {its : List Vi} {t : Bt} : t ∈ heldV its ↔ (0, t) ∈ its ∧ hold its 3 0 t = true := by
  unfold heldV
  rw [List.mem_map]
  constructor
  · rintro ⟨⟨n, u⟩, hi, rfl⟩
    obtain ⟨h1, h2⟩ := List.mem_filter.mp hi
    unfold keepV at h2
    rw [Bool.and_eq_true] at h2
    have hn : n = 0 := of_decide_eq_true h2.1
    subst hn
    exact ⟨dv_mem.mp h1, h2.2⟩
  · rintro ⟨h1, h2⟩
    refine ⟨(0, t), List.mem_filter.mpr ⟨dv_mem.mpr h1, ?_⟩, rfl⟩
    unfold keepV
    rw [h2]
    rfl
theorem key_w {a b : Bt} (h : a.key = b.key) : a.w = b.w ∧ a.d = b.d := by
  unfold Bt.key Bt.thing at h
  injection h with h
  injection h with h1 h2
  injection h1 with h1
  injection h1 with h1 _
  injection h1 with h1
  injection h2 with h2 _
  injection h2 with h2
  exact ⟨h1, h2⟩
theorem v_anti {a b : Bt} (ha : BKb a) (hb : BKb b) (hw : a.w = b.w) (h1 : W.dataLt (dat a.v) (dat b.v) = false) (h2 : W.dataLt (dat b.v) (dat a.v) = false) : a = b := by
  have e := dlt_anti (word_alike ha hb hw) h1 h2
  rw [eqv_dat ha.ok.pv hb.ok.pv] at e
  exact bt_v_inj (of_decide_eq_true e)
theorem cnt_mem {fs : List Bt} (gb : ∀ t ∈ fs, GB t) {t : Bt} : t ∈ cntOf fs ↔ t ∈ fs ∧ ∀ u ∈ fs, u.key = t.key → W.dataLt (dat t.v) (dat u.v) = false := by
  constructor
  · intro h
    refine ⟨cntOf_mem h, fun u hu e => ?_⟩
    obtain ⟨x, hx, e2, h2⟩ := cnt_max fs u hu
    have := key_inj (cntOf_nodup fs) hx h (e2.trans e)
    subst this
    exact h2
  · rintro ⟨h1, h2⟩
    obtain ⟨x, hx, e2, h3⟩ := cnt_max fs t h1
    have hx' := cntOf_mem hx
    have := v_anti (gb t h1).1 (gb x hx').1 (key_w e2).1.symm (h2 x hx' e2) h3
    rw [this]
    exact hx
theorem cf_same {its its' : List Vi} (ok : ViOk its) (ok' : ViOk its') (h : ∀ t, t ∈ heldV its ↔ t ∈ heldV its') (t : Bt) : t ∈ cfV its ↔ t ∈ cfV its' := by
  unfold cfV
  rw [cnt_mem (held_gb ok), cnt_mem (held_gb ok'), h]
  simp only [h]
theorem okey_one {a b : Bt} (ha : BKb a) (hb : BKb b) (h1 : W.dataLt (okey b) (okey a) = false) (h2 : W.dataLt (okey a) (okey b) = false) : a = b := by
  by_cases hw : a.w = b.w
  · exact okey_anti ha hb hw h1 h2
  · exfalso
    have hd : a.d = b.d := by
      have := okey_le h1
      have := okey_le h2
      omega
    have cps : ∀ {x y : Str}, x ≠ y → (Sum.inr x.cps.toList : Int ⊕ List Nat) ≠ .inr y.cps.toList := fun h e => h (W.str_of_cps (by injection e))
    have atm : ∀ {x y : Str}, x ≠ y → ∀ (p l m : List (Int ⊕ List Nat)), PyProof.Rows.lexLt PyProof.Rows.itemOrd (p ++ .inr x.cps.toList :: l) (p ++ .inr y.cps.toList :: m) = W.dataLt (.str x) (.str y) := fun h p l m => by
      rw [W.lex_pre, W.lex_atom (cps h)]
      unfold W.dataLt
      simp only [W.keyToks]
    have e1 : ∀ t : Bt, W.keyToksAll [dat t.v] = [.inl 1, .inl 1] ++ .inr t.w.cps.toList :: ([.inl 1, .inl t.d] ++ (W.keyToksAll (dats t.xs) ++ [.inl 0])) := fun t => by
      unfold Bt.v
      simp only [dat, dats, W.keyToksAll, W.keyToks, List.cons_append, List.nil_append]
    rw [okey_lt, if_pos hd.symm, e1, e1, atm (Ne.symm hw)] at h1
    rw [okey_lt, if_pos hd, e1, e1, atm hw] at h2
    exact hw (str_tri h2 h1)
theorem So.one {cf sk sf cf' sk' sf' : List Bt} (h : So cf sk sf) (h' : So cf' sk' sf') (e : ∀ t, t ∈ cf ↔ t ∈ cf') : sk = sk' ∧ sf = sf' := by
  have n1 := key_nd h.nd
  have n2 := key_nd h'.nd
  have pc : cf.Perm cf' := (List.perm_ext_iff_of_nodup n1 n2).mpr e
  have nsf : (sf.map Bt.key).Nodup := (h.fp.map Bt.key).nodup_iff.mp h.nd
  constructor
  · refine List.Perm.eq_of_pairwise (le := fun a b => W.dataLt (dat b.key) (dat a.key) = false) (fun a b ha hb h1 h2 => ?_) h.ko h'.ko ((h.kp.symm.trans pc).trans h'.kp)
    have nk : (cf.map Bt.key).Nodup := h.nd
    have ga := h.kp.mem_iff.mpr ha
    have gb := pc.mem_iff.mpr (h'.kp.mem_iff.mpr hb)
    have e2 := dlt_anti ((h.gb a ga).1.kalike (h.gb b gb).1) h2 h1
    rw [eqv_dat (h.gb a ga).1.ok.pk (h.gb b gb).1.ok.pk] at e2
    exact key_inj nk ga gb (of_decide_eq_true e2)
  · refine List.Perm.eq_of_pairwise (le := fun a b => W.dataLt (okey b) (okey a) = false) (fun a b ha hb h1 h2 => ?_) h.fo h'.fo ((h.fp.symm.trans pc).trans h'.fp)
    have ga := h.fp.mem_iff.mpr ha
    have gb := pc.mem_iff.mpr (h'.fp.mem_iff.mpr hb)
    exact okey_one (h.gb a ga).1 (h.gb b gb).1 h1 h2
theorem law_thing_ok (S : List Int) (k : Nat) (t : Bt) (M : Mem) (h : t.ok) : callN (Gp S) fuel (k + 1) ix__law_thing [t.v] M = .ok t.thing (M ++ [.dct false [(.str "share", .int 4), (.str "release", .int 5)]]) := by
  have hz : 1001 ≤ sizeLine := by decide
  refine sat_eq ?_
  rw [at__law_thing]
  refine run_sat rfl ?_
  show (evSl (Gp S) _ _ fuel sl__law_thing [some t.v, none] M).sat _
  unfold sl__law_thing
  have hs0 : ∀ N : Mem, subW (Gp S) t.v (.int 0) N = .ok (.str t.w) N := fun N => rfl
  simp only [q_nil, q_cons, k_nx, k_ret, k_brk, k_ct, q_asg, q_asgA, q_asgS, q_aug, q_ex, q_ret, q_retN, q_pass, q_brk, q_cont, q_ifs, q_for, q_whl, b_t, b_f, be_t, be_f, ba_t, ba_f, bo_t, bo_f, t_bl, t_int, t_non,     q_var, q_con, q_glb, q_tup, q_lst, q_dict0, q_bin, q_neg, q_not, q_and, q_or, q_ife, q_cmp, q_cmp2, q_attr, q_sub, q_srev, q_call, q_callk, q_meth, q_bm, q_new, q_bi, q_isi, q_lc, q_lc2, q_dc, q_sortk, q_sortv, q_sortvM, q_maxk, q_sortm, q_dict2, q_anil, q_acons, q_ival, q_items, q_vals, q_rng, q_zip, q_cntT, q_tab, q_tnin, q_zipT,     o_add, o_sub, o_mul, o_fdiv, o_mod, o_pow18, o_addT, ag_add, ag_sub, c_lt, c_gt, c_le, c_ge, c_eq, c_ne, c_is, c_isn, c_in, c_nin, u_tup, u_scr, n_scr, n_tup, n_str, n_abs, n_min2, n_min3, n_max2, tg_nm, tg_2, tg_3, at_0, at_1, at_2, at_3, at_4, i_int, sat_some, getV_0, getV_s,     List.set_cons_zero, List.set_cons_succ, List.map_cons, List.map_nil, List.replicate_succ, List.replicate_zero, List.cons_append, List.nil_append, List.length_cons, List.length_nil]
  generalize hM1 : M ++ [Ob.dct false [(Wv.str "share", Wv.int 4), (.str "release", .int 5)]] = M1
  have hd : M1[M.length]? = some (.dct false [(Wv.str "share", Wv.int 4), (.str "release", .int 5)]) := by rw [← hM1]; exact at_new ..
  refine ⟨by decide +kernel, bmT_get hd, ?_⟩
  refine sat_of (hs0 _) ?_
  refine sat_of (bm_get2 hd (keyOk_A rfl (by decide +kernel))) ?_
  have eg : ((dget [(Wv.str "share", Wv.int 4), (.str "release", .int 5)] (.str t.w)).getD (.int 3)) = .int ((t.tn : Int) + 2) := by
    simp only [dget]
    unfold Bt.tn
    by_cases c1 : t.w = ("share" : Str)
    · rw [if_pos (by rw [c1]), if_pos c1]; rfl
    · rw [if_neg (fun z => c1 (Wv.str.inj z).symm), if_neg c1]
      by_cases c2 : t.w = ("release" : Str)
      · rw [if_pos (by rw [c2]), if_pos c2]; rfl
      · rw [if_neg (fun z => c2 (Wv.str.inj z).symm), if_neg c2]; rfl
  rw [eg]
  rw [q_slcN (Gp S) _ _ (.var 0) (.con (.int 1)) rfl]
  simp only [q_nil, q_cons, k_nx, k_ret, k_brk, k_ct, q_asg, q_asgA, q_asgS, q_aug, q_ex, q_ret, q_retN, q_pass, q_brk, q_cont, q_ifs, q_for, q_whl, b_t, b_f, be_t, be_f, ba_t, ba_f, bo_t, bo_f, t_bl, t_int, t_non,     q_var, q_con, q_glb, q_tup, q_lst, q_dict0, q_bin, q_neg, q_not, q_and, q_or, q_ife, q_cmp, q_cmp2, q_attr, q_sub, q_srev, q_call, q_callk, q_meth, q_bm, q_new, q_bi, q_isi, q_lc, q_lc2, q_dc, q_sortk, q_sortv, q_sortvM, q_maxk, q_sortm, q_dict2, q_anil, q_acons, q_ival, q_items, q_vals, q_rng, q_zip, q_cntT, q_tab, q_tnin, q_zipT,     o_add, o_sub, o_mul, o_fdiv, o_mod, o_pow18, o_addT, ag_add, ag_sub, c_lt, c_gt, c_le, c_ge, c_eq, c_ne, c_is, c_isn, c_in, c_nin, u_tup, u_scr, n_scr, n_tup, n_str, n_abs, n_min2, n_min3, n_max2, tg_nm, tg_2, tg_3, at_0, at_1, at_2, at_3, at_4, i_int, sat_some, getV_0, getV_s,     List.set_cons_zero, List.set_cons_succ, List.map_cons, List.map_nil, List.replicate_succ, List.replicate_zero, List.cons_append, List.nil_append, List.length_cons, List.length_nil]
  have e1 : slcW t.v none (some 1) M1 = .ok (.tup [.str t.w]) M1 := by
    show Out.ok (Wv.tup (cut (.str t.w :: .int t.d :: t.xs) none (some 1))) M1 = _
    congr 2
  refine sat_of e1 ?_
  rw [q_slc (Gp S) _ _ (.var 0) (.con (.int 2)) (.var 1) rfl rfl]
  simp only [q_nil, q_cons, k_nx, k_ret, k_brk, k_ct, q_asg, q_asgA, q_asgS, q_aug, q_ex, q_ret, q_retN, q_pass, q_brk, q_cont, q_ifs, q_for, q_whl, b_t, b_f, be_t, be_f, ba_t, ba_f, bo_t, bo_f, t_bl, t_int, t_non,     q_var, q_con, q_glb, q_tup, q_lst, q_dict0, q_bin, q_neg, q_not, q_and, q_or, q_ife, q_cmp, q_cmp2, q_attr, q_sub, q_srev, q_call, q_callk, q_meth, q_bm, q_new, q_bi, q_isi, q_lc, q_lc2, q_dc, q_sortk, q_sortv, q_sortvM, q_maxk, q_sortm, q_dict2, q_anil, q_acons, q_ival, q_items, q_vals, q_rng, q_zip, q_cntT, q_tab, q_tnin, q_zipT,     o_add, o_sub, o_mul, o_fdiv, o_mod, o_pow18, o_addT, ag_add, ag_sub, c_lt, c_gt, c_le, c_ge, c_eq, c_ne, c_is, c_isn, c_in, c_nin, u_tup, u_scr, n_scr, n_tup, n_str, n_abs, n_min2, n_min3, n_max2, tg_nm, tg_2, tg_3, at_0, at_1, at_2, at_3, at_4, i_int, sat_some, getV_0, getV_s,     List.set_cons_zero, List.set_cons_succ, List.map_cons, List.map_nil, List.replicate_succ, List.replicate_zero, List.cons_append, List.nil_append, List.length_cons, List.length_nil]
  have hln := h.ln
  have e2 : slcW t.v (some 2) (some ((t.tn : Int) + 2)) M1 = .ok (.tup (t.xs.take t.tn)) M1 := by
    show Out.ok (Wv.tup (cut (.str t.w :: .int t.d :: t.xs) (some 2) (some ((t.tn : Int) + 2)))) M1 = _
    congr 2
    unfold cut
    simp only [sIx]
    rw [if_neg (by omega), if_neg (by omega)]
    have a1 : min (Int.toNat 2) (Wv.str t.w :: .int t.d :: t.xs).length = 2 := by
      simp only [List.length_cons]
      omega
    have a2 : min ((t.tn : Int) + 2).toNat (Wv.str t.w :: .int t.d :: t.xs).length - 2 = t.tn := by
      simp only [List.length_cons]
      omega
    rw [a1, a2]
    rfl
  refine sat_of e2 ?_
  simp only [q_nil, q_cons, k_nx, k_ret, k_brk, k_ct, q_asg, q_asgA, q_asgS, q_aug, q_ex, q_ret, q_retN, q_pass, q_brk, q_cont, q_ifs, q_for, q_whl, b_t, b_f, be_t, be_f, ba_t, ba_f, bo_t, bo_f, t_bl, t_int, t_non,     q_var, q_con, q_glb, q_tup, q_lst, q_dict0, q_bin, q_neg, q_not, q_and, q_or, q_ife, q_cmp, q_cmp2, q_attr, q_sub, q_srev, q_call, q_callk, q_meth, q_bm, q_new, q_bi, q_isi, q_lc, q_lc2, q_dc, q_sortk, q_sortv, q_sortvM, q_maxk, q_sortm, q_dict2, q_anil, q_acons, q_ival, q_items, q_vals, q_rng, q_zip, q_cntT, q_tab, q_tnin, q_zipT,     o_add, o_sub, o_mul, o_fdiv, o_mod, o_pow18, o_addT, ag_add, ag_sub, c_lt, c_gt, c_le, c_ge, c_eq, c_ne, c_is, c_isn, c_in, c_nin, u_tup, u_scr, n_scr, n_tup, n_str, n_abs, n_min2, n_min3, n_max2, tg_nm, tg_2, tg_3, at_0, at_1, at_2, at_3, at_4, i_int, sat_some, getV_0, getV_s,     List.set_cons_zero, List.set_cons_succ, List.map_cons, List.map_nil, List.replicate_succ, List.replicate_zero, List.cons_append, List.nil_append, List.length_cons, List.length_nil]
  refine ⟨len_ok ?_, rfl, trivial⟩
  have : t.tn ≤ 3 := by
    unfold Bt.tn
    split
    · omega
    · split <;> omega
  rw [List.length_take]
  omega
end Bh
end
section
set_option Elab.async false
set_option linter.all false
set_option maxRecDepth 100000
set_option maxHeartbeats 0
namespace Bh
open PySem MP
def sky (t : Bt) : PyData := .str (dat t.v).shown
def sLt (a b : Bt) : Bool := W.dataLt (sky a) (sky b)
def sEq (a b : Bt) : Bool := !sLt a b && !sLt b a
def strS (l : List Bt) : List Bt := l.mergeSort fun a b => W.dataLe false sky a b
theorem sLe (a b : Bt) : W.dataLe false sky a b = !sLt b a := by rw [W.dataLe_eq]; rfl
theorem sLt_neg {a b : Bt} (c : Bt) (h : sLt a b = true) : sLt a c = true ∨ sLt c b = true := by
  rcases PyProof.Rows.lex_negTrans _ (W.keyToks (sky c)) _ h with h | h
  · exact .inl h
  · exact .inr h
theorem sLt_irr (a : Bt) : sLt a a = false := PyProof.Rows.lex_irrefl _
theorem sLt_asym {a b : Bt} (h : sLt a b = true) : sLt b a = false := by
  cases h2 : sLt b a with
  | false => rfl
  | true =>
    have := PyProof.Rows.lex_trans _ _ _ h h2
    rw [PyProof.Rows.lex_irrefl] at this
    cases this
theorem sLe_tr (a b c : Bt) (h1 : W.dataLe false sky a b = true) (h2 : W.dataLe false sky b c = true) : W.dataLe false sky a c = true := by
  rw [sLe, Bool.not_eq_true'] at *
  cases h : sLt c a with
  | false => rfl
  | true => rcases sLt_neg b h with h | h <;> simp_all
theorem sLe_tot (a b : Bt) : (W.dataLe false sky a b || W.dataLe false sky b a) = true := by
  rw [sLe, sLe]
  cases h : sLt b a with
  | false => rfl
  | true => rw [sLt_asym h]; rfl
theorem sEq_tr {x a b : Bt} (h1 : sEq x a = true) (h2 : sEq x b = true) : sLt a b = false := by
  unfold sEq at h1 h2
  simp only [Bool.and_eq_true, Bool.not_eq_true'] at h1 h2
  cases h : sLt a b with
  | false => rfl
  | true => rcases sLt_neg x h with h | h <;> simp_all
theorem strS_pw (l : List Bt) : (strS l).Pairwise fun a b => sLt b a = false :=
  (List.pairwise_mergeSort sLe_tr sLe_tot l).imp fun {a b} h => by rw [sLe, Bool.not_eq_true'] at h; exact h
theorem strS_perm (l : List Bt) : (strS l).Perm l := List.mergeSort_perm _ _
theorem strS_cls (l : List Bt) (x : Bt) : (strS l).filter (sEq x) = l.filter (sEq x) := by
  have h1 : (l.filter (sEq x)).Pairwise fun a b => W.dataLe false sky a b = true := by
    rw [List.pairwise_iff_forall_sublist]
    intro a b hab
    have ha := (List.mem_filter.mp (hab.subset (by simp : a ∈ [a, b]))).2
    have hb := (List.mem_filter.mp (hab.subset (by simp : b ∈ [a, b]))).2
    rw [sLe, sEq_tr hb ha]
    rfl
  have h2 : (l.filter (sEq x)).Sublist (strS l) := List.sublist_mergeSort sLe_tr sLe_tot h1 List.filter_sublist
  have h3 := h2.filter (sEq x)
  rw [List.filter_filter] at h3
  simp only [Bool.and_self] at h3
  exact (h3.eq_of_length ((strS_perm l).filter _).length_eq.symm).symm
theorem srt_one : ∀ {A B : List Bt}, (A.Pairwise fun a b => sLt b a = false) → (B.Pairwise fun a b => sLt b a = false) → (∀ x, A.filter (sEq x) = B.filter (sEq x)) → A = B
  | [], [], _, _, _ => rfl
  | [], b :: B, _, _, h => by
    have := h b
    have e : sEq b b = true := by unfold sEq; rw [sLt_irr]; rfl
    rw [List.filter_nil, List.filter_cons_of_pos e] at this
    cases this
  | a :: A, [], _, _, h => by
    have := h a
    have e : sEq a a = true := by unfold sEq; rw [sLt_irr]; rfl
    rw [List.filter_nil, List.filter_cons_of_pos e] at this
    cases this
  | a :: A, b :: B, hA, hB, h => by
    have ea : sEq a a = true := by unfold sEq; rw [sLt_irr]; rfl
    have eb : sEq b b = true := by unfold sEq; rw [sLt_irr]; rfl
    have ha : a ∈ b :: B := by
      have : a ∈ (b :: B).filter (sEq a) := by rw [← h a]; exact List.mem_filter.mpr ⟨.head _, ea⟩
      exact (List.mem_filter.mp this).1
    have hb : b ∈ a :: A := by
      have : b ∈ (a :: A).filter (sEq b) := by rw [h b]; exact List.mem_filter.mpr ⟨.head _, eb⟩
      exact (List.mem_filter.mp this).1
    obtain ⟨a1, a2⟩ := List.pairwise_cons.mp hA
    obtain ⟨b1, b2⟩ := List.pairwise_cons.mp hB
    have l1 : sLt a b = false := by
      rcases List.mem_cons.mp ha with e | e
      · rw [e]; exact sLt_irr _
      · exact b1 a e
    have l2 : sLt b a = false := by
      rcases List.mem_cons.mp hb with e | e
      · rw [e]; exact sLt_irr _
      · exact a1 b e
    have eab : sEq a b = true := by unfold sEq; rw [l1, l2]; rfl
    have e0 := h a
    rw [List.filter_cons_of_pos ea, List.filter_cons_of_pos eab] at e0
    obtain ⟨e1, _⟩ := List.cons.inj e0
    subst e1
    rw [srt_one a2 b2 fun x => by
      have := h x
      by_cases c : sEq x a = true
      · rw [List.filter_cons_of_pos c, List.filter_cons_of_pos c] at this
        exact (List.cons.inj this).2
      · rw [List.filter_cons_of_neg c, List.filter_cons_of_neg c] at this
        exact this]
theorem strS_filter (p : Bt → Bool) (l : List Bt) : (strS l).filter p = strS (l.filter p) := by
  refine srt_one ((strS_pw l).filter p) (strS_pw _) fun x => ?_
  rw [strS_cls, List.filter_filter, List.filter_filter]
  have e : ∀ m : List Bt, m.filter (fun a => sEq x a && p a) = (m.filter (sEq x)).filter p := fun m => by
    rw [List.filter_filter]
    exact List.filter_congr fun a _ => Bool.and_comm _ _
  rw [e, strS_cls, List.filter_filter]
  exact List.filter_congr fun a _ => Bool.and_comm _ _
theorem str_key (S : List Int) {t : Bt} (h : GB t) (M : Mem) : keyOf (Gp S) .str M t.v = some (sky t) := by
  have e := str_ok S h.1 0 (by omega) M
  have hp := h.1.ok.pv
  have ht : toD (Gp S).S M deepD t.v = some (dat t.v) := toD_pur hp (by decide)
  have ev : vdN 0 t.v = t.v := rfl
  rw [ev] at e
  obtain ⟨ws, ew⟩ : ∃ ws, t.v = .tup ws := ⟨_, rfl⟩
  unfold keyOf
  rw [ht]
  simp only [noL_dat hp, if_true]
  rw [ew] at e ht ⊢
  simp only [biW, ht] at e
  have hd : ∃ xs, dat (.tup ws) = .tuple xs := ⟨dats ws, by simp only [dat]⟩
  obtain ⟨xs, ed⟩ := hd
  unfold sky
  rw [ew]
  rw [ed] at e ⊢
  simp only [keyD]
  by_cases c : ((PyData.tuple xs).showable && !(PyData.tuple xs).hasDict && dcap (PyData.tuple xs) && lenOk (PyData.tuple xs).shown.length) = true
  · rw [if_pos c]
  · rw [Bool.not_eq_true] at c
    rw [c] at e
    simp [Out.chk] at e
theorem str_sorted (S : List Int) {l : List Bt} (h : ∀ t ∈ l, GB t) (M : Mem) : (mapO (keyOf (Gp S) .str M) (l.map Bt.v)).bind (fun ds => sortBy ds (l.map Bt.v)) = some ((strS l).map Bt.v) := by
  have e1 : mapO (keyOf (Gp S) .str M) (l.map Bt.v) = some (l.map sky) := mapO_map fun t ht => str_key S (h t ht) M
  rw [e1]
  show sortBy (l.map sky) (l.map Bt.v) = _
  unfold sortBy
  have a1 : alikeAllB (l.map sky) = true := by
    unfold alikeAllB
    rw [List.all_eq_true]
    intro x hx
    rw [List.all_eq_true]
    intro y hy
    obtain ⟨a, _, rfl⟩ := List.mem_map.mp hx
    obtain ⟨b, _, rfl⟩ := List.mem_map.mp hy
    simp [sky, W.alike]
  have a2 : sortableB (l.map sky) = true := by
    unfold sortableB
    rw [Bool.or_eq_true]
    right
    rw [List.all_eq_true]
    intro x hx
    obtain ⟨a, _, rfl⟩ := List.mem_map.mp hx
    rfl
  have a3 : (l.map sky).all dcap = true := by
    rw [List.all_eq_true]
    intro x hx
    obtain ⟨a, _, rfl⟩ := List.mem_map.mp hx
    exact decide_eq_true (by simp [sky, PyData.depth])
  rw [a1, a2, a3]
  simp only [Bool.and_self, if_true]
  have e2 := List.map_mergeSort (r := fun a b : Bt => W.dataLe false sky a b) (s := fun a b => PySem.W.dataLe false (fun p : PyData × Wv => p.1) a b) (f := fun a : Bt => (sky a, a.v)) (l := l) (fun a ha b hb => by rw [W.dataLe_eq, W.dataLe_eq])
  have e3 : (l.map sky).zip (l.map Bt.v) = l.map fun a : Bt => (sky a, a.v) := List.zip_map' ..
  rw [e3, ← e2, List.map_map]
  rfl
theorem dv_filter (p : Vi → Bool) (its : List Vi) : dv (its.filter p) = (dv its).filter p := by
  unfold dv
  have key : ∀ (us g : List Vi), (us.filter p).foldl (fun g i => if i ∈ g then g else g ++ [i]) (g.filter p) = (us.foldl (fun g i => if i ∈ g then g else g ++ [i]) g).filter p := by
    intro us
    induction us with
    | nil => intro g; rfl
    | cons t us ih =>
      intro g
      rw [List.foldl_cons]
      cases hp : p t with
      | true =>
        rw [List.filter_cons_of_pos hp, List.foldl_cons]
        by_cases c : t ∈ g
        · rw [if_pos (List.mem_filter.mpr ⟨c, hp⟩), if_pos c]; exact ih g
        · rw [if_neg (fun h => c (List.mem_filter.mp h).1), if_neg c]
          have e : g.filter p ++ [t] = (g ++ [t]).filter p := by rw [List.filter_append, List.filter_cons_of_pos hp]; rfl
          rw [e]
          exact ih _
      | false =>
        rw [List.filter_cons_of_neg (by rw [hp]; exact Bool.false_ne_true)]
        by_cases c : t ∈ g
        · rw [if_pos c]; exact ih g
        · rw [if_neg c]
          have e : g.filter p = (g ++ [t]).filter p := by rw [List.filter_append, List.filter_cons_of_neg (by rw [hp]; exact Bool.false_ne_true)]; simp
          rw [e]
          exact ih _
  exact key its []
theorem dv_twice (its : List Vi) : dv (its ++ its) = dv its := by
  unfold dv
  rw [List.foldl_append]
  have key : ∀ (us g : List Vi), (∀ x ∈ us, x ∈ g) → us.foldl (fun g i => if i ∈ g then g else g ++ [i]) g = g := by
    intro us
    induction us with
    | nil => intro g _; rfl
    | cons t us ih =>
      intro g h
      rw [List.foldl_cons, if_pos (h t (.head _))]
      exact ih g fun x hx => h x (.tail _ hx)
  exact key its _ fun x hx => dv_mem.mpr hx
def z0 (i : Vi) : Bool := decide (i.1 = 0)
theorem held_eq (its : List Vi) : heldV its = ((dv (its.filter z0)).filter fun i => hold its 3 0 i.2).map (·.2) := by
  unfold heldV
  rw [dv_filter, List.filter_filter]
  congr 1
  refine List.filter_congr fun i _ => ?_
  unfold keepV z0
  rw [Bool.and_comm]
theorem held_plain {its : List Vi} (h : ∀ i ∈ its, i.1 = 0) : heldV its = (dv its).map (·.2) := by
  rw [held_eq]
  have e1 : its.filter z0 = its := List.filter_eq_self.mpr fun i hi => decide_eq_true (h i hi)
  rw [e1]
  congr 1
  refine List.filter_eq_self.mpr fun i _ => ?_
  simp only [hold]
  have : ((0 + 1, i.2) : Vi) ∉ its := fun e => by have := h _ e; simp at this
  rw [decide_eq_false this]
  rfl
theorem held_twice {its : List Vi} (h : ∀ i ∈ its, i.1 = 0) : heldV (its ++ its) = heldV its := by
  rw [held_plain h, held_plain (fun i hi => by rcases List.mem_append.mp hi with hi | hi <;> exact h i hi), dv_twice]
structure Rw3 (pl rows : List Vi) (one : Bt) (k : Nat) : Prop where
  z : rows.filter z0 = pl
  v : ∀ i : Vi, 1 ≤ i.1 → (i ∈ rows ↔ i.2 = one ∧ i.1 ≤ k)
theorem Rw3.held {pl rows : List Vi} {one : Bt} {k : Nat} (h : Rw3 pl rows one k) (hp : ∀ i ∈ pl, i.1 = 0) (h1 : 1 ≤ k) (h3 : k ≤ 3) : heldV rows = if k % 2 = 1 then (heldV pl).filter (fun t => !decide (t = one)) else heldV pl := by
  rw [held_eq, h.z, held_plain hp]
  have m : ∀ (j : Nat) (t : Bt), 1 ≤ j → decide (((j, t) : Vi) ∈ rows) = (decide (t = one) && decide (j ≤ k)) := fun j t hj => by
    rw [Bool.eq_iff_iff, decide_eq_true_eq, h.v _ hj, Bool.and_eq_true, decide_eq_true_eq, decide_eq_true_eq]
  have hh : ∀ t : Bt, hold rows 3 0 t = !(decide (t = one) && decide (k % 2 = 1)) := fun t => by
    simp only [hold, m _ t (Nat.le_refl 1), m _ t (show 1 ≤ 0 + 1 by omega), m _ t (show 1 ≤ 0 + 1 + 1 by omega), m _ t (show 1 ≤ 0 + 1 + 1 + 1 by omega)]
    have hk : k = 1 ∨ k = 2 ∨ k = 3 := by omega
    by_cases c : t = one
    · rw [decide_eq_true c]
      rcases hk with rfl | rfl | rfl <;> rfl
    · rw [decide_eq_false c]
      simp
  by_cases c : k % 2 = 1
  · rw [if_pos c, List.filter_map]
    congr 1
    refine List.filter_congr fun i _ => ?_
    rw [hh, decide_eq_true c, Bool.and_true]
    rfl
  · rw [if_neg c]
    congr 1
    refine List.filter_eq_self.mpr fun i _ => ?_
    rw [hh, decide_eq_false c, Bool.and_false]
    rfl
end Bh
end
section
set_option Elab.async false
set_option linter.all false
set_option maxRecDepth 100000
set_option maxHeartbeats 0
namespace Bh
open PySem MP
def W11 : List Str := ["place", "read", "right", "ask", "store", "dam", "share", "release", "sold", "leased", "moved"]
def seenW (sf : List Bt) (ws : List Str) : List Bt := ws.flatMap fun w => sf.filter fun t => ofHit w none t.thing
def seenB (sf : List Bt) : List Bt := seenW sf W11
theorem w11_shaped : ∀ w ∈ W11, SeqAt.shaped (.str w) = true := by decide +kernel
theorem sig_w11 : ∀ x ∈ sigT, x.1 ∈ W11 := by decide +kernel
theorem bt_w11 {t : Bt} (h : GB t) : t.w ∈ W11 := by
  obtain ⟨sg, hs, _⟩ := h.1.2
  exact sig_w11 _ hs
theorem seen_len (sf : List Bt) : ∀ ws : List Str, (seenW sf ws).length ≤ ws.length * sf.length
  | [] => by simp [seenW]
  | w :: ws => by
    have h1 := seen_len sf ws
    have h2 := List.length_filter_le (fun t => ofHit w none t.thing) sf
    unfold seenW at h1 ⊢
    rw [List.flatMap_cons, List.length_append, List.length_cons, Nat.succ_mul]
    omega
theorem seen_mem {sf : List Bt} (hg : ∀ t ∈ sf, GB t) {t : Bt} : t ∈ seenB sf ↔ t ∈ sf := by
  unfold seenB seenW
  rw [List.mem_flatMap]
  constructor
  · rintro ⟨w, _, h⟩
    exact (List.mem_filter.mp h).1
  · intro h
    exact ⟨t.w, bt_w11 (hg t h), List.mem_filter.mpr ⟨h, by rw [hit_none (hg t h).1]; simp⟩⟩
theorem seen_nd {sf : List Bt} (hg : ∀ t ∈ sf, GB t) (nd : (sf.map Bt.key).Nodup) : ((seenB sf).map Bt.key).Nodup := by
  have h11 : W11.Nodup := by decide +kernel
  unfold seenB seenW List.Nodup
  rw [List.map_flatMap, List.pairwise_flatMap]
  refine ⟨fun w _ => ?_, h11.imp_of_mem fun {v w} hv hw ne a ha b hb e => ?_⟩
  · exact nd.sublist (List.filter_sublist.map _)
  · obtain ⟨t, ht, rfl⟩ := List.mem_map.mp ha
    obtain ⟨u, hu, rfl⟩ := List.mem_map.mp hb
    obtain ⟨t1, t2⟩ := List.mem_filter.mp ht
    obtain ⟨u1, u2⟩ := List.mem_filter.mp hu
    rw [hit_none (hg t t1).1] at t2
    rw [hit_none (hg u u1).1] at u2
    have e1 := (key_w e).1
    exact ne (by rw [← of_decide_eq_true t2, ← of_decide_eq_true u2, e1])
theorem cf_nodup {ts : List Bt} (nd : (ts.map Bt.key).Nodup) : ∀ t, t ∈ cfV (its0 ts) ↔ t ∈ ts := fun t => by
  refine ⟨fun h => held0.mp (cntOf_mem h), fun h => ?_⟩
  obtain ⟨u, hu, e, _⟩ := cnt_max (heldV (its0 ts)) t (held0.mpr h)
  have := key_inj nd h (held0.mp (cntOf_mem hu)) e.symm
  rw [this]
  exact hu
section
variable (S : List Int) (k s : Nat) {cf sk sf : List Bt} (hO : So cf sk sf) (hcl : cf.length ≤ 200) (F : RF (rowsOf sk))
include hO hcl F
theorem seen_ok (M : Mem) (hW : WAt M s (rowsOf sk)) : (callN (Gp S) fuel (k + 2) ix__law_seen [.ref s] M).sat fun v M' => M <+: M' ∧ ∃ y, v = .ref y ∧ M'[y]? = some (.lst ((seenB sf).map Bt.v)) := by
  have hz : 16000000 ≤ sizeLine := by decide
  have hfl : sf.length ≤ 200 := by rw [← hO.fp.length_eq]; exact hcl
  rw [at__law_seen]
  refine run_sat rfl ?_
  show (evSl (Gp S) (callN (Gp S) fuel (k + 1)) (callN (Gp S) fuel k) fuel sl__law_seen [some (.ref s), none, none] M).sat _
  unfold sl__law_seen
  rw [q_cons, q_asg, q_lst, q_anil]
  refine ⟨len_ok (by decide), ?_⟩
  simp only [tg_nm, sat_some, List.set_cons_zero, List.set_cons_succ, k_nx]
  have pA := List.prefix_append M [Ob.lst []]
  have hA := at_new M (Ob.lst [])
  generalize (M ++ [Ob.lst []]) = A at *
  generalize M.length = y0 at *
  rw [q_cons, q_for, q_ival, q_tup]
  simp only [q_acons, q_anil, q_con]
  refine ⟨len_ok (show 11 ≤ sizeLine by decide), ?_⟩
  have ew : ∀ N : Mem, walkV (Gp S) (.tup (W11.map Wv.str)) N = some (W11.map Wv.str, []) := fun N => rfl
  show ((Out.ofO (walkV (Gp S) (.tup (W11.map Wv.str)) A) A).sat _)
  simp only [ew, sat_some, lock_no, unlk_no]
  refine sat_mono (for_rule (Q := fun q M' => (∃ (y : Nat) (x2 : Option Wv), q = (.nx, [some (.ref s), some (.ref y), x2]) ∧ M'[y]? = some (.lst ((seenB sf).map Bt.v))) ∧ M <+: M')
    (fun _ post σ M' => ∃ (P Q : List Str) (y : Nat) (x2 : Option Wv), W11 = P ++ Q ∧ post = Q.map Wv.str ∧ σ = [some (.ref s), some (.ref y), x2] ∧ M'[y]? = some (.lst ((seenW sf P).map Bt.v)) ∧ M <+: M') ?_ ?_ _ [] _ _ ⟨[], W11, y0, none, rfl, rfl, rfl, hA, pA⟩) fun q N ⟨⟨y, x2, hq, hy⟩, hp⟩ => ?_
  · rintro _ x post σ N ⟨P, Q, y, x2, hPQ, hpost, rfl, hy, hp⟩
    cases Q with
    | nil => cases hpost
    | cons w Q =>
      simp only [List.map_cons, List.cons.injEq] at hpost
      obtain ⟨rfl, rfl⟩ := hpost
      have hw : w ∈ W11 := by rw [hPQ]; simp
      have hPl : P.length ≤ 11 := by
        have := congrArg List.length hPQ
        rw [List.length_append] at this
        have h11 : W11.length = 11 := rfl
        omega
      refine ⟨rfl, [some (.ref s), some (.ref y), some (.str w)], rfl, ?_⟩
      rw [q_cons, q_asg, q_bin, q_var]
      simp only [getV_0, getV_s, sat_some]
      rw [q_meth]
      simp only [q_var, q_con, q_acons, q_anil, getV_0, getV_s, sat_some]
      have hWN := hW.mono hp
      obtain ⟨r1, q1, kvs1, hs1, _, _⟩ := id hWN
      simp only [met_World_of hs1 (by kernel_rfl), sat_some, List.append_nil]
      refine sat_mono (of_cnt S k s hO hcl F w none N hWN (w11_shaped w hw)) fun v N2 ⟨pN2, y2, hv, _, hy2⟩ => ?_
      subst hv
      have hl1 := seen_len sf P
      have hl1' : P.length * sf.length ≤ 11 * 200 := Nat.mul_le_mul hPl hfl
      have hl2 := List.length_filter_le (fun t : Bt => ofHit w none t.thing) sf
      refine o_addL _ _ _ _ (pre_get pN2 hy) hy2 (len_ok (by simp only [List.length_map]; omega)) ?_
      simp only [tg_nm, sat_some, List.set_cons_zero, List.set_cons_succ, k_nx, q_nil]
      refine ⟨P ++ [w], Q, _, _, by rw [hPQ]; simp, rfl, rfl, ?_, hp.trans (pN2.trans (List.prefix_append _ _))⟩
      rw [at_new]
      unfold seenW
      simp
  · rintro _ σ N ⟨P, Q, y, x2, hPQ, hpost, rfl, hy, hp⟩
    cases Q with
    | cons w Q => cases hpost
    | nil =>
      rw [List.append_nil] at hPQ
      refine ⟨rfl, ⟨y, x2, rfl, ?_⟩, hp⟩
      unfold seenB
      rw [hPQ]
      exact hy
  · subst hq
    rw [k_nx, q_cons, q_ret, q_var]
    simp only [getV_0, getV_s, sat_some, k_ret]
    exact ⟨hp, y, by first | rfl | trivial, hy⟩
end
theorem seen_same (S : List Int) {its its' : List Vi} {sk sf : List Bt} (hO : So (cfV its) sk sf) (hok : ViOk its) (hok' : ViOk its') (hl' : its'.length ≤ 200) (h : ∀ t, t ∈ cfV its' ↔ t ∈ cfV its) {l : Nat} {M : Mem} (hM : M[l]? = some (.lst (its'.map Vi.w))) :
    (newW (Gp S) (callN (Gp S) fuel 19) ci_World [.ref l] M).sat fun v M1 => M <+: M1 ∧ (callN (Gp S) fuel 20 ix__law_seen [v] M1).sat fun x M' => M1 <+: M' ∧ ∃ y, x = .ref y ∧ M'[y]? = some (.lst ((seenB sf).map Bt.v)) := by
  obtain ⟨sk', sf', hO'⟩ := so_ex (cf_gb hok') (cntOf_nodup _)
  obtain ⟨e1, e2⟩ := hO'.one hO h
  subst e1 e2
  have hcl : (cfV its').length ≤ 200 := Nat.le_trans (cf_len its') hl'
  refine sat_mono (world_v S 16 l its' sk' M hM hok' hl' hO'.kp hO'.ks) fun v M1 ⟨p, s, hv, hW⟩ => ?_
  subst hv
  exact ⟨p, seen_ok S 18 s hO' hcl (rows_rf hO'.gk (by rw [← hO'.kp.length_eq]; exact hcl)) M1 hW⟩
end Bh
end
section
set_option Elab.async false
set_option linter.all false
set_option maxRecDepth 100000
set_option maxHeartbeats 0
namespace Bh
open PySem MP
@[irreducible] def lx0 : St := (.asg (.nm 1) (.call ix__law_all_truths (.cons (.var 0) (.cons (.con (.int 10)) (.cons (.bin .add (.con (.int 3)) (.call ix__law_drawn (.cons (.var 0) (.cons (.con (.int 0)) (.cons (.con (.int 12)) .nil))) [])) .nil))) []))
@[irreducible] def lx1 : St := (.asg (.tup [2, 3]) (.tup (.cons (.call ix__law_seen (.cons (.new ci_World (.cons (.var 1) .nil)) .nil) []) (.cons (.lst .nil) .nil))))
@[irreducible] def lx2_0 : St := (.ex (.bm .insert (.var 3) (.cons (.call ix__law_drawn (.cons (.var 0) (.cons (.bin .add (.con (.int 300)) (.var 4)) (.cons (.bin .add (.var 4) (.con (.int 1))) .nil))) []) (.cons (.sub (.var 1) (.var 4)) .nil))))
@[irreducible] def lt2_0 : Sl := (.cons lx2_0 .nil)
@[irreducible] def lx2 : St := (.for_ (.nm 4) (.rng (.con (.int 0)) (.bi .len (.cons (.var 1) .nil))) lt2_0)
@[irreducible] def lx3 : St := (.ifs (.or (.cmp .ne (.call ix__law_seen (.cons (.new ci_World (.cons (.var 3) .nil)) .nil) []) (.var 2)) (.cmp .ne (.call ix__law_seen (.cons (.new ci_World (.cons (.bin .add (.var 1) (.srev false (.var 1))) .nil)) .nil) []) (.var 2))) (.cons (.ret (.con (.bl false))) .nil) .nil)
@[irreducible] def lx4 : St := (.ifs (.cmp .ne (.call ix__law_seen (.cons (.new ci_World (.cons (.var 2) .nil)) .nil) []) (.var 2)) (.cons (.ret (.con (.bl false))) .nil) .nil)
@[irreducible] def lx5 : St := (.ifs (.cmp .ne (.bi .lset (.cons (.lc (.tup (.cons (.call ix__law_thing (.cons (.var 13) .nil) []) (.cons (.sub (.var 13) (.con (.int 1))) .nil))) (.nm 13) (.val (.var 2)) (.con (.bl true))) .nil)) (.bi .len (.cons (.var 2) .nil))) (.cons (.ret (.con (.bl false))) .nil) .nil)
@[irreducible] def lx6 : St := (.ifs (.cmp .ne (.lc (.var 13) (.nm 13) (.val (.var 2)) (.cmp .nin (.var 13) (.call ix_in_force (.cons (.var 1) .nil) []))) (.lst .nil)) (.cons (.ret (.con (.bl false))) .nil) .nil)
@[irreducible] def lx7 : St := (.asg (.nm 5) (.lc (.var 13) (.nm 13) (.val (.var 1)) (.cmp .ne (.sub (.var 13) (.con (.int 0))) (.con (.str "void")))))
@[irreducible] def lx8 : St := (.asg (.nm 6) (.sortk (.call ix_in_force (.cons (.var 5) .nil) []) .str))
@[irreducible] def lx9 : St := (.asg (.tup [7, 8]) (.tup (.cons (.sub (.var 5) (.call ix__law_drawn (.cons (.var 0) (.cons (.con (.int 1)) (.cons (.bi .len (.cons (.var 5) .nil)) .nil))) [])) (.cons (.bi .list (.cons (.var 5) .nil)) .nil))))
@[irreducible] def lx10_0 : St := (.asg (.nm 10) (.var 7))
@[irreducible] def lx10_1_0 : St := (.asg (.nm 10) (.tup (.cons (.con (.str "void")) (.cons (.var 10) .nil))))
@[irreducible] def lt10_1_0 : Sl := (.cons lx10_1_0 .nil)
@[irreducible] def lx10_1 : St := (.for_ (.nm 11) (.rng (.con (.int 0)) (.var 9)) lt10_1_0)
@[irreducible] def lx10_2 : St := (.ex (.bm .insert (.var 8) (.cons (.call ix__law_drawn (.cons (.var 0) (.cons (.bin .add (.con (.int 400)) (.var 9)) (.cons (.bin .add (.bi .len (.cons (.var 8) .nil)) (.con (.int 1))) .nil))) []) (.cons (.var 10) .nil))))
@[irreducible] def lx10_3 : St := (.asg (.nm 12) (.sortk (.call ix_in_force (.cons (.var 8) .nil) []) .str))
@[irreducible] def lx10_4 : St := (.ifs (.cmp .ne (.var 12) (.ife (.cmp .eq (.bin .mod (.var 9) (.con (.int 2))) (.con (.int 1))) (.lc (.var 13) (.nm 13) (.val (.var 6)) (.cmp .ne (.var 13) (.var 7))) (.var 6))) (.cons (.ret (.con (.bl false))) .nil) .nil)
@[irreducible] def lt10_4 : Sl := (.cons lx10_4 .nil)
@[irreducible] def lt10_3 : Sl := (.cons lx10_3 lt10_4)
@[irreducible] def lt10_2 : Sl := (.cons lx10_2 lt10_3)
@[irreducible] def lt10_1 : Sl := (.cons lx10_1 lt10_2)
@[irreducible] def lt10_0 : Sl := (.cons lx10_0 lt10_1)
@[irreducible] def lx10 : St := (.for_ (.nm 9) (.rng (.con (.int 1)) (.con (.int 4))) lt10_0)
@[irreducible] def lx11 : St := (.ret (.cmp .eq (.sortk (.call ix_in_force (.cons (.bin .add (.var 5) (.var 5)) .nil) []) .str) (.var 6)))
@[irreducible] def lt11 : Sl := (.cons lx11 .nil)
@[irreducible] def lt10 : Sl := (.cons lx10 lt11)
@[irreducible] def lt9 : Sl := (.cons lx9 lt10)
@[irreducible] def lt8 : Sl := (.cons lx8 lt9)
@[irreducible] def lt7 : Sl := (.cons lx7 lt8)
@[irreducible] def lt6 : Sl := (.cons lx6 lt7)
@[irreducible] def lt5 : Sl := (.cons lx5 lt6)
@[irreducible] def lt4 : Sl := (.cons lx4 lt5)
@[irreducible] def lt3 : Sl := (.cons lx3 lt4)
@[irreducible] def lt2 : Sl := (.cons lx2 lt3)
@[irreducible] def lt1 : Sl := (.cons lx1 lt2)
@[irreducible] def lt0 : Sl := (.cons lx0 lt1)
def QR (r : Fl × Sw) (_ : Mem) : Prop := match r.1 with
  | .ret w => w = .bl true
  | .nx => Wv.non = .bl true
  | _ => False
theorem law_eq : sl_law = lt0 := by with_unfolding_all rfl
theorem lists_eq {S : List Int} {M : Mem} {a b m : Nat} {us : List Wv} (ha : M[a]? = some (.lst us)) (hb : M[b]? = some (.lst us)) (hp : ∀ w ∈ us, MP.pur m w = true) (hm : m ≤ 8) : eqW (Gp S) (.ref a) (.ref b) M = some true := by
  have e : toDs (Gp S).S M 11 us = some (us.map dat) := by
    have := toDs_map (S := (Gp S).S) (M := M) (n := 11) (f := id) (g := dat) (xs := us) fun x hx => toD_pur (hp x hx) (by omega)
    rw [List.map_id] at this
    exact this
  exact eqW_same (toD_lst (n := 11) ha e) (toD_lst (n := 11) hb e) (shaped_lst (d := 20) (by omega) fun x hx => ⟨dat_lay (hp x hx), Nat.le_trans (dat_depth (hp x hx)) (by omega)⟩)
theorem bm_insert {M : Mem} {l : Nat} {ws : List Wv} {i : Int} {y : Wv} (h : M[l]? = some (.lst ws)) (hl : ws.length + 1 ≤ 1000) (h0 : 0 ≤ i) (h1 : i ≤ 1000000) : bmW .insert (.ref l) [.int i, y] M = .ok .non (M.set l (.lst (ws.take i.toNat ++ [y] ++ ws.drop i.toNat))) := by
  have hz : 1001 ≤ sizeLine := by decide
  simp only [bmW, h, len_ok (show ws.length + 1 ≤ sizeLine by omega), decide_eq_true h0, decide_eq_true h1, Bool.and_self]
  try rfl
theorem force_vi (S : List Int) (k l : Nat) (its : List Vi) (M : Mem) (hM : M[l]? = some (.lst (its.map Vi.w))) (hok : ViOk its) (hlen : its.length ≤ 200) :
    (callN (Gp S) fuel (k + 2) ix_in_force [.ref l] M).sat fun v M' => M <+: M' ∧ ∃ y, v = .ref y ∧ M.length ≤ y ∧ M'[y]? = some (.lst ((heldV its).map Bt.v)) := by
  have ek : keysOf (its.map Vi.w) = ((dv its).map fun j : Vi => trN j.1 j.2).map Tr.w := by
    rw [dv_keys hok, List.map_map]
    exact List.map_congr_left fun j _ => (trN_w j.1 j.2).symm
  have hjl := dv_len its
  have hkey : ∀ i : Vi, i.1 ≤ 3 ∧ GB i.2 → keyT i.w = true := fun i hi => keyT_in (vd_tup _ _) (vd_key hi.2.1 i.1 7 (by omega))
  have K : Kn ((dv its).map fun j : Vi => trN j.1 j.2) := by
    refine ⟨fun t ht => ?_, by simp; omega⟩
    obtain ⟨j, hj, rfl⟩ := List.mem_map.mp ht
    obtain ⟨h1, h2⟩ := hok j (dv_mem.mp hj)
    refine ⟨trN_ok h2.1 _, by rw [trN_dep]; exact h1, ?_, ?_⟩
    · rw [trN_w]; exact hkey j ⟨h1, h2⟩
    · rw [trN_w]
      obtain ⟨m, hm, e⟩ := vd_inner h2.1 j.1
      rw [e]
      exact keyT_in (vd_tup _ _) (vd_key h2.1 m 7 (by omega))
  have h := in_force_ok S k l (its.map Vi.w) _ M hM (fun w hw => by
    obtain ⟨i, hi, rfl⟩ := List.mem_map.mp hw
    exact hkey i (hok i hi)) (by simp; omega) ek K
  rw [held_force hok] at h
  exact h
theorem bt_in {l : List Bt} (hg : ∀ t ∈ l, GB t) : ∀ w ∈ l.map Bt.v, MP.pur 5 w = true := fun w hw => by
  obtain ⟨t, ht, rfl⟩ := List.mem_map.mp hw
  exact (hg t ht).1.ok.pv
theorem str_list (S : List Int) {l : List Bt} (hg : ∀ t ∈ l, GB t) (hl : l.length ≤ 1000) {y : Nat} {M : Mem} (hy : M[y]? = some (.lst (l.map Bt.v))) :
    newL ((lstOf (.ref y) M).bind fun ws => (mapO (keyOf (Gp S) .str M) ws).bind fun ds => sortBy ds ws) M = .ok (.ref M.length) (M ++ [.lst ((strS l).map Bt.v)]) := by
  have hz : 16000000 ≤ sizeLine := by decide
  have e := str_sorted S hg M
  have hln : ((strS l).map Bt.v).length ≤ sizeLine := by rw [List.length_map, (strS_perm l).length_eq]; omega
  simp only [lstOf, hy, Option.bind_some, e, newL, len_ok hln, Out.chk]
theorem rw_ins {pl rows : List Vi} {one : Bt} {k n : Nat} (h : Rw3 pl rows one k) : Rw3 pl (rows.take n ++ [((k + 1, one) : Vi)] ++ rows.drop n) one (k + 1) := by
  constructor
  · rw [List.filter_append, List.filter_append, List.filter_cons_of_neg (by simp [z0]), List.filter_nil, List.append_nil, ← List.filter_append, List.take_append_drop]
    exact h.z
  · intro i hi
    have e : i ∈ rows.take n ++ [((k + 1, one) : Vi)] ++ rows.drop n ↔ i ∈ rows ∨ i = (k + 1, one) := by
      conv => rhs; lhs; rw [← List.take_append_drop n rows]
      simp only [List.mem_append, List.mem_singleton]
      constructor
      · rintro ((h | h) | h)
        · exact .inl (.inl h)
        · exact .inr h
        · exact .inl (.inr h)
      · rintro ((h | h) | h)
        · exact .inl (.inl h)
        · exact .inr h
        · exact .inl (.inr h)
    rw [e, h.v i hi]
    constructor
    · rintro (⟨a, b⟩ | e)
      · exact ⟨a, by omega⟩
      · rw [e]; exact ⟨rfl, Nat.le_refl _⟩
    · rintro ⟨a, b⟩
      by_cases c : i.1 ≤ k
      · exact .inl ⟨a, c⟩
      · exact .inr (Prod.ext (by show i.1 = k + 1; omega) a)
section
variable (S : List Int) (hl : S.length ≤ 63) {pl : List Vi} (hz0 : ∀ i ∈ pl, i.1 = 0) (hok : ViOk pl) (hp0 : 0 < pl.length) (hp1 : pl.length ≤ 60) {y5 y6 : Nat}
include hl hz0 hok hp0 hp1
theorem l11_ok {M : Mem} (h5 : M[y5]? = some (.lst (pl.map Vi.w))) (h6 : M[y6]? = some (.lst ((strS (heldV pl)).map Bt.v))) {x0 x1 x2 x3 x4 x7 x8 x9 x10 x11 x12 x13 : Option Wv} :
    (evSl (Gp S) (callN (Gp S) fuel 20) (callN (Gp S) fuel 19) fuel lt11 [x0, x1, x2, x3, x4, some (.ref y5), some (.ref y6), x7, x8, x9, x10, x11, x12, x13] M).sat QR := by
  have hz : 16000000 ≤ sizeLine := by decide
  have hok2 : ViOk (pl ++ pl) := fun i hi => by rcases List.mem_append.mp hi with hi | hi <;> exact hok i hi
  unfold lt11
  rw [q_cons]
  unfold lx11
  rw [q_ret, q_cmp, q_sortk, q_call, q_acons, q_bin, q_var]
  simp only [q_var, getV_0, getV_s, sat_some]
  refine o_addL _ _ _ _ h5 h5 (len_ok (by simp only [List.length_map]; omega)) ?_
  have pA := List.prefix_append M [Ob.lst (pl.map Vi.w ++ pl.map Vi.w)]
  have hA := at_new M (Ob.lst (pl.map Vi.w ++ pl.map Vi.w))
  rw [← List.map_append] at hA pA ⊢
  have h6A := pre_get pA h6
  generalize (M ++ [Ob.lst ((pl ++ pl).map Vi.w)]) = A at *
  rw [q_anil]
  simp only [List.append_nil]
  refine sat_mono (force_vi S 18 M.length (pl ++ pl) A hA hok2 (by rw [List.length_append]; omega)) fun v B ⟨pB, y, hv, _, hy⟩ => ?_
  subst hv
  rw [held_twice hz0] at hy
  have hgh := held_gb hok
  have hhl : (heldV pl).length ≤ 1000 := Nat.le_trans (held_len pl) (by omega)
  refine sat_of (str_list S hgh hhl hy) ?_
  have pC := List.prefix_append B [Ob.lst ((strS (heldV pl)).map Bt.v)]
  have hC := at_new B (Ob.lst ((strS (heldV pl)).map Bt.v))
  have h6C := pre_get pC (pre_get pB h6A)
  generalize (B ++ [Ob.lst ((strS (heldV pl)).map Bt.v)]) = C at *
  rw [c_eq]
  refine ⟨true, lists_eq hC h6C (m := 5) (bt_in fun t ht => hgh t ((strS_perm _).mem_iff.mp ht)) (by omega), ?_⟩
  rw [k_ret]
  rfl
theorem l10_ok {M : Mem} (h5 : M[y5]? = some (.lst (pl.map Vi.w))) (h6 : M[y6]? = some (.lst ((strS (heldV pl)).map Bt.v))) {one : Bt} (hone : ((0, one) : Vi) ∈ pl) {y8 : Nat} (h8 : M[y8]? = some (.lst (pl.map Vi.w))) (n5 : y8 ≠ y5) (n6 : y8 ≠ y6) {x1 x2 x3 x4 x9 x10 x11 x12 x13 : Option Wv} :
    (evSl (Gp S) (callN (Gp S) fuel 20) (callN (Gp S) fuel 19) fuel lt10 [some .scr, x1, x2, x3, x4, some (.ref y5), some (.ref y6), some one.v, some (.ref y8), x9, x10, x11, x12, x13] M).sat QR := by
  have hz : 16000000 ≤ sizeLine := by decide
  have hgo : GB one := (hok _ hone).2
  have hgh := held_gb hok
  have hhl : (heldV pl).length ≤ 60 := Nat.le_trans (held_len pl) hp1
  unfold lt10
  rw [q_cons]
  unfold lx10
  rw [q_for]
  simp only [q_rng, q_con, toI, sat_some]
  refine ⟨by decide, ?_⟩
  rw [rng_eq 1 4 3 (by omega)]
  simp only [lock_no, unlk_no]
  refine sat_mono (for_rule (Q := fun q M' => match q.1 with
      | .nx => ∃ (y9 y10 y11 y12 y13 : Option Wv) (y8 : Nat), q.2 = [some .scr, x1, x2, x3, x4, some (.ref y5), some (.ref y6), some one.v, some (.ref y8), y9, y10, y11, y12, y13] ∧ M'[y5]? = some (.lst (pl.map Vi.w)) ∧ M'[y6]? = some (.lst ((strS (heldV pl)).map Bt.v))
      | _ => False)
    (fun _ post σ M' => ∃ (j : Nat) (rows : List Vi) (y9 y10 y11 y12 y13 : Option Wv), j ≤ 3 ∧ post = ((List.range 3).drop j).map (fun k : Nat => Wv.int (1 + (k : Int))) ∧ σ = [some .scr, x1, x2, x3, x4, some (.ref y5), some (.ref y6), some one.v, some (.ref y8), y9, y10, y11, y12, y13] ∧ M'[y5]? = some (.lst (pl.map Vi.w)) ∧ M'[y6]? = some (.lst ((strS (heldV pl)).map Bt.v)) ∧ M'[y8]? = some (.lst (rows.map Vi.w)) ∧ Rw3 pl rows one j ∧ ViOk rows ∧ rows.length = pl.length + j) ?_ ?_ _ [] _ _
    ⟨0, pl, _, _, _, _, _, by omega, rfl, rfl, h5, h6, h8, ⟨List.filter_eq_self.mpr fun i hi => decide_eq_true (hz0 i hi), fun i hi => ⟨fun h => by have := hz0 i h; omega, fun h => by omega⟩⟩, hok, rfl⟩) fun q N hq => ?_
  · rintro _ x post σ N ⟨j, rows, y9, y10, y11, y12, y13, hj, hpost, rfl, g5, g6, g8, hR, hokr, hrl⟩
    have hj2 : j < 3 := by
      by_cases z : j < 3
      · exact z
      · rw [List.drop_eq_nil_of_le (by simp; omega)] at hpost; cases hpost
    rw [List.drop_eq_getElem_cons (by simpa using hj2)] at hpost
    simp only [List.getElem_range, List.map_cons, List.cons.injEq] at hpost
    obtain ⟨rfl, rfl⟩ := hpost
    have e0 : (1 : Int) + (j : Int) = ((j + 1 : Nat) : Int) := by omega
    rw [e0]
    refine ⟨rfl, [some .scr, x1, x2, x3, x4, some (.ref y5), some (.ref y6), some one.v, some (.ref y8), some (.int ((j + 1 : Nat) : Int)), y10, y11, y12, y13], rfl, ?_⟩
    unfold lt10_0
    rw [q_cons]
    unfold lx10_0
    rw [q_asg, q_var]
    simp only [getV_0, getV_s, tg_nm, sat_some, List.set_cons_zero, List.set_cons_succ, k_nx]
    unfold lt10_1
    rw [q_cons]
    unfold lx10_1
    rw [q_for]
    simp only [q_rng, q_con, q_var, getV_0, getV_s, toI, sat_some]
    refine ⟨rng10 (by omega) (by omega) (by omega) (by omega), ?_⟩
    rw [rng_eq 0 ((j + 1 : Nat) : Int) (j + 1) (by omega)]
    simp only [lock_no, unlk_no]
    refine sat_mono (for_rule (Q := fun q M' => (∃ y11, q = (.nx, [some .scr, x1, x2, x3, x4, some (.ref y5), some (.ref y6), some one.v, some (.ref y8), some (.int ((j + 1 : Nat) : Int)), some (vdN (j + 1) one.v), y11, y12, y13])) ∧ M' = N)
      (fun _ post σ M' => ∃ (c : Nat) (y11 : Option Wv), c ≤ j + 1 ∧ post = ((List.range (j + 1)).drop c).map (fun k : Nat => Wv.int (0 + (k : Int))) ∧ σ = [some .scr, x1, x2, x3, x4, some (.ref y5), some (.ref y6), some one.v, some (.ref y8), some (.int ((j + 1 : Nat) : Int)), some (vdN c one.v), y11, y12, y13] ∧ M' = N) ?_ ?_ _ [] _ _ ⟨0, _, by omega, rfl, rfl, rfl⟩) fun q N1 ⟨⟨z11, hq⟩, hN1⟩ => ?_
    · rintro _ x post σ N1 ⟨c, z11, hc, hpost, rfl, rfl⟩
      have hc2 : c < j + 1 := by
        by_cases z : c < j + 1
        · exact z
        · rw [List.drop_eq_nil_of_le (by simp; omega)] at hpost; cases hpost
      rw [List.drop_eq_getElem_cons (by simpa using hc2)] at hpost
      simp only [List.getElem_range, List.map_cons, List.cons.injEq] at hpost
      obtain ⟨rfl, rfl⟩ := hpost
      refine ⟨rfl, _, rfl, ?_⟩
      unfold lt10_1_0
      rw [q_cons]
      unfold lx10_1_0
      rw [q_asg, q_tup]
      simp only [q_acons, q_anil, q_con, q_var, List.set_cons_zero, List.set_cons_succ, getV_0, getV_s, sat_some]
      refine ⟨len_ok (show 2 ≤ sizeLine by decide), ?_⟩
      simp only [tg_nm, sat_some, List.set_cons_zero, List.set_cons_succ, k_nx, q_nil]
      exact ⟨c + 1, _, hc2, rfl, by first | rfl | trivial, by first | rfl | trivial⟩
    · rintro _ σ N1 ⟨c, z11, hc, hpost, rfl, rfl⟩
      have hc2 : c = j + 1 := by
        by_cases z : c < j + 1
        · rw [List.drop_eq_getElem_cons (by simpa using z)] at hpost
          cases hpost
        · omega
      subst hc2
      exact ⟨rfl, ⟨_, rfl⟩, by first | rfl | trivial⟩
    · subst hq hN1
      rw [k_nx]
      unfold lt10_2
      rw [q_cons]
      unfold lx10_2
      rw [q_ex, q_bm, q_var]
      simp only [getV_0, getV_s, sat_some]
      refine ⟨by simp only [bmT, g8], ?_⟩
      simp only [q_acons, q_anil, q_call, q_bin, q_bi, q_con, q_var, o_add, getV_0, getV_s, sat_some, List.append_nil]
      refine sat_of (n_lenL _ _ _ g8) ?_
      rw [o_add]
      have hml : (rows.map Vi.w).length ≤ 70 := by rw [List.length_map]; omega
      generalize hmm : (rows.map Vi.w).length = mm at hml ⊢
      refine sat_mono (drawn_ok S hl 19 (400 + ((j + 1 : Nat) : Int)) ((mm : Int) + 1) (by omega) (by omega) N1) fun v N2 ⟨pN2, r, hv, a0, a1⟩ => ?_
      subst hv
      have g5N := pre_get pN2 g5
      have g6N := pre_get pN2 g6
      have g8N := pre_get pN2 g8
      refine sat_of (bm_insert g8N (by omega) a0 (by omega)) ?_
      have hy8 : y8 < N2.length := (List.getElem?_eq_some_iff.mp g8N).1
      have ev : (rows.map Vi.w).take r.toNat ++ [vdN (j + 1) one.v] ++ (rows.map Vi.w).drop r.toNat = (rows.take r.toNat ++ [((j + 1, one) : Vi)] ++ rows.drop r.toNat).map Vi.w := by
        simp only [List.map_append, List.map_take, List.map_drop, List.map_cons, List.map_nil]
        rfl
      rw [ev]
      have hR2 := rw_ins (n := r.toNat) hR
      have hlr : (rows.take r.toNat ++ [((j + 1, one) : Vi)] ++ rows.drop r.toNat).length = pl.length + (j + 1) := by
        have := congrArg List.length (List.take_append_drop r.toNat rows)
        simp only [List.length_append, List.length_cons, List.length_nil] at this ⊢
        omega
      have hok2 : ViOk (rows.take r.toNat ++ [((j + 1, one) : Vi)] ++ rows.drop r.toNat) := fun i hi => by
        rcases List.mem_append.mp hi with hi | hi
        · rcases List.mem_append.mp hi with hi | hi
          · exact hokr i (List.mem_of_mem_take hi)
          · rw [List.mem_singleton.mp hi]; exact ⟨by show j + 1 ≤ 3; omega, hgo⟩
        · exact hokr i (List.mem_of_mem_drop hi)
      generalize rows.take r.toNat ++ [((j + 1, one) : Vi)] ++ rows.drop r.toNat = rows2 at *
      have g5P : (N2.set y8 (.lst (rows2.map Vi.w)))[y5]? = some (.lst (pl.map Vi.w)) := by rw [List.getElem?_set_ne n5]; exact g5N
      have g6P : (N2.set y8 (.lst (rows2.map Vi.w)))[y6]? = some (.lst ((strS (heldV pl)).map Bt.v)) := by rw [List.getElem?_set_ne n6]; exact g6N
      have g8P : (N2.set y8 (.lst (rows2.map Vi.w)))[y8]? = some (.lst (rows2.map Vi.w)) := List.getElem?_set_self hy8
      generalize (N2.set y8 (.lst (rows2.map Vi.w))) = P at *
      rw [k_nx]
      unfold lt10_3
      rw [q_cons]
      unfold lx10_3
      rw [q_asg, q_sortk, q_call, q_acons, q_var]
      simp only [q_anil, getV_0, getV_s, sat_some, List.append_nil]
      refine sat_mono (force_vi S 18 y8 rows2 P g8P hok2 (by omega)) fun v Q ⟨pQ, y, hv, _, hy⟩ => ?_
      subst hv
      have hgh2 := held_gb hok2
      refine sat_of (str_list S hgh2 (Nat.le_trans (held_len rows2) (by omega)) hy) ?_
      rw [hR2.held hz0 (by omega) (by omega)] at hgh2 ⊢
      simp only [tg_nm, sat_some, List.set_cons_zero, List.set_cons_succ, k_nx]
      have pR := List.prefix_append Q [Ob.lst ((strS (if (j + 1) % 2 = 1 then (heldV pl).filter (fun t => !decide (t = one)) else heldV pl)).map Bt.v)]
      have hRr := at_new Q (Ob.lst ((strS (if (j + 1) % 2 = 1 then (heldV pl).filter (fun t => !decide (t = one)) else heldV pl)).map Bt.v))
      have g5R := pre_get pR (pre_get pQ g5P)
      have g6R := pre_get pR (pre_get pQ g6P)
      have g8R := pre_get pR (pre_get pQ g8P)
      generalize (Q ++ [Ob.lst ((strS (if (j + 1) % 2 = 1 then (heldV pl).filter (fun t => !decide (t = one)) else heldV pl)).map Bt.v)]) = R at *
      generalize Q.length = y12 at *
      unfold lt10_4
      rw [q_cons]
      unfold lx10_4
      rw [q_ifs, q_cmp, q_var]
      simp only [getV_0, getV_s, sat_some]
      rw [q_ife, q_cmp, q_bin, q_var]
      simp only [q_con, getV_0, getV_s, sat_some]
      rw [o_mod]
      refine ⟨by decide, ?_⟩
      rw [c_eq]
      refine ⟨_, eqW_int _ _, ?_⟩
      rw [t_bl]
      by_cases cc : (j + 1) % 2 = 1
      · rw [if_pos cc] at hRr hgh2
        rw [decide_eq_true (by omega), be_t, q_lc, q_ival, q_var]
        simp only [getV_0, getV_s, sat_some, walk_lst g6R, lock_lst, unlk_lst]
        have elc : lcGo (Gp S) (.nm 13) (evE (Gp S) (callN (Gp S) fuel 20) (callN (Gp S) fuel 19) (.cmp .ne (.var 13) (.var 7))) (evE (Gp S) (callN (Gp S) fuel 20) (callN (Gp S) fuel 19) (.var 13)) [(y6, .lst ((strS (heldV pl)).map Bt.v))] ((strS (heldV pl)).map Bt.v) [some .scr, x1, x2, x3, x4, some (.ref y5), some (.ref y6), some one.v, some (.ref y8), some (.int ((j + 1 : Nat) : Int)), some (vdN (j + 1) one.v), z11, some (.ref y12), none] [] R = .ok ((strS ((heldV pl).filter fun t => !decide (t = one))).map Bt.v) R := by
          rw [lc_pure (fun w => !decide (w = one.v)) (fun v => v) (stays_lst g6R) (by rw [List.length_map, (strS_perm _).length_eq]; omega) fun x hx => ?_]
          · have e : ((strS (heldV pl)).map Bt.v).filter (fun w => !decide (w = one.v)) = (strS ((heldV pl).filter fun t => !decide (t = one))).map Bt.v := by
              rw [← strS_filter, List.filter_map]
              refine congrArg (List.map Bt.v) (List.filter_congr fun t _ => ?_)
              show (!decide (t.v = one.v)) = !decide (t = one)
              congr 1
              rw [Bool.eq_iff_iff, decide_eq_true_eq, decide_eq_true_eq]
              exact ⟨bt_v_inj, fun e => by rw [e]⟩
            rw [e, List.map_id']
          · obtain ⟨t, ht, rfl⟩ := List.mem_map.mp hx
            have hgt := hgh t ((strS_perm _).mem_iff.mp ht)
            refine ⟨_, rfl, ⟨.bl (!decide (t.v = one.v)), sat_eq ?_, rfl⟩, fun _ => sat_eq ?_⟩
            · rw [q_cmp, q_var]
              simp only [q_var, List.set_cons_zero, List.set_cons_succ, getV_0, getV_s, sat_some]
              rw [c_ne]
              exact ⟨_, eqW_pur hgt.1.ok.pv hgo.1.ok.pv (by omega) (by omega), rfl, by first | rfl | trivial⟩
            · rw [q_var]
              exact ⟨rfl, by first | rfl | trivial⟩
        refine sat_of elc ?_
        have pT := List.prefix_append R [Ob.lst ((strS ((heldV pl).filter fun t => !decide (t = one))).map Bt.v)]
        have hT := at_new R (Ob.lst ((strS ((heldV pl).filter fun t => !decide (t = one))).map Bt.v))
        rw [c_ne]
        refine ⟨true, lists_eq (pre_get pT hRr) hT (m := 5) (bt_in fun t ht => hgh2 t ((strS_perm _).mem_iff.mp ht)) (by omega), ?_⟩
        rw [t_bl]
        simp only [Bool.not_true]
        rw [b_f, q_nil, k_nx, q_nil]
        exact ⟨j + 1, rows2, _, _, _, _, _, hj2, rfl, rfl, pre_get pT g5R, pre_get pT g6R, pre_get pT g8R, hR2, hok2, hlr⟩
      · rw [if_neg cc] at hRr hgh2
        rw [decide_eq_false (by omega), be_f, q_var]
        simp only [getV_0, getV_s, sat_some]
        rw [c_ne]
        refine ⟨true, lists_eq hRr g6R (m := 5) (bt_in fun t ht => hgh t ((strS_perm _).mem_iff.mp ht)) (by omega), ?_⟩
        rw [t_bl]
        simp only [Bool.not_true]
        rw [b_f, q_nil, k_nx, q_nil]
        exact ⟨j + 1, rows2, _, _, _, _, _, hj2, rfl, rfl, g5R, g6R, g8R, hR2, hok2, hlr⟩
  · rintro _ σ N ⟨j, rows, y9, y10, y11, y12, y13, hj, hpost, rfl, g5, g6, g8, hR, hokr, hrl⟩
    exact ⟨rfl, _, _, _, _, _, y8, rfl, g5, g6⟩
  · obtain ⟨fl, σ⟩ := q
    cases fl with
    | nx =>
      obtain ⟨y9, y10, y11, y12, y13, y8, hσ, g5, g6⟩ := hq
      simp only at hσ
      subst hσ
      rw [k_nx]
      exact l11_ok S hl hz0 hok hp0 hp1 g5 g6
    | _ => exact hq.elim
theorem l8_ok {M : Mem} (h5 : M[y5]? = some (.lst (pl.map Vi.w))) {x1 x2 x3 x4 x6 x7 x8 x9 x10 x11 x12 x13 : Option Wv} :
    (evSl (Gp S) (callN (Gp S) fuel 20) (callN (Gp S) fuel 19) fuel lt8 [some .scr, x1, x2, x3, x4, some (.ref y5), x6, x7, x8, x9, x10, x11, x12, x13] M).sat QR := by
  have hz : 16000000 ≤ sizeLine := by decide
  have hgh := held_gb hok
  unfold lt8
  rw [q_cons]
  unfold lx8
  rw [q_asg, q_sortk, q_call, q_acons, q_var]
  simp only [q_anil, getV_0, getV_s, sat_some, List.append_nil]
  refine sat_mono (force_vi S 18 y5 pl M h5 hok (by omega)) fun v A ⟨pA, y, hv, _, hy⟩ => ?_
  subst hv
  refine sat_of (str_list S hgh (Nat.le_trans (held_len pl) (by omega)) hy) ?_
  simp only [tg_nm, sat_some, List.set_cons_zero, List.set_cons_succ, k_nx]
  have pB := List.prefix_append A [Ob.lst ((strS (heldV pl)).map Bt.v)]
  have h6B := at_new A (Ob.lst ((strS (heldV pl)).map Bt.v))
  have h5B := pre_get pB (pre_get pA h5)
  have h5l : y5 < M.length := (List.getElem?_eq_some_iff.mp h5).1
  have hlA := pre_len pA
  have hlB : (A ++ [Ob.lst ((strS (heldV pl)).map Bt.v)]).length = A.length + 1 := by simp
  generalize (A ++ [Ob.lst ((strS (heldV pl)).map Bt.v)]) = B at *
  generalize A.length = y6 at *
  unfold lt9
  rw [q_cons]
  unfold lx9
  rw [q_asg, q_tup, q_acons, q_sub, q_var]
  simp only [q_call, q_acons, q_anil, q_bi, q_var, q_con, getV_0, getV_s, sat_some, List.append_nil]
  refine sat_of (n_lenL _ _ _ h5B) ?_
  have hm0 : 0 < (pl.map Vi.w).length := by rw [List.length_map]; exact hp0
  generalize hmm : (pl.map Vi.w).length = mm at hm0 ⊢
  refine sat_mono (drawn_ok S hl 19 1 (mm : Int) (by omega) (by omega) B) fun v D ⟨pD, r, hv, a0, a1⟩ => ?_
  subst hv
  rw [← hmm] at a1
  have h5D := pre_get pD h5B
  have h6D := pre_get pD h6B
  obtain ⟨w, hw, ew⟩ := at_mem (xs := pl.map Vi.w) a0 a1
  obtain ⟨i, hi, rfl⟩ := List.mem_map.mp hw
  refine sat_of (sub_lst h5D ew) ?_
  have eL : biW (Gp S) .list [.ref y5] D = .ok (.ref D.length) (D ++ [.lst (pl.map Vi.w)]) := by
    simp only [biW, itemsOf, h5D, newL, len_ok (show (pl.map Vi.w).length ≤ sizeLine by rw [List.length_map]; omega), Out.chk]
  refine sat_of eL ?_
  refine ⟨len_ok (show 2 ≤ sizeLine by decide), ?_⟩
  simp only [tg_2, sat_some, List.set_cons_zero, List.set_cons_succ, k_nx]
  have pE := List.prefix_append D [Ob.lst (pl.map Vi.w)]
  have hE := at_new D (Ob.lst (pl.map Vi.w))
  have hlD := pre_len pD
  obtain ⟨c, t⟩ := i
  have hc : c = 0 := hz0 _ hi
  subst hc
  exact l10_ok S hl hz0 hok hp0 hp1 (pre_get pE h5D) (pre_get pE h6D) hi hE (by omega) (by omega)
end
end Bh
end
section
set_option Elab.async false
set_option linter.all false
set_option maxRecDepth 100000
set_option maxHeartbeats 0
namespace Bh
open PySem MP
theorem hold_same {its oth : List Vi} (h : ∀ x, x ∈ its ↔ x ∈ oth) : ∀ (m n : Nat) (t : Bt), hold its m n t = hold oth m n t
  | 0, _, _ => rfl
  | m + 1, n, t => by
    simp only [hold]
    rw [hold_same h m (n + 1) t]
    have e : decide ((n + 1, t) ∈ its) = decide ((n + 1, t) ∈ oth) := by
      rw [Bool.eq_iff_iff, decide_eq_true_eq, decide_eq_true_eq]
      exact h _
    rw [e]
def pV : Wv → Bool
  | .tup (.str a :: _) => !decide (a = ("void" : Str))
  | _ => false
theorem w11_void : ∀ w ∈ W11, w ≠ ("void" : Str) := by decide +kernel
theorem pV_w {i : Vi} (h : GB i.2) : pV i.w = z0 i := by
  obtain ⟨n, t⟩ := i
  cases n with
  | zero =>
    have hne := w11_void t.w (bt_w11 h)
    show (!decide (t.w = ("void" : Str))) = decide ((0 : Nat) = 0)
    rw [decide_eq_false hne]
    rfl
  | succ n =>
    show (!decide (("void" : Str) = "void")) = decide (n + 1 = 0)
    rw [decide_eq_true rfl, decide_eq_false (by omega)]
    rfl
section
variable (S : List Int) (hl : S.length ≤ 63) {its : List Vi} (hok : ViOk its) (hil : its.length ≤ 60) (hpl : ∃ i ∈ its, i.1 = 0) {sk sf : List Bt} (hO : So (cfV its) sk sf) {y1 y2 : Nat}
include hl hok hil hpl
theorem l7_ok {M : Mem} (h1 : M[y1]? = some (.lst (its.map Vi.w))) {x2 x3 x4 x5 x6 x7 x8 x9 x10 x11 x12 x13 : Option Wv} :
    (evSl (Gp S) (callN (Gp S) fuel 20) (callN (Gp S) fuel 19) fuel lt7 [some .scr, some (.ref y1), x2, x3, x4, x5, x6, x7, x8, x9, x10, x11, x12, x13] M).sat QR := by
  have hz : 16000000 ≤ sizeLine := by decide
  unfold lt7
  rw [q_cons]
  unfold lx7
  rw [q_asg, q_lc, q_ival, q_var]
  simp only [getV_0, getV_s, sat_some, walk_lst h1, lock_lst, unlk_lst]
  have elc : lcGo (Gp S) (.nm 13) (evE (Gp S) (callN (Gp S) fuel 20) (callN (Gp S) fuel 19) (.cmp .ne (.sub (.var 13) (.con (.int 0))) (.con (.str "void")))) (evE (Gp S) (callN (Gp S) fuel 20) (callN (Gp S) fuel 19) (.var 13)) [(y1, .lst (its.map Vi.w))] (its.map Vi.w) [some .scr, some (.ref y1), x2, x3, x4, x5, x6, x7, x8, x9, x10, x11, x12, none] [] M = .ok ((its.filter z0).map Vi.w) M := by
    rw [lc_pure pV (fun v => v) (stays_lst h1) (by rw [List.length_map]; omega) fun x hx => ?_]
    · have e : (its.map Vi.w).filter pV = (its.filter z0).map Vi.w := by
        rw [List.filter_map]
        exact congrArg (List.map Vi.w) (List.filter_congr fun i hi => pV_w (hok i hi).2)
      rw [e, List.map_id']
    · obtain ⟨i, hi, rfl⟩ := List.mem_map.mp hx
      obtain ⟨w, rest, ew, hw⟩ : ∃ (w : Str) (rest : List Wv), i.w = .tup (.str w :: rest) ∧ PyData.strOk w = true := by
        obtain ⟨n, t⟩ := i
        cases n with
        | zero =>
          have key : ∀ x ∈ sigT, PyData.strOk x.1 = true := by decide +kernel
          obtain ⟨sg, hs, _⟩ := (hok _ hi).2.1.2
          exact ⟨t.w, _, rfl, key _ hs⟩
        | succ n => exact ⟨"void", _, rfl, by decide +kernel⟩
      refine ⟨_, rfl, ⟨.bl (pV i.w), sat_eq ?_, rfl⟩, fun _ => sat_eq ?_⟩
      · rw [ew]
        show (evE _ _ _ _ _ _).sat fun v M' => v = .bl (!decide (w = ("void" : Str))) ∧ M' = M
        rw [q_cmp, q_sub]
        simp only [q_var, q_con, List.set_cons_zero, List.set_cons_succ, getV_0, getV_s, sat_some]
        have e0 : subW (Gp S) (.tup (.str w :: rest)) (.int 0) M = .ok (.str w) M := rfl
        refine sat_of e0 ?_
        have es : ∀ a b : Str, decide (Wv.str a = Wv.str b) = decide (a = b) := fun a b => by rw [Bool.eq_iff_iff]; simp
        rw [c_ne]
        refine ⟨_, eqW_pur (n := 1) (m := 1) (by simpa [pur] using hw) (by decide +kernel) (by omega) (by omega), ?_⟩
        rw [es]
        exact ⟨rfl, rfl⟩
      · rw [q_var]
        exact ⟨rfl, by first | rfl | trivial⟩
  refine sat_of elc ?_
  simp only [tg_nm, sat_some, List.set_cons_zero, List.set_cons_succ, k_nx]
  have h5 := at_new M (Ob.lst ((its.filter z0).map Vi.w))
  have hfl := List.length_filter_le z0 its
  obtain ⟨i, hi, hi0⟩ := hpl
  have hp0 : 0 < (its.filter z0).length := List.length_pos_iff.mpr (List.ne_nil_of_mem (List.mem_filter.mpr ⟨hi, decide_eq_true hi0⟩))
  exact l8_ok S hl (pl := its.filter z0) (fun i hi => of_decide_eq_true (List.mem_filter.mp hi).2) (fun i hi => hok i (List.mem_filter.mp hi).1) hp0 (by omega) h5
include hO
theorem l5_ok {M : Mem} (h1 : M[y1]? = some (.lst (its.map Vi.w))) (h2 : M[y2]? = some (.lst ((seenB sf).map Bt.v))) {x3 x4 x5 x6 x7 x8 x9 x10 x11 x12 x13 : Option Wv} :
    (evSl (Gp S) (callN (Gp S) fuel 20) (callN (Gp S) fuel 19) fuel lt5 [some .scr, some (.ref y1), some (.ref y2), x3, x4, x5, x6, x7, x8, x9, x10, x11, x12, x13] M).sat QR := by
  have hz : 16000000 ≤ sizeLine := by decide
  have hgf : ∀ t ∈ sf, GB t := hO.gf
  have hgs : ∀ t ∈ seenB sf, GB t := fun t ht => hgf t ((seen_mem hgf).mp ht)
  have nsf : (sf.map Bt.key).Nodup := (hO.fp.map Bt.key).nodup_iff.mp hO.nd
  have nd := seen_nd hgf nsf
  have hsl : (seenB sf).length ≤ 60 := by
    have h3 : (seenB sf).length ≤ sf.length := List.Nodup.length_le_of_subset (key_nd nd) fun t ht => (seen_mem hgf).mp ht
    have h4 := cf_len its
    have h5 := hO.fp.length_eq
    omega
  unfold lt5
  rw [q_cons]
  unfold lx5
  rw [q_ifs, q_cmp, q_bi, q_acons, q_lc, q_ival, q_var]
  simp only [getV_0, getV_s, sat_some, walk_lst h2, lock_lst, unlk_lst]
  refine sat_mono (lc_rule (Q := fun acc N => M <+: N ∧ acc = (seenB sf).map Bt.key)
    (fun _ post acc N => M <+: N ∧ ∃ done rest : List Bt, seenB sf = done ++ rest ∧ post = rest.map Bt.v ∧ acc = done.map Bt.key) ?_ ?_ _ [] [] M ⟨List.prefix_refl _, [], seenB sf, rfl, rfl, rfl⟩) fun acc A ⟨pA, hacc⟩ => ?_
  · rintro _ x post acc N ⟨pN, done, rest, hns, hpost, hac⟩
    cases rest with
    | nil => cases hpost
    | cons t rest =>
      simp only [List.map_cons, List.cons.injEq] at hpost
      obtain ⟨rfl, rfl⟩ := hpost
      have hgt := hgs t (by rw [hns]; simp)
      refine ⟨stays_lst (pre_get pN h2), _, rfl, ?_⟩
      rw [q_con]
      refine ⟨true, rfl, fun _ => ?_, fun e => by cases e⟩
      show (evE (Gp S) _ _ _ [some .scr, some (.ref y1), some (.ref y2), x3, x4, x5, x6, x7, x8, x9, x10, x11, x12, some t.v] N).sat _
      rw [q_tup, q_acons, q_call]
      simp only [q_acons, q_anil, q_var, List.set_cons_zero, List.set_cons_succ, getV_0, getV_s, sat_some, List.append_nil]
      refine sat_of (law_thing_ok S 19 t N hgt.1.ok) ?_
      simp only [q_acons, q_anil, q_sub, q_var, q_con, List.set_cons_zero, List.set_cons_succ, getV_0, getV_s, sat_some]
      have e1 : ∀ N : Mem, subW (Gp S) t.v (.int 1) N = .ok (.int t.d) N := fun _ => rfl
      refine sat_of (e1 _) ?_
      refine ⟨len_ok (show 2 ≤ sizeLine by decide), ?_⟩
      have hdl : done.length ≤ (seenB sf).length := by rw [hns]; simp
      exact ⟨len_ok (by rw [hac, List.length_map]; omega), pN.trans (List.prefix_append _ _), done ++ [t], rest, by rw [hns]; simp, rfl, by rw [hac, List.map_append]; rfl⟩
  · rintro _ acc N ⟨pN, done, rest, hns, hpost, hac⟩
    cases rest with
    | cons t rest => cases hpost
    | nil =>
      rw [List.append_nil] at hns
      rw [← hns] at hac
      exact ⟨stays_lst (pre_get pN h2), pN, hac⟩
  subst hacc
  have pB := List.prefix_append A [Ob.lst ((seenB sf).map Bt.key)]
  have hB := at_new A (Ob.lst ((seenB sf).map Bt.key))
  have h1B := pre_get pB (pre_get pA h1)
  have h2B := pre_get pB (pre_get pA h2)
  generalize (A ++ [Ob.lst ((seenB sf).map Bt.key)]) = B at *
  generalize A.length = yk at *
  simp only [q_anil]
  have hall : ((seenB sf).map Bt.key).all keyT = true := List.all_eq_true.mpr fun w hw => by
    obtain ⟨t, ht, rfl⟩ := List.mem_map.mp hw
    exact (hgs t ht).1.ok.kk
  have hlt : ((seenB sf).map Bt.key).length < 64 := by rw [List.length_map]; omega
  have hon : (oncW ((seenB sf).map Bt.key)).length = ((seenB sf).map Bt.key).length := by
    obtain ⟨o1, o2⟩ := onc_once ((seenB sf).map Bt.key)
    exact ((List.perm_ext_iff_of_nodup o1 nd).mpr o2).length_eq
  have eN : biW (Gp S) .lset [.ref yk] B = .ok (.int (((seenB sf).map Bt.key).length : Nat)) B := by
    simp only [biW, lstOf, hB, Option.bind_some, decide_eq_true hlt, hall, Bool.and_self, if_true, Out.ofO, Out.bind_ok, hon]
  refine sat_of eN ?_
  rw [q_bi]
  simp only [q_acons, q_anil, q_var, getV_0, getV_s, sat_some]
  refine sat_of (n_lenL _ _ _ h2B) ?_
  rw [c_ne]
  refine ⟨_, eqW_int _ _, ?_⟩
  rw [t_bl, decide_eq_true (by rw [List.length_map, List.length_map])]
  simp only [Bool.not_true]
  rw [b_f, q_nil, k_nx]
  unfold lt6
  rw [q_cons]
  unfold lx6
  rw [q_ifs, q_cmp, q_lc, q_ival, q_var]
  simp only [getV_0, getV_s, sat_some, walk_lst h2B, lock_lst, unlk_lst]
  have hgh := held_gb hok
  refine sat_mono (lc_rule (Q := fun acc N => B <+: N ∧ acc = [])
    (fun _ post acc N => B <+: N ∧ acc = [] ∧ ∃ rest : List Bt, (∀ t ∈ rest, t ∈ seenB sf) ∧ post = rest.map Bt.v) ?_ ?_ _ [] [] B ⟨List.prefix_refl _, rfl, seenB sf, fun t h => h, rfl⟩) fun acc D ⟨pD, hacc⟩ => ?_
  · rintro _ x post acc N ⟨pN, rfl, rest, hin, hpost⟩
    cases rest with
    | nil => cases hpost
    | cons t rest =>
      simp only [List.map_cons, List.cons.injEq] at hpost
      obtain ⟨rfl, rfl⟩ := hpost
      have hts := hin t (.head _)
      have hgt := hgs t hts
      have hth : t ∈ heldV its := cntOf_mem (hO.fp.mem_iff.mpr ((seen_mem hgf).mp hts))
      refine ⟨stays_lst (pre_get pN h2B), _, rfl, ?_⟩
      show (evE (Gp S) _ _ _ [some .scr, some (.ref y1), some (.ref y2), x3, x4, x5, x6, x7, x8, x9, x10, x11, x12, some t.v] N).sat _
      rw [q_cmp, q_var]
      simp only [List.set_cons_zero, List.set_cons_succ, getV_0, getV_s, sat_some]
      rw [q_call]
      simp only [q_acons, q_anil, q_var, List.set_cons_zero, List.set_cons_succ, getV_0, getV_s, sat_some, List.append_nil]
      refine sat_mono (force_vi S 18 y1 its N (pre_get pN h1B) hok (by omega)) fun v N2 ⟨pN2, y, hv, _, hy⟩ => ?_
      subst hv
      rw [c_nin]
      refine ⟨_, in_lst hy (fun w hw => pur_le (bt_in hgh w hw) (by omega)) (pur_le hgt.1.ok.pv (by omega)), ?_⟩
      refine ⟨false, by rw [decide_eq_true (List.mem_map.mpr ⟨t, hth, rfl⟩)]; rfl, (fun e => by cases e), (fun _ => ⟨pN.trans pN2, (by first | rfl | trivial), rest, (fun u hu => hin u (.tail _ hu)), rfl⟩)⟩
  · rintro _ acc N ⟨pN, rfl, rest, hin, hpost⟩
    exact ⟨stays_lst (pre_get pN h2B), pN, rfl⟩
  subst hacc
  have pE := List.prefix_append D [Ob.lst []]
  have hE := at_new D (Ob.lst [])
  have h1E := pre_get pE (pre_get pD h1B)
  generalize (D ++ [Ob.lst []]) = E at *
  generalize D.length = ye at *
  rw [q_lst, q_anil]
  refine ⟨len_ok (by decide), ?_⟩
  have pF := List.prefix_append E [Ob.lst []]
  have hF := at_new E (Ob.lst [])
  rw [c_ne]
  refine ⟨true, lists_eq (pre_get pF hE) hF (m := 1) (fun w hw => by cases hw) (by omega), ?_⟩
  rw [t_bl]
  simp only [Bool.not_true]
  rw [b_f, q_nil, k_nx]
  exact l7_ok S hl hok hil hpl (pre_get pF h1E)
theorem l3_ok {M : Mem} (h1 : M[y1]? = some (.lst (its.map Vi.w))) (h2 : M[y2]? = some (.lst ((seenB sf).map Bt.v))) {mix : List Vi} (hmx : ∀ x, x ∈ mix ↔ x ∈ its) (hml : mix.length ≤ 60) {y3 : Nat} (h3 : M[y3]? = some (.lst (mix.map Vi.w))) {x4 x5 x6 x7 x8 x9 x10 x11 x12 x13 : Option Wv} :
    (evSl (Gp S) (callN (Gp S) fuel 20) (callN (Gp S) fuel 19) fuel lt3 [some .scr, some (.ref y1), some (.ref y2), some (.ref y3), x4, x5, x6, x7, x8, x9, x10, x11, x12, x13] M).sat QR := by
  have hz : 16000000 ≤ sizeLine := by decide
  have hgf : ∀ t ∈ sf, GB t := hO.gf
  have hgs : ∀ t ∈ seenB sf, GB t := fun t ht => hgf t ((seen_mem hgf).mp ht)
  have nsf : (sf.map Bt.key).Nodup := (hO.fp.map Bt.key).nodup_iff.mp hO.nd
  have nd := seen_nd hgf nsf
  have hsl : (seenB sf).length ≤ 60 := by
    have h3 : (seenB sf).length ≤ sf.length := List.Nodup.length_le_of_subset (key_nd nd) fun t ht => (seen_mem hgf).mp ht
    have h4 := cf_len its
    have h5 := hO.fp.length_eq
    omega
  have okm : ∀ l : List Vi, (∀ x, x ∈ l ↔ x ∈ its) → ViOk l := fun l h i hi => hok i ((h i).mp hi)
  have same : ∀ l : List Vi, (∀ x, x ∈ l ↔ x ∈ its) → ∀ t, t ∈ cfV l ↔ t ∈ cfV its := fun l h => cf_same (okm l h) hok fun t => by
    rw [held_mem, held_mem, h]
    refine and_congr_right fun _ => ?_
    rw [hold_same h]
  have hpu := bt_in hgs
  unfold lt3
  rw [q_cons]
  unfold lx3
  rw [q_ifs, q_or, q_cmp, q_call, q_acons, q_new, q_acons, q_var]
  simp only [q_anil, getV_0, getV_s, sat_some]
  refine sat_mono (seen_same S hO hok (okm mix hmx) (by omega) (same mix hmx) h3) fun v A ⟨pA, hA⟩ => ?_
  simp only [List.append_nil]
  refine sat_mono hA fun v B ⟨pB, y, hv, hy⟩ => ?_
  subst hv
  have pMB := pA.trans pB
  have h1B := pre_get pMB h1
  have h2B := pre_get pMB h2
  rw [q_var]
  simp only [getV_0, getV_s, sat_some]
  rw [c_ne]
  refine ⟨true, lists_eq hy h2B (m := 5) hpu (by omega), ?_⟩
  rw [t_bl]
  simp only [Bool.not_true]
  rw [bo_f, q_cmp, q_call, q_acons, q_new, q_acons, q_bin, q_var]
  simp only [getV_0, getV_s, sat_some]
  rw [q_srev, q_var]
  simp only [getV_0, getV_s, sat_some]
  have eR : revW false (.ref y1) B = .ok (.ref B.length) (B ++ [.lst (its.reverse.map Vi.w)]) := by
    simp only [revW, h1B, Bool.false_eq_true, if_false, List.map_reverse]
  refine sat_of eR ?_
  have pC := List.prefix_append B [Ob.lst (its.reverse.map Vi.w)]
  have hC := at_new B (Ob.lst (its.reverse.map Vi.w))
  have h1C := pre_get pC h1B
  have h2C := pre_get pC h2B
  generalize (B ++ [Ob.lst (its.reverse.map Vi.w)]) = C at *
  generalize B.length = yr at *
  refine o_addL _ _ _ _ h1C hC (len_ok (by simp only [List.length_map, List.length_reverse]; omega)) ?_
  have pD := List.prefix_append C [Ob.lst (its.map Vi.w ++ its.reverse.map Vi.w)]
  have hD := at_new C (Ob.lst (its.map Vi.w ++ its.reverse.map Vi.w))
  rw [← List.map_append] at hD pD ⊢
  have h1D := pre_get pD h1C
  have h2D := pre_get pD h2C
  generalize (C ++ [Ob.lst ((its ++ its.reverse).map Vi.w)]) = D at *
  generalize C.length = yd at *
  simp only [q_anil]
  have hm2 : ∀ x, x ∈ its ++ its.reverse ↔ x ∈ its := fun x => by simp
  refine sat_mono (seen_same S hO hok (okm _ hm2) (by simp; omega) (same _ hm2) hD) fun v E ⟨pE, hE⟩ => ?_
  simp only [List.append_nil]
  refine sat_mono hE fun v F ⟨pF, y, hv, hy⟩ => ?_
  subst hv
  have h1F := pre_get (pE.trans pF) h1D
  have h2F := pre_get (pE.trans pF) h2D
  rw [q_var]
  simp only [getV_0, getV_s, sat_some]
  rw [c_ne]
  refine ⟨true, lists_eq hy h2F (m := 5) hpu (by omega), ?_⟩
  rw [t_bl]
  simp only [Bool.not_true]
  rw [b_f, q_nil, k_nx]
  unfold lt4
  rw [q_cons]
  unfold lx4
  rw [q_ifs, q_cmp, q_call, q_acons, q_new, q_acons, q_var]
  simp only [q_anil, getV_0, getV_s, sat_some]
  have h2F' : F[y2]? = some (.lst ((its0 (seenB sf)).map Vi.w)) := by rw [its0_w]; exact h2F
  have ok0 : ViOk (its0 (seenB sf)) := fun i hi => by
    unfold its0 at hi
    obtain ⟨t, ht, rfl⟩ := List.mem_map.mp hi
    exact ⟨Nat.zero_le _, hgs t ht⟩
  have hl0 : (its0 (seenB sf)).length ≤ 200 := by unfold its0; rw [List.length_map]; omega
  refine sat_mono (seen_same S hO hok ok0 hl0 (fun t => by rw [cf_nodup nd, seen_mem hgf]; exact (hO.fp.mem_iff).symm) h2F') fun v G ⟨pG, hG⟩ => ?_
  simp only [List.append_nil]
  refine sat_mono hG fun v H ⟨pH, y, hv, hy⟩ => ?_
  subst hv
  have h1H := pre_get (pG.trans pH) h1F
  have h2H := pre_get (pG.trans pH) h2F
  rw [q_var]
  simp only [getV_0, getV_s, sat_some]
  rw [c_ne]
  refine ⟨true, lists_eq hy h2H (m := 5) hpu (by omega), ?_⟩
  rw [t_bl]
  simp only [Bool.not_true]
  rw [b_f, q_nil, k_nx]
  exact l5_ok S hl hok hil hpl hO h1H h2H
theorem l2_ok {M : Mem} (h1 : M[y1]? = some (.lst (its.map Vi.w))) (h2 : M[y2]? = some (.lst ((seenB sf).map Bt.v))) {y3 : Nat} (h3 : M[y3]? = some (.lst [])) (n1 : y3 ≠ y1) (n2 : y3 ≠ y2) {x4 x5 x6 x7 x8 x9 x10 x11 x12 x13 : Option Wv} :
    (evSl (Gp S) (callN (Gp S) fuel 20) (callN (Gp S) fuel 19) fuel lt2 [some .scr, some (.ref y1), some (.ref y2), some (.ref y3), x4, x5, x6, x7, x8, x9, x10, x11, x12, x13] M).sat QR := by
  have hz : 16000000 ≤ sizeLine := by decide
  unfold lt2
  rw [q_cons]
  unfold lx2
  rw [q_for]
  simp only [q_rng, q_con, q_bi, q_acons, q_anil, q_var, getV_0, getV_s, toI, sat_some]
  refine sat_of (n_lenL _ _ _ h1) ?_
  have hm1 : (its.map Vi.w).length ≤ 60 := by rw [List.length_map]; exact hil
  generalize hmm : (its.map Vi.w).length = m at hm1 ⊢
  rw [List.length_map] at hmm
  simp only [toI, sat_some]
  refine ⟨rng10 (by omega) (by omega) (by omega) (by omega), ?_⟩
  rw [rng_eq 0 (m : Int) m (by omega)]
  simp only [lock_no, unlk_no]
  refine sat_mono (for_rule (Q := fun q M' => ∃ (mix : List Vi) (x4 : Option Wv), q = (.nx, [some .scr, some (.ref y1), some (.ref y2), some (.ref y3), x4, x5, x6, x7, x8, x9, x10, x11, x12, x13]) ∧ M'[y1]? = some (.lst (its.map Vi.w)) ∧ M'[y2]? = some (.lst ((seenB sf).map Bt.v)) ∧ M'[y3]? = some (.lst (mix.map Vi.w)) ∧ mix.length = m ∧ ∀ x, x ∈ mix ↔ x ∈ its)
    (fun _ post σ M' => ∃ (j : Nat) (mix : List Vi) (x4 : Option Wv), j ≤ m ∧ post = ((List.range m).drop j).map (fun k : Nat => Wv.int (0 + (k : Int))) ∧ σ = [some .scr, some (.ref y1), some (.ref y2), some (.ref y3), x4, x5, x6, x7, x8, x9, x10, x11, x12, x13] ∧ M'[y1]? = some (.lst (its.map Vi.w)) ∧ M'[y2]? = some (.lst ((seenB sf).map Bt.v)) ∧ M'[y3]? = some (.lst (mix.map Vi.w)) ∧ mix.length = j ∧ ∀ x, x ∈ mix ↔ x ∈ its.take j) ?_ ?_ _ [] _ _ ⟨0, [], _, by omega, rfl, rfl, h1, h2, h3, rfl, fun x => by simp⟩) fun q N ⟨mix, x4, hq, g1, g2, g3, gl, gm⟩ => ?_
  · rintro _ x post σ N ⟨j, mix, x4, hj, hpost, rfl, g1, g2, g3, gl, gm⟩
    have hj2 : j < m := by
      by_cases z : j < m
      · exact z
      · rw [List.drop_eq_nil_of_le (by simp; omega)] at hpost; cases hpost
    rw [List.drop_eq_getElem_cons (by simpa using hj2)] at hpost
    simp only [List.getElem_range, List.map_cons, List.cons.injEq] at hpost
    obtain ⟨rfl, rfl⟩ := hpost
    have e0 : (0 : Int) + (j : Int) = (j : Int) := by omega
    rw [e0]
    refine ⟨rfl, [some .scr, some (.ref y1), some (.ref y2), some (.ref y3), some (.int (j : Int)), x5, x6, x7, x8, x9, x10, x11, x12, x13], rfl, ?_⟩
    unfold lt2_0
    rw [q_cons]
    unfold lx2_0
    rw [q_ex, q_bm, q_var]
    simp only [getV_0, getV_s, sat_some]
    refine ⟨by simp only [bmT, g3], ?_⟩
    simp only [q_acons, q_anil, q_call, q_bin, q_con, q_var, o_add, getV_0, getV_s, sat_some, List.append_nil]
    refine sat_mono (drawn_ok S hl 19 (300 + (j : Int)) ((j : Int) + 1) (by omega) (by omega) N) fun v N2 ⟨pN2, r, hv, a0, a1⟩ => ?_
    subst hv
    have g1N := pre_get pN2 g1
    have g2N := pre_get pN2 g2
    have g3N := pre_get pN2 g3
    have hji : j < its.length := by omega
    have eA : atI (its.map Vi.w) (j : Int) = some (its[j].w) := by
      unfold atI
      rw [if_pos (by omega)]
      simp [hji]
    rw [q_sub, q_var]
    simp only [q_var, getV_0, getV_s, sat_some]
    refine sat_of (sub_lst g1N eA) ?_
    refine sat_of (bm_insert g3N (by rw [List.length_map]; omega) a0 (by omega)) ?_
    have hy3 : y3 < N2.length := (List.getElem?_eq_some_iff.mp g3N).1
    have ev : (mix.map Vi.w).take r.toNat ++ [its[j].w] ++ (mix.map Vi.w).drop r.toNat = (mix.take r.toNat ++ [its[j]] ++ mix.drop r.toNat).map Vi.w := by
      simp only [List.map_append, List.map_take, List.map_drop, List.map_cons, List.map_nil]
    rw [ev, k_nx, q_nil]
    have htd := List.take_append_drop r.toNat mix
    refine ⟨j + 1, mix.take r.toNat ++ [its[j]] ++ mix.drop r.toNat, _, hj2, rfl, rfl, by rw [List.getElem?_set_ne n1]; exact g1N, by rw [List.getElem?_set_ne n2]; exact g2N, List.getElem?_set_self hy3, ?_, fun x => ?_⟩
    · have := congrArg List.length htd
      simp only [List.length_append, List.length_cons, List.length_nil] at this ⊢
      omega
    · have e2 : x ∈ its.take (j + 1) ↔ x ∈ mix ∨ x = its[j] := by
        rw [List.take_succ, List.getElem?_eq_getElem hji, List.mem_append, gm x]
        simp
      rw [e2]
      conv => rhs; lhs; rw [← htd]
      simp only [List.mem_append, List.mem_singleton]
      constructor
      · rintro ((h | h) | h)
        · exact .inl (.inl h)
        · exact .inr h
        · exact .inl (.inr h)
      · rintro ((h | h) | h)
        · exact .inl (.inl h)
        · exact .inr h
        · exact .inl (.inr h)
  · rintro _ σ N ⟨j, mix, x4, hj, hpost, rfl, g1, g2, g3, gl, gm⟩
    have hjm : j = m := by
      by_cases z : j < m
      · rw [List.drop_eq_getElem_cons (by simpa using z)] at hpost
        cases hpost
      · omega
    subst hjm
    exact ⟨rfl, mix, _, rfl, g1, g2, g3, gl, fun x => by rw [gm x, List.take_of_length_le (by omega)]⟩
  · subst hq
    rw [k_nx]
    exact l3_ok S hl hok hil hpl hO g1 g2 gm (by omega) g3
end
theorem law_ok (S : List Int) (hl : S.length ≤ 63) : ∃ M, callN (Gp S) fuel 21 ix_law [.scr] [] = .ok (.bl true) M := by
  have hz : 16000000 ≤ sizeLine := by decide
  have key : (callN (Gp S) fuel 21 ix_law [.scr] []).sat fun v _ => v = .bl true := by
    have e := at_law S 20 [.scr] []
    rw [show (21 : Nat) = 20 + 1 from rfl, e]
    refine run_sat rfl ?_
    show (evSl (Gp S) (callN (Gp S) fuel 20) (callN (Gp S) fuel 19) fuel sl_law [some .scr, none, none, none, none, none, none, none, none, none, none, none, none, none] []).sat QR
    rw [law_eq]
    unfold lt0
    rw [q_cons]
    unfold lx0
    rw [q_asg, q_call]
    simp only [q_acons, q_anil, q_bin, q_call, q_var, q_con, getV_0, getV_s, sat_some, List.append_nil]
    refine sat_mono (drawn_ok S hl 19 0 12 (by omega) (by omega) []) fun v A ⟨pA0, r0, hv, a0, a1⟩ => ?_
    subst hv
    rw [o_add]
    obtain ⟨m, hm⟩ : ∃ m : Nat, 3 + r0 = (m : Int) := ⟨(3 + r0).toNat, by omega⟩
    rw [hm]
    refine sat_mono (law_all_ok S hl 15 10 m (by omega) (by omega) (by omega) A) fun v B ⟨pB, y1, its, hv, _, hok, hlen, h1, hpl⟩ => ?_
    subst hv
    simp only [tg_nm, sat_some, List.set_cons_zero, List.set_cons_succ, k_nx]
    obtain ⟨sk, sf, hO⟩ := so_ex (cf_gb hok) (cntOf_nodup _)
    unfold lt1
    rw [q_cons]
    unfold lx1
    rw [q_asg, q_tup, q_acons, q_call, q_acons, q_new, q_acons, q_var]
    simp only [q_anil, getV_0, getV_s, sat_some]
    refine sat_mono (seen_same S hO hok hok (by omega) (fun t => Iff.rfl) h1) fun v C ⟨pC, hC⟩ => ?_
    simp only [List.append_nil]
    refine sat_mono hC fun v D ⟨pD, y2, hv, h2⟩ => ?_
    subst hv
    have h1D := pre_get (pC.trans pD) h1
    rw [q_acons, q_lst, q_anil]
    refine ⟨len_ok (by decide), ?_⟩
    rw [q_anil]
    refine ⟨len_ok (show 2 ≤ sizeLine by decide), ?_⟩
    simp only [tg_2, sat_some, List.set_cons_zero, List.set_cons_succ, k_nx]
    have pE := List.prefix_append D [Ob.lst []]
    have hE := at_new D (Ob.lst [])
    have hl1 := (List.getElem?_eq_some_iff.mp h1D).1
    have hl2 := (List.getElem?_eq_some_iff.mp h2).1
    exact l2_ok S hl hok (by omega) hpl hO (pre_get pE h1D) (pre_get pE h2) hE (by omega) (by omega)
  obtain ⟨v, M, e, rfl⟩ := sat_ex key
  exact ⟨M, e⟩
end Bh
end
set_option Elab.async false
set_option maxRecDepth 100000 in
set_option maxHeartbeats 0 in
theorem PySem.Challenge.cw_basinhouse_k03_whole_worlds_holds : PySem.Challenge.rw_basinhouse_k03_whole_worlds.Holds := by
  exact Bh.holds_of fun S h1 _ => Bh.law_ok S h1

