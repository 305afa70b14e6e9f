import PyProof.Rows.All
import Wide.All
import OpenK.AllK
import Wide.FinOn
import PySem.Syntax
import PySem.PyData
import PyProof.P3Statements
import HandS.ForMost
import HandS.Strs
import HandS.SetKeys
import HandS.SetBool
import HandS.TupSets
import HandS.SetFor
import HandS.Exc
import HandS.TryMany
import HandS.Defaults
import HandS.Wide
import KE.KDictKeyed
import KE.BitLaws
import HandS.TupAny
import HandS.TupMul
import HandS.Deep
import KE.KDictWalk
import KE.KDictLaw
import PyProof.P3In
import HandS.ExcField
import KE.KTryMore
import HandS.ExcInit
import HandS.Text
import HandS.Style
import HandS.Iter
import HandS.IsInst
import HandS.Head2
import HandS.HeadHook2
import HandS.HeadEnd
import PySem.Challenge.RW_tallyloom_k53_books_of_columns_refused
set_option Elab.async false
set_option linter.all false
section
set_option autoImplicit false
/-! TL: a small language of trees, its values and its runs. Tuples stand within values; lists, dicts, sets and instances stand in a store, by places. -/
namespace TL

inductive PV where
  | non | bl (b : Bool) | int (i : Int) | str (s : List Nat) | tup (xs : List PV) | ref (a : Nat)
  deriving Inhabited

mutual
def PV.beq : PV → PV → Bool
  | .non, .non => true
  | .bl a, .bl b => a == b
  | .int a, .int b => decide (a = b)
  | .str a, .str b => decide (a = b)
  | .tup a, .tup b => PV.beqs a b
  | .ref a, .ref b => decide (a = b)
  | _, _ => false
def PV.beqs : List PV → List PV → Bool
  | [], [] => true
  | a :: as, b :: bs => PV.beq a b && PV.beqs as bs
  | _, _ => false
end

mutual
theorem PV.eq_of_beq : ∀ a b : PV, PV.beq a b = true → a = b
  | .non, .non, _ => rfl
  | .bl a, .bl b, h => by simp only [PV.beq, beq_iff_eq] at h; rw [h]
  | .int a, .int b, h => by simp only [PV.beq, decide_eq_true_eq] at h; rw [h]
  | .str a, .str b, h => by simp only [PV.beq, decide_eq_true_eq] at h; rw [h]
  | .tup a, .tup b, h => by simp only [PV.beq] at h; rw [PV.eq_of_beqs a b h]
  | .ref a, .ref b, h => by simp only [PV.beq, decide_eq_true_eq] at h; rw [h]
  | .non, .bl _, h | .non, .int _, h | .non, .str _, h | .non, .tup _, h | .non, .ref _, h => by simp [PV.beq] at h
  | .bl _, .non, h | .bl _, .int _, h | .bl _, .str _, h | .bl _, .tup _, h | .bl _, .ref _, h => by simp [PV.beq] at h
  | .int _, .non, h | .int _, .bl _, h | .int _, .str _, h | .int _, .tup _, h | .int _, .ref _, h => by simp [PV.beq] at h
  | .str _, .non, h | .str _, .bl _, h | .str _, .int _, h | .str _, .tup _, h | .str _, .ref _, h => by simp [PV.beq] at h
  | .tup _, .non, h | .tup _, .bl _, h | .tup _, .int _, h | .tup _, .str _, h | .tup _, .ref _, h => by simp [PV.beq] at h
  | .ref _, .non, h | .ref _, .bl _, h | .ref _, .int _, h | .ref _, .str _, h | .ref _, .tup _, h => by simp [PV.beq] at h
theorem PV.eq_of_beqs : ∀ a b : List PV, PV.beqs a b = true → a = b
  | [], [], _ => rfl
  | a :: as, b :: bs, h => by
    simp only [PV.beqs, Bool.and_eq_true] at h
    rw [PV.eq_of_beq a b h.1, PV.eq_of_beqs as bs h.2]
  | [], _ :: _, h => by simp [PV.beqs] at h
  | _ :: _, [], h => by simp [PV.beqs] at h
end
mutual
theorem PV.beq_self : ∀ a : PV, PV.beq a a = true
  | .non => rfl
  | .bl a => by simp [PV.beq]
  | .int a => by simp [PV.beq]
  | .str a => by simp [PV.beq]
  | .tup a => by simp only [PV.beq]; exact PV.beqs_self a
  | .ref a => by simp [PV.beq]
theorem PV.beqs_self : ∀ a : List PV, PV.beqs a a = true
  | [] => rfl
  | a :: as => by simp only [PV.beqs, Bool.and_eq_true]; exact ⟨PV.beq_self a, PV.beqs_self as⟩
end
instance : DecidableEq PV := fun a b => if h : PV.beq a b = true then isTrue (PV.eq_of_beq a b h) else isFalse fun e => h (e ▸ PV.beq_self a)

/-- what stands at a place of the store -/
inductive Ob where
  | list (xs : List PV)
  | dict (kvs : List (PV × PV))
  | set (xs : List PV)
  | inst (c : Nat) (fs : List (Nat × PV))
  deriving Inhabited

/-- the store: its objects, the least place that was written since the mark, the places that may not be written -/
structure Sto where
  objs : List Ob
  low : Nat
  lk : List Nat
  deriving Inhabited

/-- an exception: its class, its fields -/
structure Xc where
  cls : Nat
  fs : List (Nat × PV)
  deriving Inhabited

inductive Res (α : Type) where
  | ok (a : α) (s : Sto)
  | exc (x : Xc) (s : Sto)
  | stuck

def M (α : Type) : Type := Sto → Res α
namespace M
def ret {α : Type} (a : α) : M α := fun s => .ok a s
def stop {α : Type} : M α := fun _ => .stuck
def raise {α : Type} (x : Xc) : M α := fun s => .exc x s
def bind {α β : Type} (m : M α) (k : α → M β) : M β := fun s => match m s with
  | .ok a s' => k a s'
  | .exc x s' => .exc x s'
  | .stuck => .stuck
def opt {α : Type} : Option α → M α
  | some a => ret a
  | none => stop
/-- what would raise stops -/
def quiet {α : Type} (m : M α) : M α := fun s => match m s with
  | .ok a t => .ok a t
  | _ => .stuck
def guard (b : Bool) : M Unit := match b with
  | true => ret ()
  | false => stop
end M
instance : Monad M where
  pure := M.ret
  bind := M.bind

def alloc (o : Ob) : M PV := fun s => .ok (.ref s.objs.length) { s with objs := s.objs ++ [o] }
def getOb (r : Nat) : M Ob := fun s => match s.objs[r]? with
  | some o => .ok o s
  | none => .stuck
def getO (v : PV) : M Ob := match v with
  | .ref r => getOb r
  | _ => M.stop
def putOb (r : Nat) (o : Ob) : M Unit := fun s => match s.lk.contains r with
  | true => .stuck
  | false => .ok () { s with objs := s.objs.set r o, low := min s.low r }
def freeOb (r : Nat) : M Unit := fun s => match s.lk.contains r with
  | true => .stuck
  | false => .ok () s

/-! ### arithmetic -/
inductive BOp where
  | add | sub | mul | mod | fdiv | shl | shr | xor | and | pow
  deriving DecidableEq
inductive COp where
  | eq | ne | lt | le | gt | ge | is | isNot | isIn | notIn
  deriving DecidableEq

def arith (o : BOp) (i j : Int) : Option Int := match o with
  | .add => some (i + j)
  | .sub => some (i - j)
  | .mul => if i.natAbs.log2 + j.natAbs.log2 < 1000000 then some (i * j) else none
  | .mod => if j = 0 then none else some (i.fmod j)
  | .fdiv => if j = 0 then none else if j.natAbs.log2 < 9000 then some (i.fdiv j) else none
  | .shl => if 0 ≤ j ∧ j ≤ 1000000 ∧ i.natAbs < 18446744073709551616 then some (i * 2 ^ j.toNat) else none
  | .shr => if 0 ≤ j then some (i / 2 ^ j.toNat) else none
  | .xor => if 0 ≤ i ∧ 0 ≤ j then some (i + j - 2 * Int.ofNat (Nat.land i.toNat j.toNat)) else none
  | .and => if 0 ≤ i ∧ 0 ≤ j then some (Int.ofNat (Nat.land i.toNat j.toNat)) else none
  | .pow => if 0 ≤ j ∧ j ≤ 1000000 ∧ i.natAbs < 18446744073709551616 then some (i ^ j.toNat) else none

/-- the longest list that is made -/
def lineN : Nat := 16000000
def rep {α : Type} : Nat → List α → List α
  | 0, _ => []
  | n + 1, xs => xs ++ rep n xs

def binop (o : BOp) (a b : PV) : M PV := match a, b with
  | .int i, .int j => do return .int (← M.opt (arith o i j))
  | .str x, .str y => match o with
    | .add => do
      M.guard (x.length + y.length ≤ lineN)
      return .str (x ++ y)
    | _ => M.stop
  | .tup x, .tup y => match o with
    | .add => do
      M.guard (x.length + y.length ≤ lineN)
      return .tup (x ++ y)
    | _ => M.stop
  | .tup x, .int n => match o with
    | .mul => do
      M.guard (2 ≤ n && n ≤ 1000 && 1 ≤ x.length && x.length ≤ 1000)
      return .tup (rep n.toNat x)
    | _ => M.stop
  | .ref r, .ref q => match o with
    | .add => do
      match ← getOb r, ← getOb q with
      | .list x, .list y => do
        M.guard (x.length + y.length ≤ lineN)
        alloc (.list (x ++ y))
      | _, _ => M.stop
    | _ => M.stop
  | .ref r, .int n => match o with
    | .mul => do
      match ← getOb r with
      | .list x => do
        M.guard (0 ≤ n && n ≤ 1000 && x.length ≤ 1000)
        freeOb r
        alloc (.list (rep n.toNat x))
      | _ => M.stop
    | _ => M.stop
  | _, _ => M.stop

/-- a op= b, of numbers -/
def augV (o : BOp) (a b : PV) : M PV := match a, b with
  | .int _, .int _ => match o with
    | .add => binop .add a b
    | .sub => binop .sub a b
    | .mul => binop .mul a b
    | _ => M.stop
  | _, _ => M.stop

/-! ### data, comparisons -/
def mapO {α β : Type} (f : α → Option β) : List α → Option (List β)
  | [] => some []
  | x :: xs => match f x with
    | some y => match mapO f xs with
      | some ys => some (y :: ys)
      | none => none
    | none => none
/-- a value as data (lists opened), to a depth -/
def toD (objs : List Ob) : Nat → PV → Option PySem.PyData
  | 0, _ => none
  | n + 1, v => match v with
    | .non => some .none
    | .bl b => some (.bool b)
    | .int i => some (.int i)
    | .str s => if s.all (· < 1114112) then some (.str ⟨s.toArray⟩) else none
    | .tup xs => (mapO (toD objs n) xs).map .tuple
    | .ref r => match objs[r]? with
      | some (.list xs) => (mapO (toD objs n) xs).map .list
      | _ => none
def eqD (objs : List Ob) (a b : PV) : Option Bool := match toD objs 40 a, toD objs 40 b with
  | some d, some e => some (PySem.PyData.eqv d e)
  | _, _ => none
/-- == of two values that are no instances -/
def eqV (objs : List Ob) (a b : PV) : Option Bool := match a, b with
  | .int i, .int j => some (decide (i = j))
  | .str x, .str y => some (decide (x = y))
  | .bl x, .bl y => some (x == y)
  | .non, .non => some true
  | a, b => eqD objs a b
/-- keys of a dict hold no objects -/
def plainV : Nat → PV → Bool
  | 0, _ => false
  | n + 1, v => match v with
    | .tup xs => xs.all (plainV n)
    | .int _ => true
    | .str _ => true
    | _ => false
def isT : PV → Bool
  | .tup _ => true
  | _ => false
/-- a key that may stand in the dict: plain; a tuple where the keys are tuples -/
def keyOk (kvs : List (PV × PV)) (k : PV) : Bool := plainV 8 k && (match kvs with
  | [] => true
  | (q, _) :: _ => isT q == isT k)
/-- dicts: as many entries, each of the one in the other with an equal value -/
def lookD (kvs : List (PV × PV)) (k : PV) : Option PV := match kvs with
  | [] => none
  | (q, v) :: r => match PV.beq q k with
    | true => some v
    | false => lookD r k
def subD (xs ys : List (PV × PV)) : Bool := match xs with
  | [] => true
  | (k, v) :: r => (match lookD ys k with
    | some w => PV.beq v w
    | none => false) && subD r ys
def contains (objs : List Ob) (x c : PV) : Option Bool := match c with
  | .tup xs => match mapO (toD objs 40) xs, toD objs 40 x with
    | some ds, some d => some (ds.any fun z => PySem.PyData.eqv z d)
    | _, _ => none
  | .str s => match x with
    | .str [z] => some (decide (z ∈ s))
    | _ => none
  | .ref r => match objs[r]? with
    | some (.list xs) => match mapO (toD objs 40) xs, toD objs 40 x with
      | some ds, some d => some (ds.any fun z => PySem.PyData.eqv z d)
      | _, _ => none
    | some (.dict kvs) => match keyOk kvs x with
      | true => some (lookD kvs x).isSome
      | false => none
    | _ => none
  | _ => none
def ltV (a b : PV) : Option Bool := match a, b with
  | .int i, .int j => some (decide (i < j))
  | _, _ => none
def cmpV (objs : List Ob) (o : COp) (a b : PV) : Option Bool := match o with
  | .eq => eqV objs a b
  | .ne => (eqV objs a b).map not
  | .lt => ltV a b
  | .gt => ltV b a
  | .le => (ltV b a).map not
  | .ge => (ltV a b).map not
  | .is => match b with
    | .non => some (match a with | .non => true | _ => false)
    | _ => none
  | .isNot => match b with
    | .non => some (match a with | .non => false | _ => true)
    | _ => none
  | .isIn => contains objs a b
  | .notIn => (contains objs a b).map not

/-! ### items, slices -/
def ixO (n : Nat) (i : Int) : Option Nat := if 0 ≤ i then (if i < n then some i.toNat else none) else if -(n : Int) ≤ i then some (i + n).toNat else none
def atO {α : Type} (xs : List α) (i : Int) : Option α := match ixO xs.length i with
  | some j => xs[j]?
  | none => none
/-- a slice's end, clipped -/
def clip (n d : Nat) : Option Int → Nat
  | none => d
  | some i => if 0 ≤ i then min i.toNat n else (i + n).toNat
def cutL {α : Type} (xs : List α) (lo hi : Option Int) : List α := (xs.drop (clip xs.length 0 lo)).take (clip xs.length xs.length hi - clip xs.length 0 lo)
def everyO {α : Type} : Nat → Nat → List α → List α
  | _, _, [] => []
  | 0, k, x :: xs => x :: everyO k k xs
  | n + 1, k, _ :: xs => everyO n k xs
def getItem (o i : PV) : M PV := match o, i with
  | .tup xs, .int k => M.opt (atO xs k)
  | .str s, .int k => do
    M.guard (s.length ≤ lineN)
    return .str [← M.opt (atO s k)]
  | .ref r, k => do
    match ← getOb r with
    | .list xs => match k with
      | .int j => M.opt (atO xs j)
      | _ => M.stop
    | .dict kvs => do
      M.guard (keyOk kvs k)
      M.opt (lookD kvs k)
    | _ => M.stop
  | _, _ => M.stop
def sliceV (o : PV) (lo hi : Option Int) : M PV := match o with
  | .tup xs => return .tup (cutL xs lo hi)
  | .str s => do
    M.guard (s.length ≤ lineN)
    return .str (cutL s lo hi)
  | .ref r => do
    match ← getOb r with
    | .list xs => alloc (.list (cutL xs lo hi))
    | _ => M.stop
  | _ => M.stop
/-- o[::-1] -/
def revV (o : PV) : M PV := match o with
  | .tup xs => return .tup xs.reverse
  | .ref r => do
    match ← getOb r with
    | .list xs => alloc (.list xs.reverse)
    | _ => M.stop
  | _ => M.stop
/-- o[lo::step] of a list -/
def stepV (o : PV) (lo step : Nat) : M PV := match o with
  | .ref r => do
    match ← getOb r with
    | .list xs => alloc (.list (everyO 0 (step - 1) (xs.drop lo)))
    | _ => M.stop
  | _ => M.stop
def storeD (kvs : List (PV × PV)) (k v : PV) : List (PV × PV) := match kvs with
  | [] => [(k, v)]
  | (q, w) :: r => match PV.beq q k with
    | true => (q, v) :: r
    | false => (q, w) :: storeD r k v
def dropD (kvs : List (PV × PV)) (k : PV) : List (PV × PV) := match kvs with
  | [] => []
  | (q, w) :: r => match PV.beq q k with
    | true => r
    | false => (q, w) :: dropD r k
def setItem (o i v : PV) : M Unit := match o with
  | .ref r => do
    match ← getOb r with
    | .list xs => match i with
      | .int k => match ixO xs.length k with
        | some j => putOb r (.list (xs.set j v))
        | none => M.stop
      | _ => M.stop
    | .dict kvs => do
      M.guard (keyOk kvs i && decide (kvs.length < lineN))
      putOb r (.dict (storeD kvs i v))
    | _ => M.stop
  | _ => M.stop

/-! ### fields -/
def lookF {α : Type} (fs : List (Nat × α)) (f : Nat) : Option α := match fs with
  | [] => none
  | (g, v) :: r => match Nat.beq g f with
    | true => some v
    | false => lookF r f
def storeF (fs : List (Nat × PV)) (f : Nat) (v : PV) : List (Nat × PV) := match fs with
  | [] => [(f, v)]
  | (g, w) :: r => match Nat.beq g f with
    | true => (g, v) :: r
    | false => (g, w) :: storeF r f v
def getFld (o : PV) (f : Nat) : M PV := do
  match ← getO o with
  | .inst _ fs => M.opt (lookF fs f)
  | _ => M.stop
def setFld (o : PV) (f : Nat) (v : PV) : M Unit := match o with
  | .ref r => do
    match ← getOb r with
    | .inst c fs => do
      M.guard (fs.length < 100)
      putOb r (.inst c (storeF fs f v))
    | _ => M.stop
  | _ => M.stop

/-! ### sorting -/
mutual
/-- the order of tuples and numbers, by which they are sorted; none: not of one kind -/
def cmpS : PV → PV → Option Ordering
  | .int i, .int j => some (compare i j)
  | .tup xs, .tup ys => cmpSs xs ys
  | .str x, .str y => some (compareOfLessAndEq x y)
  | _, _ => none
def cmpSs : List PV → List PV → Option Ordering
  | [], [] => some .eq
  | [], _ :: _ => some .lt
  | _ :: _, [] => some .gt
  | x :: xs, y :: ys => match cmpS x y with
    | some .eq => cmpSs xs ys
    | r => r
end
def insS (x : PV) : List PV → Option (List PV)
  | [] => some [x]
  | y :: ys => match cmpS x y with
    | some .gt => match insS x ys with
      | some r => some (y :: r)
      | none => none
    | some _ => some (x :: y :: ys)
    | none => none
/-- the items in order, equal ones as they came -/
def sortS : List PV → Option (List PV)
  | [] => some []
  | x :: xs => match sortS xs with
    | some r => insS x r
    | none => none
def minS : PV → List PV → Option PV
  | m, [] => some m
  | m, x :: xs => match cmpS x m with
    | some .lt => minS x xs
    | some _ => minS m xs
    | none => none

/-! ### the trees -/
inductive BI where
  | len | sum | all | any | sorted | list | tuple | dict | set | min | abs | str | int | repr | divmod | max
  deriving DecidableEq
inductive BM where
  | append | pop | popAt | popD | index | remove | clear | reverse | insert | get | setdefault | values | split | join
  deriving DecidableEq
/-- a type that is asked of: a built-in one, a class of the text -/
inductive Ty where
  | tint | tbool | tstr | tlist | ttuple | tcls (c : Nat)
  deriving DecidableEq
/-- where a parameter's value comes from: a written argument, a default -/
inductive Src where
  | arg (i : Nat) | dfl (v : PV)
mutual
inductive Ex where
  | var (i : Nat)
  | cst (v : PV)
  | glob (g : Nat)
  | tup (es : List Ex)
  | lst (es : List Ex)
  | dic (kvs : List Ex)
  | bin (o : BOp) (a b : Ex)
  | neg (a : Ex)
  | notE (a : Ex)
  | andE (a b : Ex)
  | orE (a b : Ex)
  | cmp (o : COp) (a b : Ex)
  | chn (o p : COp) (a b c : Ex)
  | ite (c a b : Ex)
  | fld (f : Nat) (o : Ex)
  | exf (f : Nat)
  | idx (o i : Ex)
  | slc (o : Ex) (l u : Option Ex)
  | rev (o : Ex)
  | stp (o : Ex) (lo step : Nat)
  | call (f : Nat) (es : List Ex) (b : List Src)
  | new (c : Nat) (es : List Ex) (b : List Src)
  | meth (m : Nat) (o : Ex) (es : List Ex) (b : List Src)
  | bi (b : BI) (es : List Ex)
  | bm (m : BM) (o : Ex) (es : List Ex)
  | isi (a : Ex) (ts : List Ty)
  | lc (e : Ex) (g : Gen)
  | lc2 (e : Ex) (g h : Gen)
  | sc (e : Ex) (g : Gen)
  | dc (k v : Ex) (g : Gen)
  | fst (ps : List Ex)
inductive Gen where
  | mk (own : List Nat) (tg : Tg) (it : Itr) (ifs : List Ex)
inductive Itr where
  | any (e : Ex)
  | rng1 (a : Ex)
  | rng2 (a b : Ex)
  | rng3 (a b c : Ex)
  | enum (e : Ex)
  | zip (a b : Ex)
inductive Tg where
  | nm (i : Nat)
  | tp (ts : List Tg)
  | star (pre : List Tg) (mid : Tg) (post : List Tg)
  | fld (f : Nat) (o : Ex)
  | sub (o i : Ex)
end
instance : Inhabited Ex := ⟨.cst .non⟩
mutual
inductive St where
  | set (tg : Tg) (e : Ex)
  | aug (i : Nat) (o : BOp) (e : Ex)
  | augF (f : Nat) (w : Ex) (o : BOp) (e : Ex)
  | augI (w i : Ex) (o : BOp) (e : Ex)
  | ifs (c : Ex) (a b : List St)
  | whl (c : Ex) (b : List St)
  | fors (tg : Tg) (it : Itr) (b : List St)
  | ret (e : Ex)
  | retN
  | exp (e : Ex)
  | rse (c : Nat) (es : List Ex)
  | tryE (b : List St) (hs : List Hd)
  | tryF (b f : List St)
  | brk
  | cnt
  | pass
inductive Hd where
  | mk (cs : List Nat) (as : Option Nat) (b : List St)
end

/-! ### runs -/
abbrev Env := List (Option PV)
/-- what the text's tables tell: functions by their places, methods, makers, constants; the exception in hand -/
structure Ctx where
  fn : Nat → List PV → M PV
  meths : List ((Nat × Nat) × Nat)
  inits : List (Nat × Nat)
  globs : List PV
  subs : List (Nat × List Nat)
  flds : List (Nat × List (Nat × Src))
  cur : Option Xc

def lookM (l : List ((Nat × Nat) × Nat)) (c m : Nat) : Option Nat := match l with
  | [] => none
  | ((d, n), f) :: r => match Nat.beq d c && Nat.beq n m with
    | true => some f
    | false => lookM r c m

mutual
def below (n : Nat) : PV → Bool
  | .ref a => Nat.blt a n
  | .tup xs => belows n xs
  | _ => true
def belows (n : Nat) : List PV → Bool
  | [] => true
  | x :: xs => below n x && belows n xs
end
def belowO (n : Nat) : Ob → Bool
  | .list xs => belows n xs
  | .set _ => true
  | .dict kvs => kvs.all fun p => below n p.1 && below n p.2
  | .inst _ fs => fs.all fun p => below n p.2
/-- a run whose own objects go where nothing of them is left -/
def frame (m : M PV) : M PV := fun s => match m { s with low := s.objs.length } with
  | .ok v t => match Nat.ble s.objs.length t.low with
    | true => match below s.objs.length v with
      | true => .ok v { t with objs := s.objs, low := s.low }
      | false => match v with
        | .ref r => match t.objs[r]? with
          | some o => match belowO s.objs.length o with
            | true => .ok (.ref s.objs.length) { t with objs := s.objs ++ [o], low := s.low }
            | false => .ok v { t with low := s.low }
          | none => .stuck
        | _ => .ok v { t with low := s.low }
    | false => .ok v { t with low := min s.low t.low }
  | .exc x t => match Nat.ble s.objs.length t.low && x.fs.all fun p => below s.objs.length p.2 with
    | true => .exc x { t with objs := s.objs, low := s.low }
    | false => .exc x { t with low := min s.low t.low }
  | .stuck => .stuck
def locked {α : Type} (l : List Nat) (m : M α) : M α := fun s => match m { s with lk := l ++ s.lk } with
  | .ok a t => .ok a { t with lk := s.lk }
  | .exc x t => .exc x { t with lk := s.lk }
  | .stuck => .stuck

/-- what is walked: its items, the lists and dicts that must stay meanwhile -/
structure Walk where
  items : List PV
  held : List Nat
def intsFrom (lo : Int) (step : Int) : Nat → List PV
  | 0 => []
  | n + 1 => .int lo :: intsFrom (lo + step) step n
def rangeW (lo hi : Int) : M Walk := do
  M.guard (decide (lo.natAbs < 4611686018427387904) && decide (hi.natAbs < 4611686018427387904) && decide ((hi - lo).toNat ≤ 16000000))
  return ⟨intsFrom lo 1 (hi - lo).toNat, []⟩
def range3W (lo hi st : Int) : M Walk := do
  M.guard (0 ≤ lo && lo < 16000000 && 0 ≤ hi && hi < 16000000 && 0 < st && st < 1000)
  return ⟨intsFrom lo st ((hi - lo + st - 1) / st).toNat, []⟩
def walkV (v : PV) : M Walk := match v with
  | .tup xs => return ⟨xs, []⟩
  | .str s => return ⟨s.map fun c => .str [c], []⟩
  | .ref r => do
    match ← getOb r with
    | .list xs => return ⟨xs, [r]⟩
    | .dict kvs => return ⟨kvs.map (·.1), [r]⟩
    | _ => M.stop
  | _ => M.stop
def enumL : Int → List PV → List PV
  | _, [] => []
  | k, x :: xs => .tup [.int k, x] :: enumL (k + 1) xs
def zipL : List PV → List PV → List PV
  | x :: xs, y :: ys => .tup [x, y] :: zipL xs ys
  | _, _ => []
def asB : PV → M Bool
  | .bl b => M.ret b
  | _ => M.stop
def asI : PV → M Int
  | .int i => M.ret i
  | _ => M.stop
def wipeE (ρ : Env) : List Nat → Env
  | [] => ρ
  | v :: vs => (wipeE ρ vs).set v none
def setE (ρ : Env) (i : Nat) (v : PV) : M Env := match Nat.blt i ρ.length with
  | true => M.ret (ρ.set i (some v))
  | false => M.stop

/-- a comprehension's turns -/
def turns (f : PV → M (Option PV)) : List PV → M (List PV)
  | [] => M.ret []
  | x :: xs => do
    let y ← f x
    let ys ← turns f xs
    return match y with
      | some v => v :: ys
      | none => ys
/-- a comprehension of two clauses: each turn of the first gives several -/
def turns2 (f : PV → M (List PV)) : List PV → M (List PV)
  | [] => M.ret []
  | x :: xs => do
    let y ← f x
    let ys ← turns2 f xs
    return y ++ ys
def addS (xs : List PV) (y : PV) : List PV := if xs.any fun x => PV.beq x y then xs else xs ++ [y]
def dedup (xs : List PV) : List PV := xs.foldl addS []
def isI : PV → Bool
  | .int _ => true
  | _ => false
def isS : PV → Bool
  | .str _ => true
  | _ => false
def isTI : PV → Bool
  | .tup xs => xs.all isI
  | _ => false
/-- what may come into a set: texts, or numbers, or few tuples of numbers -/
def setOk (xs : List PV) : Bool := xs.all isS && decide (xs.length ≤ 4000) || xs.all isI && decide (xs.length ≤ 4000) || xs.all isTI && decide (xs.length ≤ 60)
def storeAll (kvs : List (PV × PV)) : List (PV × PV) → List (PV × PV)
  | [] => kvs
  | (k, v) :: r => storeAll (storeD kvs k v) r

/-! ### built-ins -/
def digits : Nat → Nat → List Nat → List Nat
  | 0, _, acc => acc
  | n + 1, k, acc => if k < 10 then (48 + k) :: acc else digits n (k / 10) ((48 + k % 10) :: acc)
def natText (k : Nat) : List Nat := digits (k.log2 + 1) k []
def intText (i : Int) : List Nat := if i < 0 then 45 :: natText i.natAbs else natText i.natAbs
def figures (s : List Nat) : Option Nat := s.foldl (fun a c => match a with
  | some n => if 48 ≤ c ∧ c ≤ 57 then some (10 * n + (c - 48)) else none
  | none => none) (some 0)
def boolsB (p : Bool) : List PV → Option Bool
  | [] => some p
  | .bl b :: r => if b = p then boolsB p r else (match boolsB p r with | some _ => some b | none => none)
  | _ => none
def sumI : List PV → Option Int
  | [] => some 0
  | .int i :: r => match sumI r with
    | some j => some (i + j)
    | none => none
  | _ => none
def seqOf (v : PV) : M (List PV) := match v with
  | .tup xs => return xs
  | .str s => return s.map fun c => .str [c]
  | .ref r => do
    match ← getOb r with
    | .list xs => return xs
    | .dict kvs => return kvs.map (·.1)
    | _ => M.stop
  | _ => M.stop
/-- a tuple's items, a list's -/
def seqT (v : PV) : M (List PV) := match v with
  | .tup xs => return xs
  | .ref r => do
    match ← getOb r with
    | .list xs => return xs
    | _ => M.stop
  | _ => M.stop
/-- a list's items -/
def lstOf (v : PV) : M (List PV) := match v with
  | .ref r => do
    match ← getOb r with
    | .list xs => return xs
    | _ => M.stop
  | _ => M.stop
def pairsOf : List PV → Option (List (PV × PV))
  | [] => some []
  | .tup [k, v] :: r => match plainV 8 k, pairsOf r with
    | true, some l => some ((k, v) :: l)
    | _, _ => none
  | _ => none
/-- names of methods that built-ins ask of instances -/
def nLen : Nat := 0
def nEq : Nat := 1
def nStr : Nat := 2
def nRepr : Nat := 3
def runM (c : Ctx) (r : Nat) (cl m : Nat) (args : List PV) : M PV := match lookM c.meths cl m with
  | some f => c.fn f (.ref r :: args)
  | none => M.stop
/-- the method of an instance by its class, where the instance has no field of that name -/
def methM (c : Ctx) (x : PV) (m : Nat) : M Nat := match x with
  | .ref r => do
    match ← getOb r with
    | .inst cl fs => do
      M.guard (lookF fs m).isNone
      M.opt (lookM c.meths cl m)
    | _ => M.stop
  | _ => M.stop
def runQ (c : Ctx) (r : Nat) (cl m : Nat) (args : List PV) : M PV := M.quiet (runM c r cl m args)
def lenV (c : Ctx) (v : PV) : M PV := match v with
  | .tup xs => return .int xs.length
  | .str s => do
    M.guard (s.length ≤ lineN)
    return .int s.length
  | .ref r => do
    match ← getOb r with
    | .list xs => return .int xs.length
    | .dict kvs => return .int kvs.length
    | .set xs => return .int xs.length
    | .inst cl _ => do
      match ← runQ c r cl nLen [] with
      | .int i => do
        M.guard (0 ≤ i && i < 4611686018427387904)
        return .int i
      | _ => M.stop
  | _ => M.stop
def builtin (c : Ctx) (b : BI) (vs : List PV) : M PV := match b, vs with
  | .len, [v] => lenV c v
  | .sum, [v] => do return .int (← M.opt (sumI (← lstOf v)))
  | .all, [v] => do return .bl (← M.opt (boolsB true (← lstOf v)))
  | .any, [v] => do return .bl (← M.opt (boolsB false (← lstOf v)))
  | .sorted, [v] => do
    match ← lstOf v with
    | [] => alloc (.list [])
    | _ => M.stop
  | .list, [v] => match v with
    | .str _ => M.stop
    | _ => do
      let xs ← seqOf v
      alloc (.list xs)
  | .tuple, [v] => match v with
    | .tup xs => return .tup xs
    | _ => do return .tup (← lstOf v)
  | .dict, [v] => do
    match v with
    | .ref r => match ← getOb r with
      | .dict kvs => alloc (.dict kvs)
      | .list xs => do
        let l ← M.opt (pairsOf xs)
        alloc (.dict (storeAll [] l))
      | _ => M.stop
    | .tup xs => do
      let l ← M.opt (pairsOf xs)
      alloc (.dict (storeAll [] l))
    | _ => M.stop
  | .set, [v] => do
    let xs ← seqT v
    M.guard (setOk xs)
    alloc (.set (dedup xs))
  | .min, [v] => do
    match ← seqOf v with
    | x :: xs => M.opt (minS x xs)
    | [] => M.stop
  | .min, [.int i, .int j] => return .int (if j < i then j else i)
  | .max, [.int i, .int j] => return .int (if j > i then j else i)
  | .abs, [.int i] => return .int (if i < 0 then -i else i)
  | .str, [v] => match v with
    | .int i => do
      M.guard (i.natAbs.log2 < 1900)
      return .str (intText i)
    | .str s => return .str s
    | .ref r => do
      match ← getOb r with
      | .inst cl _ => runQ c r cl nStr []
      | _ => M.stop
    | _ => M.stop
  | .repr, [.ref r] => do
    match ← getOb r with
    | .inst cl _ => runQ c r cl nRepr []
    | _ => M.stop
  | .int, [v] => match v with
    | .bl b => return .int (if b then 1 else 0)
    | .str s => do
      M.guard (0 < s.length && s.length ≤ 600)
      return .int (Int.ofNat (← M.opt (figures s)))
    | _ => M.stop
  | .divmod, [.int i, .int j] => do
    M.guard (0 < j && j < 1000000000)
    return .tup [.int (i / j), .int (i % j)]
  | _, _ => M.stop
def isIS : PV → Bool
  | .int _ => true
  | .str _ => true
  | _ => false
/-- the first that is the same -/
def findB (x : PV) : Nat → List PV → Option Nat
  | _, [] => none
  | n, y :: ys => match PV.beq y x with
    | true => some n
    | false => findB x (n + 1) ys
def splitAt1 (sep : Nat) : List Nat → List Nat → List (List Nat)
  | acc, [] => [acc.reverse]
  | acc, c :: r => if c = sep then acc.reverse :: splitAt1 sep [] r else splitAt1 sep (c :: acc) r
def joinT (sep : List Nat) : List (List Nat) → List Nat
  | [] => []
  | [x] => x
  | x :: y :: r => x ++ sep ++ joinT sep (y :: r)
def strsOf : List PV → Option (List (List Nat))
  | [] => some []
  | .str s :: r => match strsOf r with
    | some l => some (s :: l)
    | none => none
  | _ => none
def objsM : M (List Ob) := fun s => .ok s.objs s
def methB (m : BM) (o : PV) (vs : List PV) : M PV := match m, o, vs with
  | .append, .ref r, [v] => do
    match ← getOb r with
    | .list xs => do
      M.guard (xs.length < lineN)
      putOb r (.list (xs ++ [v]))
      return .non
    | _ => M.stop
  | .pop, .ref r, [] => do
    match ← getOb r with
    | .list xs => match xs.getLast? with
      | some v => do
        putOb r (.list xs.dropLast)
        return v
      | none => M.stop
    | _ => M.stop
  | .popAt, .ref r, [.int i] => do
    match ← getOb r with
    | .list xs => match ixO xs.length i with
      | some j => match xs[j]? with
        | some v => do
          M.guard (i.natAbs < 1000000000)
          putOb r (.list (xs.eraseIdx j))
          return v
        | none => M.stop
      | none => M.stop
    | _ => M.stop
  | .popD, .ref r, [k] => do
    match ← getOb r with
    | .dict kvs => match lookD kvs k with
      | some v => do
        M.guard (keyOk kvs k)
        putOb r (.dict (dropD kvs k))
        return v
      | none => M.stop
    | _ => M.stop
  | .index, .ref r, [v] => do
    match ← getOb r with
    | .list xs => do
      M.guard (isIS v && xs.all isIS)
      return .int (Int.ofNat (← M.opt (findB v 0 xs)))
    | _ => M.stop
  | .index, .tup xs, [v] => do
    M.guard (isS v && xs.all isS)
    return .int (Int.ofNat (← M.opt (findB v 0 xs)))
  | .remove, .ref r, [v] => do
    match ← getOb r with
    | .list xs => do
      M.guard (isI v && xs.all isI)
      let j ← M.opt (findB v 0 xs)
      putOb r (.list (xs.eraseIdx j))
      return .non
    | _ => M.stop
  | .clear, .ref r, [] => do
    match ← getOb r with
    | .list _ => do
      putOb r (.list [])
      return .non
    | _ => M.stop
  | .reverse, .ref r, [] => do
    match ← getOb r with
    | .list xs => do
      putOb r (.list xs.reverse)
      return .non
    | _ => M.stop
  | .insert, .ref r, [.int i, v] => do
    match ← getOb r with
    | .list xs => do
      M.guard (0 ≤ i && i ≤ xs.length && xs.length < lineN)
      putOb r (.list (xs.take i.toNat ++ v :: xs.drop i.toNat))
      return .non
    | _ => M.stop
  | .get, .ref r, [k, d] => do
    match ← getOb r with
    | .dict kvs => do
      M.guard (keyOk kvs k)
      return (lookD kvs k).getD d
    | _ => M.stop
  | .setdefault, .ref r, [k, d] => do
    match ← getOb r with
    | .dict kvs => do
      M.guard (keyOk kvs k && isT k && decide (kvs.length < lineN))
      match lookD kvs k with
      | some v => return v
      | none => do
        putOb r (.dict (storeD kvs k d))
        return d
    | _ => M.stop
  | .values, .ref r, [] => do
    match ← getOb r with
    | .dict kvs => alloc (.list (kvs.map (·.2)))
    | _ => M.stop
  | .split, .str s, [.str [c]] => do
    M.guard (s.length ≤ 1000000)
    alloc (.list ((splitAt1 c [] s).map .str))
  | .join, .str s, [v] => do
    let l ← M.opt (strsOf (← seqOf v))
    M.guard (s.length ≤ 1000 && l.length ≤ 10000 && (l.foldl (fun a x => a + x.length) 0) ≤ 1000000)
    return .str (joinT s l)
  | _, _, _ => M.stop

/-- what stands ahead of the point -/
def recvB (m : BM) (x : PV) : M Unit := match m, x with
  | .split, .str _ => M.ret ()
  | .join, .str _ => M.ret ()
  | .index, .tup _ => M.ret ()
  | .get, .ref r => do
    match ← getOb r with
    | .dict _ => M.ret ()
    | _ => M.stop
  | .setdefault, .ref r => do
    match ← getOb r with
    | .dict _ => M.ret ()
    | _ => M.stop
  | .values, .ref r => do
    match ← getOb r with
    | .dict _ => M.ret ()
    | _ => M.stop
  | .popD, .ref r => do
    match ← getOb r with
    | .dict _ => M.ret ()
    | _ => M.stop
  | .split, _ => M.stop
  | .join, _ => M.stop
  | _, .ref r => do
    match ← getOb r with
    | .list _ => M.ret ()
    | _ => M.stop
  | _, _ => M.stop

def isTy (objs : List Ob) (v : PV) (t : Ty) : Option Bool := match t, v with
  | .tint, .int _ => some true
  | .tint, .bl _ => some true
  | .tbool, .bl _ => some true
  | .tstr, .str _ => some true
  | .ttuple, .tup _ => some true
  | .tlist, .ref r => match objs[r]? with
    | some (.list _) => some true
    | some _ => some false
    | none => none
  | .tcls c, .ref r => match objs[r]? with
    | some (.inst d _) => some (Nat.beq c d)
    | some _ => some false
    | none => none
  | _, .ref r => match objs[r]? with
    | some _ => some false
    | none => none
  | _, _ => some false
def isTys (objs : List Ob) (v : PV) : List Ty → Option Bool
  | [] => some false
  | t :: ts => match isTy objs v t with
    | some true => some true
    | some false => isTys objs v ts
    | none => none

/-- == and its like: an instance is asked itself -/
def compareV (c : Ctx) (o : COp) (a b : PV) : M PV := do
  let objs ← objsM
  match o, a with
  | .eq, .ref r => match objs[r]? with
    | some (.inst cl _) => match b with
      | .ref q => match objs[q]? with
        | some (.inst d _) => match Nat.beq cl d with
          | true => runQ c r cl nEq [b]
          | false => M.stop
        | _ => M.stop
      | _ => M.stop
    | _ => do return .bl (← M.opt (cmpV objs o a b))
  | _, _ => do return .bl (← M.opt (cmpV objs o a b))

def textOf : PV → M (List Nat)
  | .str s => M.ret s
  | .int i => do
    M.guard (i.natAbs.log2 < 1900)
    return intText i
  | _ => M.stop
def bindS (vs : List PV) : List Src → Option (List PV)
  | [] => some []
  | .arg i :: r => match vs[i]?, bindS vs r with
    | some v, some l => some (v :: l)
    | _, _ => none
  | .dfl v :: r => match bindS vs r with
    | some l => some (v :: l)
    | none => none

def twos : List PV → Option (List (PV × PV))
  | [] => some []
  | k :: v :: r => match twos r with
    | some l => some ((k, v) :: l)
    | none => none
  | _ => none

mutual
def evE (c : Ctx) (ρ : Env) : Ex → M PV
  | .var i => match ρ[i]? with
    | some (some v) => M.ret v
    | _ => M.stop
  | .cst v => M.ret v
  | .glob g => M.opt c.globs[g]?
  | .tup es => do
    let xs ← evEs c ρ es
    M.guard (xs.length ≤ lineN)
    return .tup xs
  | .lst es => do
    let xs ← evEs c ρ es
    M.guard (xs.length ≤ lineN)
    alloc (.list xs)
  | .dic kvs => do
    let l ← M.opt (twos (← evEs c ρ kvs))
    M.guard (l.all fun p => plainV 8 p.1)
    alloc (.dict (storeAll [] l))
  | .bin o a b => do
    let x ← evE c ρ a
    let y ← evE c ρ b
    binop o x y
  | .neg a => do return .int (-(← asI (← evE c ρ a)))
  | .notE a => do return .bl (!(← asB (← evE c ρ a)))
  | .andE a b => do
    match ← asB (← evE c ρ a) with
    | true => do return .bl (← asB (← evE c ρ b))
    | false => return .bl false
  | .orE a b => do
    match ← asB (← evE c ρ a) with
    | true => return .bl true
    | false => do return .bl (← asB (← evE c ρ b))
  | .cmp o a b => do
    let x ← evE c ρ a
    let y ← evE c ρ b
    compareV c o x y
  | .chn o p a b d => do
    let x ← evE c ρ a
    let y ← evE c ρ b
    match ← asB (← compareV c o x y) with
    | true => do
      let z ← evE c ρ d
      compareV c p y z
    | false => return .bl false
  | .ite q a b => do
    match ← asB (← evE c ρ q) with
    | true => evE c ρ a
    | false => evE c ρ b
  | .fld f o => do getFld (← evE c ρ o) f
  | .exf f => match c.cur with
    | some x => M.opt (lookF x.fs f)
    | none => M.stop
  | .idx o i => do
    let x ← evE c ρ o
    let y ← evE c ρ i
    getItem x y
  | .slc o l u => do
    let x ← evE c ρ o
    let lo ← evO c ρ l
    let hi ← evO c ρ u
    sliceV x lo hi
  | .rev o => do revV (← evE c ρ o)
  | .stp o lo step => do stepV (← evE c ρ o) lo step
  | .call f es b => do
    let vs ← evEs c ρ es
    c.fn f (← M.opt (bindS vs b))
  | .new k es b => do
    let vs ← evEs c ρ es
    let ws ← M.opt (bindS vs b)
    match c.inits.lookup k with
    | some f => frame (do
      let r ← alloc (.inst k [])
      match ← c.fn f (r :: ws) with
      | .non => return r
      | _ => M.stop)
    | none => M.stop
  | .meth m o es b => do
    let x ← evE c ρ o
    let f ← methM c x m
    let vs ← evEs c ρ es
    let ws ← M.opt (bindS vs b)
    c.fn f (x :: ws)
  | .bi b es => frame (do
    let vs ← evEs c ρ es
    builtin c b vs)
  | .bm m o es => do
    let x ← evE c ρ o
    recvB m x
    let vs ← evEs c ρ es
    methB m x vs
  | .isi a ts => do
    let x ← evE c ρ a
    return .bl (← M.opt (isTys (← objsM) x ts))
  | .lc e (.mk own tg it ifs) => frame (do
    let w ← evIt c ρ it
    let xs ← M.quiet <| locked w.held (turns (fun x => do
      let ρ' ← asgT c (wipeE ρ own) tg x
      match ← evTs c ρ' ifs with
      | true => do return some (← evE c ρ' e)
      | false => return none) w.items)
    M.guard (xs.length ≤ lineN)
    alloc (.list xs))
  | .lc2 e (.mk own tg it ifs) (.mk own2 tg2 it2 ifs2) => frame (do
    let w ← evIt c ρ it
    let xs ← M.quiet <| locked w.held (turns2 (fun x => do
      let ρ' ← asgT c (wipeE ρ own) tg x
      match ← evTs c ρ' ifs with
      | true => do
        let w2 ← evIt c ρ' it2
        locked w2.held (turns (fun y => do
          let ρ2 ← asgT c (wipeE ρ' own2) tg2 y
          match ← evTs c ρ2 ifs2 with
          | true => do return some (← evE c ρ2 e)
          | false => return none) w2.items)
      | false => return []) w.items)
    M.guard (xs.length ≤ lineN)
    alloc (.list xs))
  | .sc e (.mk own tg it ifs) => frame (do
    let w ← evIt c ρ it
    let xs ← M.quiet <| locked w.held (turns (fun x => do
      let ρ' ← asgT c (wipeE ρ own) tg x
      match ← evTs c ρ' ifs with
      | true => do return some (← evE c ρ' e)
      | false => return none) w.items)
    M.guard (setOk xs)
    alloc (.set (dedup xs)))
  | .dc k v (.mk own tg it ifs) => frame (do
    let w ← evIt c ρ it
    let xs ← M.quiet <| locked w.held (turns (fun x => do
      let ρ' ← asgT c (wipeE ρ own) tg x
      match ← evTs c ρ' ifs with
      | true => do
        let a ← evE c ρ' k
        let b ← evE c ρ' v
        return some (.tup [a, b])
      | false => return none) w.items)
    let l ← M.opt (pairsOf xs)
    alloc (.dict (storeAll [] l)))
  | .fst ps => do return .str (← evF c ρ ps)
def evEs (c : Ctx) (ρ : Env) : List Ex → M (List PV)
  | [] => M.ret []
  | e :: es => do
    let v ← evE c ρ e
    let vs ← evEs c ρ es
    return v :: vs
def evO (c : Ctx) (ρ : Env) : Option Ex → M (Option Int)
  | none => M.ret none
  | some e => do return some (← asI (← evE c ρ e))
def evF (c : Ctx) (ρ : Env) : List Ex → M (List Nat)
  | [] => M.ret []
  | e :: es => do
    let s ← textOf (← evE c ρ e)
    let r ← evF c ρ es
    M.guard (s.length + r.length ≤ 1000000)
    return s ++ r
def evTs (c : Ctx) (ρ : Env) : List Ex → M Bool
  | [] => M.ret true
  | e :: es => do
    match ← asB (← evE c ρ e) with
    | true => evTs c ρ es
    | false => return false
def evIt (c : Ctx) (ρ : Env) : Itr → M Walk
  | .any e => do walkV (← evE c ρ e)
  | .rng1 a => do rangeW 0 (← asI (← evE c ρ a))
  | .rng2 a b => do
    let i ← asI (← evE c ρ a)
    let j ← asI (← evE c ρ b)
    rangeW i j
  | .rng3 a b d => do
    let i ← asI (← evE c ρ a)
    let j ← asI (← evE c ρ b)
    let k ← asI (← evE c ρ d)
    range3W i j k
  | .enum e => do
    let w ← walkV (← evE c ρ e)
    return ⟨enumL 0 w.items, w.held⟩
  | .zip a b => do
    let x ← evE c ρ a
    let y ← evE c ρ b
    let w ← walkV x
    let u ← walkV y
    return ⟨zipL w.items u.items, w.held ++ u.held⟩
def asgT (c : Ctx) (ρ : Env) : Tg → PV → M Env
  | .nm i, v => setE ρ i v
  | .tp ts, v => match v with
    | .tup xs => asgTs c ρ ts xs
    | _ => M.stop
  | .star pre mid post, v => do
    let xs ← (match v with
      | .tup xs => M.ret xs
      | .ref r => do
        match ← getOb r with
        | .list xs => return xs
        | _ => M.stop
      | _ => M.stop)
    M.guard (pre.length + post.length ≤ xs.length)
    let l ← alloc (.list ((xs.drop pre.length).take (xs.length - pre.length - post.length)))
    let ρ1 ← asgTs c ρ pre (xs.take pre.length)
    let ρ2 ← asgT c ρ1 mid l
    asgTs c ρ2 post (xs.drop (xs.length - post.length))
  | .fld f o, v => do
    let x ← evE c ρ o
    setFld x f v
    return ρ
  | .sub o i, v => do
    let x ← evE c ρ o
    let y ← evE c ρ i
    setItem x y v
    return ρ
def asgTs (c : Ctx) (ρ : Env) : List Tg → List PV → M Env
  | [], [] => M.ret ρ
  | t :: ts, x :: xs => do
    let ρ' ← asgT c ρ t x
    asgTs c ρ' ts xs
  | _, _ => M.stop
end

inductive Flow where
  | nx | rt (v : PV) | bk | ct
inductive SRes where
  | fin (f : Flow) (ρ : Env) (s : Sto)
  | exc (x : Xc) (ρ : Env) (s : Sto)
  | stuck
/-- a value first, then what follows; what it raises is raised with the names as they are -/
def andThen {α : Type} (ρ : Env) (m : M α) (k : α → Sto → SRes) (s : Sto) : SRes := match m s with
  | .ok a t => k a t
  | .exc x t => .exc x ρ t
  | .stuck => .stuck
def seqS (r : SRes) (k : Env → Sto → SRes) : SRes := match r with
  | .fin .nx ρ s => k ρ s
  | r => r
/-- the turns of a for -/
def forTurns (f : PV → Env → Sto → SRes) : List PV → Env → Sto → SRes
  | [], ρ, s => .fin .nx ρ s
  | x :: xs, ρ, s => match f x ρ s with
    | .fin .nx ρ' t => forTurns f xs ρ' t
    | .fin .ct ρ' t => forTurns f xs ρ' t
    | .fin .bk ρ' t => .fin .nx ρ' t
    | r => r
def unlock (l : List Nat) (r : SRes) : SRes := match r with
  | .fin f ρ s => .fin f ρ { s with lk := l }
  | .exc x ρ s => .exc x ρ { s with lk := l }
  | .stuck => .stuck
/-- the turns of a while, so many at most -/
def whileTurns (test : Env → M Bool) (f : Env → Sto → SRes) : Nat → Env → Sto → SRes
  | 0, _, _ => .stuck
  | n + 1, ρ, s => match test ρ s with
    | .ok true t => match f ρ t with
      | .fin .nx ρ' t' => whileTurns test f n ρ' t'
      | .fin .ct ρ' t' => whileTurns test f n ρ' t'
      | .fin .bk ρ' t' => .fin .nx ρ' t'
      | r => r
    | .ok false t => .fin .nx ρ t
    | .exc x t => .exc x ρ t
    | .stuck => .stuck
def mostTurns : Nat := 1000000000
/-- a class is under one of these -/
def under (c : Ctx) (k : Nat) (cs : List Nat) : Bool := match c.subs.lookup k with
  | some l => cs.any fun d => l.any fun e => Nat.beq d e
  | none => false
def underO (c : Ctx) (k : Nat) (cs : List Nat) : Option Bool := match c.subs.lookup k with
  | some l => some (cs.any fun d => l.any fun e => Nat.beq d e)
  | none => none
def clearE (ρ : Env) : Option Nat → Env
  | none => ρ
  | some i => ρ.set i none
def inE (ρ : Env) : Option Nat → Bool
  | none => true
  | some i => Nat.blt i ρ.length

mutual
def exS (c : Ctx) : St → Env → Sto → SRes
  | .set tg e, ρ, s => andThen ρ (do
      let v ← evE c ρ e
      M.quiet (asgT c ρ tg v)) (fun ρ' t => .fin .nx ρ' t) s
  | .aug i o e, ρ, s => andThen ρ (do
      match ρ[i]? with
      | some (some x) => do
        let y ← evE c ρ e
        let z ← augV o x y
        setE ρ i z
      | _ => M.stop) (fun ρ' t => .fin .nx ρ' t) s
  | .augF f w o e, ρ, s => andThen ρ (do
      let x ← evE c ρ w
      let y ← getFld x f
      let z ← evE c ρ e
      let v ← augV o y z
      setFld x f v) (fun _ t => .fin .nx ρ t) s
  | .augI w i o e, ρ, s => andThen ρ (do
      let x ← evE c ρ w
      let k ← evE c ρ i
      let y ← getItem x k
      let z ← evE c ρ e
      let v ← augV o y z
      setItem x k v) (fun _ t => .fin .nx ρ t) s
  | .ifs q a b, ρ, s => andThen ρ (do asB (← evE c ρ q)) (fun k t => match k with
      | true => exSs c a ρ t
      | false => exSs c b ρ t) s
  | .whl q b, ρ, s => whileTurns (fun ρ => do asB (← evE c ρ q)) (exSs c b) mostTurns ρ s
  | .fors tg it b, ρ, s => andThen ρ (evIt c ρ it) (fun w t => unlock t.lk (forTurns (fun x ρ t => andThen ρ (M.quiet (asgT c ρ tg x)) (fun ρ' t => exSs c b ρ' t) t) w.items ρ { t with lk := w.held ++ t.lk })) s
  | .ret e, ρ, s => andThen ρ (evE c ρ e) (fun v t => .fin (.rt v) ρ t) s
  | .retN, ρ, s => .fin (.rt .non) ρ s
  | .exp e, ρ, s => andThen ρ (evE c ρ e) (fun _ t => .fin .nx ρ t) s
  | .rse k es, ρ, s => andThen ρ (evEs c ρ es) (fun vs t => match c.flds.lookup k with
      | some fs => match bindS vs (fs.map (·.2)) with
        | some ws => .exc ⟨k, (fs.map (·.1)).zip ws⟩ ρ t
        | none => .stuck
      | none => .stuck) s
  | .tryE b hs, ρ, s => match exSs c b ρ s with
    | .exc x ρ' t => exH c x hs ρ' t
    | r => r
  | .tryF b f, ρ, s => match exSs c b ρ s with
    | .fin k ρ' t => match exSs c f ρ' t with
      | .fin .nx ρ2 t2 => .fin k ρ2 t2
      | _ => .stuck
    | .exc x ρ' t => match exSs c f ρ' t with
      | .fin .nx ρ2 t2 => .exc x ρ2 t2
      | _ => .stuck
    | .stuck => .stuck
  | .brk, ρ, s => .fin .bk ρ s
  | .cnt, ρ, s => .fin .ct ρ s
  | .pass, ρ, s => .fin .nx ρ s
def exSs (c : Ctx) : List St → Env → Sto → SRes
  | [], ρ, s => .fin .nx ρ s
  | a :: r, ρ, s => match exS c a ρ s with
    | .fin .nx ρ' t => exSs c r ρ' t
    | q => q
def exH (c : Ctx) (x : Xc) : List Hd → Env → Sto → SRes
  | [], ρ, s => .exc x ρ s
  | .mk cs as b :: r, ρ, s => match underO c x.cls cs with
    | some true => match inE ρ as with
      | true => match exSs { c with cur := some x } b (clearE ρ as) s with
        | .fin f ρ' t => .fin f (clearE ρ' as) t
        | _ => .stuck
      | false => .stuck
    | some false => exH c x r ρ s
    | none => .stuck
end

/-- a def: its parameters, its names (parameters first), its body -/
structure Df where
  nps : Nat
  nN : Nat
  body : List St
structure Prog where
  defs : List Df
  meths : List ((Nat × Nat) × Nat)
  inits : List (Nat × Nat)
  globs : List PV
  subs : List (Nat × List Nat)
  flds : List (Nat × List (Nat × Src))
def Prog.ctx (p : Prog) (fn : Nat → List PV → M PV) : Ctx := ⟨fn, p.meths, p.inits, p.globs, p.subs, p.flds, none⟩
def startE (d : Df) (vs : List PV) : Env := vs.map some ++ List.replicate (d.nN - d.nps) none
def endM (r : SRes) : Res PV := match r with
  | .fin (.rt v) _ s => .ok v s
  | .fin .nx _ s => .ok .non s
  | .exc x _ s => .exc x s
  | _ => .stuck
/-- a def run at a depth -/
def callK (p : Prog) : Nat → Nat → List PV → M PV
  | 0, _, _ => M.stop
  | k + 1, f, vs => match p.defs[f]? with
    | some d => match Nat.beq vs.length d.nps with
      | true => frame fun s => endM (exSs (p.ctx (callK p k)) d.body (startE d vs) s)
      | false => M.stop
    | none => M.stop
end TL
end

section
set_option autoImplicit false
set_option maxRecDepth 100000
/-! TL: what a run leaves as it was. -/
namespace TL
/-- from one store to the next: as many objects at least, the same locks, what was not written or is locked stands -/
structure Le (s t : Sto) : Prop where
  len : s.objs.length ≤ t.objs.length
  lk : t.lk = s.lk
  low : t.low ≤ s.low
  at_ : ∀ i, i < s.objs.length → (i < t.low ∨ i ∈ s.lk) → t.objs[i]? = s.objs[i]?
theorem Le.refl {s : Sto} : Le s s := ⟨Nat.le_refl _, rfl, Nat.le_refl _, fun _ _ _ => rfl⟩
theorem Le.trans {s t u : Sto} (a : Le s t) (b : Le t u) : Le s u :=
  ⟨Nat.le_trans a.len b.len, b.lk.trans a.lk, Nat.le_trans b.low a.low, fun i hi h => by
    have h1 : i < t.low ∨ i ∈ s.lk := h.imp (fun z => Nat.lt_of_lt_of_le z b.low) id
    have h2 : i < u.low ∨ i ∈ t.lk := h.imp id (fun z => by rw [a.lk]; exact z)
    rw [b.at_ i (Nat.lt_of_lt_of_le hi a.len) h2, a.at_ i hi h1]⟩
/-- a run leaves what was -/
def Pres {α : Type} (m : M α) : Prop := ∀ s, match m s with
  | .ok _ t => Le s t
  | .exc _ t => Le s t
  | .stuck => True
section
variable {α β : Type}
theorem Pres.ok {m : M α} (h : Pres m) {s t : Sto} {a : α} (e : m s = .ok a t) : Le s t := by
  have := h s; rw [e] at this; exact this
theorem Pres.exc {m : M α} (h : Pres m) {s t : Sto} {x : Xc} (e : m s = .exc x t) : Le s t := by
  have := h s; rw [e] at this; exact this
theorem Pres.ret {a : α} : Pres (M.ret a) := fun _ => Le.refl
theorem Pres.pure {a : α} : Pres (pure a : M α) := fun _ => Le.refl
theorem Pres.stop : Pres (M.stop : M α) := fun _ => trivial
theorem Pres.opt {o : Option α} : Pres (M.opt o) := by cases o; exact Pres.stop; exact Pres.ret
theorem Pres.guard {b : Bool} : Pres (M.guard b) := by cases b; exact Pres.stop; exact Pres.ret
theorem Pres.bind {m : M α} {k : α → M β} (h : Pres m) (hk : ∀ a, Pres (k a)) : Pres (m >>= k) := fun s => by
  show match (match m s with | .ok a s' => k a s' | .exc x s' => .exc x s' | .stuck => .stuck : Res β) with | .ok _ t => Le s t | .exc _ t => Le s t | .stuck => True
  cases e : m s with
  | ok a t =>
    have h1 := h.ok e
    show match k a t with | .ok _ t => Le s t | .exc _ t => Le s t | .stuck => True
    have h2 := hk a t
    cases e2 : k a t with
    | ok b u => rw [e2] at h2; exact h1.trans h2
    | exc x u => rw [e2] at h2; exact h1.trans h2
    | stuck => trivial
  | exc x t => exact h.exc e
  | stuck => trivial
theorem Pres.quiet {m : M α} (h : Pres m) : Pres (M.quiet m) := fun s => by
  unfold M.quiet
  have h1 := h s
  cases e : m s with
  | ok a t => rw [e] at h1; exact h1
  | _ => trivial
theorem Pres.alloc {o : Ob} : Pres (alloc o) := fun s => ⟨by show s.objs.length ≤ (s.objs ++ [o]).length; simp, rfl, Nat.le_refl _, fun i hi _ => List.getElem?_append_left hi⟩
theorem Pres.getOb {r : Nat} : Pres (getOb r) := fun s => by
  unfold TL.getOb
  cases e : s.objs[r]? with
  | some o => exact Le.refl
  | none => trivial
theorem Pres.putOb {r : Nat} {o : Ob} : Pres (putOb r o) := fun s => by
  unfold TL.putOb
  cases e : s.lk.contains r with
  | true => trivial
  | false =>
    refine ⟨by simp, rfl, Nat.min_le_left _ _, fun i hi h => ?_⟩
    show (s.objs.set r o)[i]? = s.objs[i]?
    rw [List.getElem?_set_ne]
    rintro rfl
    rcases h with h | h
    · have h' : r < min s.low r := h
      omega
    · have : s.lk.contains r = true := by simpa using h
      rw [e] at this; cases this
theorem Pres.freeOb {r : Nat} : Pres (freeOb r) := fun s => by
  unfold TL.freeOb
  cases e : s.lk.contains r with
  | true => trivial
  | false => exact Le.refl
theorem Pres.objsM : Pres objsM := fun _ => Le.refl
theorem Pres.locked {l : List Nat} {m : M α} (h : Pres m) : Pres (locked l m) := fun s => by
  unfold TL.locked
  have h1 := h { s with lk := l ++ s.lk }
  cases e : m { s with lk := l ++ s.lk } with
  | ok a t => rw [e] at h1; exact ⟨h1.len, rfl, h1.low, fun i hi z => h1.at_ i hi (z.imp id fun q => List.mem_append_right l q)⟩
  | exc x t => rw [e] at h1; exact ⟨h1.len, rfl, h1.low, fun i hi z => h1.at_ i hi (z.imp id fun q => List.mem_append_right l q)⟩
  | stuck => trivial
theorem Pres.frame {m : M PV} (h : Pres m) : Pres (frame m) := fun s => by
  unfold TL.frame
  have h1 := h { s with low := s.objs.length }
  cases e : m { s with low := s.objs.length } with
  | stuck => trivial
  | ok v t =>
    rw [e] at h1
    dsimp only
    have keep : Nat.ble s.objs.length t.low = true → Le s { t with low := s.low } := fun q => by
      have q' := Nat.le_of_ble_eq_true q
      exact ⟨h1.len, h1.lk, Nat.le_refl _, fun i hi _ => h1.at_ i hi (.inl (Nat.lt_of_lt_of_le hi q'))⟩
    have drop : Le s { t with objs := s.objs, low := s.low } := ⟨Nat.le_refl _, h1.lk, Nat.le_refl _, fun _ _ _ => rfl⟩
    cases q : Nat.ble s.objs.length t.low with
    | true =>
      dsimp only
      cases below s.objs.length v with
      | true => exact drop
      | false =>
        dsimp only
        cases v with
        | ref r =>
          dsimp only
          cases t.objs[r]? with
          | none => trivial
          | some o =>
            dsimp only
            cases belowO s.objs.length o with
            | true => exact ⟨by show s.objs.length ≤ (s.objs ++ [o]).length; simp, h1.lk, Nat.le_refl _, fun i hi _ => List.getElem?_append_left hi⟩
            | false => exact keep q
        | _ => exact keep q
    | false => exact ⟨h1.len, h1.lk, Nat.min_le_left _ _, fun i hi z => h1.at_ i hi (z.imp (fun y => Nat.lt_of_lt_of_le y (Nat.min_le_right _ _)) id)⟩
  | exc x t =>
    rw [e] at h1
    dsimp only
    cases q : (Nat.ble s.objs.length t.low && x.fs.all fun p => below s.objs.length p.2) with
    | true => exact ⟨Nat.le_refl _, h1.lk, Nat.le_refl _, fun _ _ _ => rfl⟩
    | false => exact ⟨h1.len, h1.lk, Nat.min_le_left _ _, fun i hi z => h1.at_ i hi (z.imp (fun y => Nat.lt_of_lt_of_le y (Nat.min_le_right _ _)) id)⟩
theorem Pres.turns {f : PV → M (Option PV)} (h : ∀ x, Pres (f x)) : ∀ xs, Pres (turns f xs)
  | [] => Pres.ret
  | x :: xs => Pres.bind (h x) fun _ => Pres.bind (Pres.turns h xs) fun _ => Pres.pure
theorem Pres.turns2 {f : PV → M (List PV)} (h : ∀ x, Pres (f x)) : ∀ xs, Pres (turns2 f xs)
  | [] => Pres.ret
  | x :: xs => Pres.bind (h x) fun _ => Pres.bind (Pres.turns2 h xs) fun _ => Pres.pure
end
theorem Pres.getO {v : PV} : Pres (getO v) := by cases v <;> first | exact Pres.stop | exact Pres.getOb
theorem Pres.asB {v : PV} : Pres (asB v) := by cases v <;> first | exact Pres.stop | exact Pres.ret
theorem Pres.asI {v : PV} : Pres (asI v) := by cases v <;> first | exact Pres.stop | exact Pres.ret
theorem Pres.setE {ρ : Env} {i : Nat} {v : PV} : Pres (setE ρ i v) := by unfold TL.setE; cases Nat.blt i ρ.length <;> first | exact Pres.stop | exact Pres.ret
/-- closes what is built of the small ones -/
local macro_rules | `(tactic| trivial) => `(tactic| (repeat (first
  | exact Pres.ret | exact Pres.pure | exact Pres.stop | exact Pres.opt | exact Pres.guard | exact Pres.freeOb | exact Pres.getOb | exact Pres.putOb | exact Pres.alloc | exact Pres.objsM | exact Pres.getO | exact Pres.asB | exact Pres.asI | exact Pres.setE
  | (refine Pres.bind ?_ fun _ => ?_) | split | assumption)))
theorem pres_binop (o : BOp) (a b : PV) : Pres (binop o a b) := by unfold binop; trivial
theorem pres_augV (o : BOp) (a b : PV) : Pres (augV o a b) := by
  unfold augV
  split
  · split <;> first | exact pres_binop _ _ _ | exact Pres.stop
  · exact Pres.stop
theorem pres_getItem (a b : PV) : Pres (getItem a b) := by unfold getItem; trivial
theorem pres_sliceV (a : PV) (l u : Option Int) : Pres (sliceV a l u) := by unfold sliceV; trivial
theorem pres_revV (a : PV) : Pres (revV a) := by unfold revV; trivial
theorem pres_stepV (a : PV) (l u : Nat) : Pres (stepV a l u) := by unfold stepV; trivial
theorem pres_setItem (a b v : PV) : Pres (setItem a b v) := by unfold setItem; trivial
theorem pres_getFld (a : PV) (f : Nat) : Pres (getFld a f) := by unfold getFld; trivial
theorem pres_setFld (a : PV) (f : Nat) (v : PV) : Pres (setFld a f v) := by unfold setFld; trivial
theorem pres_rangeW (a b : Int) : Pres (rangeW a b) := by unfold rangeW; trivial
theorem pres_range3W (a b c : Int) : Pres (range3W a b c) := by unfold range3W; trivial
theorem pres_walkV (v : PV) : Pres (walkV v) := by unfold walkV; trivial
theorem pres_seqOf (v : PV) : Pres (seqOf v) := by unfold seqOf; trivial
theorem pres_seqT (v : PV) : Pres (seqT v) := by unfold seqT; trivial
theorem pres_lstOf (v : PV) : Pres (lstOf v) := by unfold lstOf; trivial
theorem pres_textOf (v : PV) : Pres (textOf v) := by unfold textOf; trivial
set_option linter.unusedSectionVars false
section
variable {c : Ctx} (hc : ∀ f vs, Pres (c.fn f vs))
include hc
theorem pres_runM (r cl m : Nat) (vs : List PV) : Pres (runM c r cl m vs) := by
  unfold runM
  split
  · exact hc _ _
  · exact Pres.stop
theorem pres_methM (x : PV) (m : Nat) : Pres (methM c x m) := by
  unfold methM
  cases x with
  | ref r =>
    refine Pres.bind Pres.getOb fun o => ?_
    cases o with
    | inst cl fs => exact Pres.bind Pres.guard fun _ => Pres.opt
    | _ => exact Pres.stop
  | _ => exact Pres.stop
theorem pres_runQ (r cl m : Nat) (vs : List PV) : Pres (runQ c r cl m vs) := Pres.quiet (pres_runM hc r cl m vs)
theorem pres_lenV (v : PV) : Pres (lenV c v) := by
  unfold lenV
  split
  · exact Pres.pure
  · exact Pres.bind Pres.guard fun _ => Pres.pure
  · refine Pres.bind Pres.getOb fun o => ?_
    cases o with
    | inst cl fs =>
      refine Pres.bind (pres_runQ hc _ _ _ _) fun w => ?_
      cases w with
      | int i => exact Pres.bind Pres.guard fun _ => Pres.pure
      | _ => exact Pres.stop
    | _ => exact Pres.pure
  · exact Pres.stop
theorem pres_builtin (b : BI) (vs : List PV) : Pres (builtin c b vs) := by
  have q := pres_runQ hc
  have s := pres_seqOf
  have sl := pres_lstOf
  have sT := pres_seqT
  unfold builtin
  repeat (first
    | exact Pres.ret | exact Pres.pure | exact Pres.stop | exact Pres.opt | exact Pres.guard | exact Pres.freeOb | exact Pres.getOb | exact Pres.alloc | exact pres_lenV hc _ | exact q _ _ _ _ | exact s _ | exact sl _ | exact sT _
    | (refine Pres.bind ?_ fun _ => ?_) | split)
omit hc in
theorem pres_recvB (m : BM) (o : PV) : Pres (recvB m o) := by
  unfold recvB
  repeat (first | exact Pres.ret | exact Pres.stop | exact Pres.getOb | (refine Pres.bind ?_ fun _ => ?_) | split)
omit hc in
theorem pres_methB (m : BM) (o : PV) (vs : List PV) : Pres (methB m o vs) := by
  have s := pres_seqOf
  unfold methB
  repeat (first
    | exact Pres.ret | exact Pres.pure | exact Pres.stop | exact Pres.opt | exact Pres.guard | exact Pres.freeOb | exact Pres.getOb | exact Pres.putOb | exact Pres.alloc | exact Pres.objsM | exact s _
    | (refine Pres.bind ?_ fun _ => ?_) | split)
theorem pres_compareV (o : COp) (a b : PV) : Pres (compareV c o a b) := by
  have q := pres_runQ hc
  unfold compareV
  repeat (first
    | exact Pres.ret | exact Pres.pure | exact Pres.stop | exact Pres.opt | exact Pres.objsM | exact q _ _ _ _
    | (refine Pres.bind ?_ fun _ => ?_) | split)
mutual
theorem pres_evE : ∀ (ρ : Env) (e : Ex), Pres (evE c ρ e)
  | ρ, .var i => by simp only [evE]; split <;> first | exact Pres.ret | exact Pres.stop
  | ρ, .cst v => by simp only [evE]; exact Pres.ret
  | ρ, .glob g => by simp only [evE]; exact Pres.opt
  | ρ, .tup es => by simp only [evE]; exact Pres.bind (pres_evEs ρ es) fun _ => Pres.bind Pres.guard fun _ => Pres.pure
  | ρ, .lst es => by simp only [evE]; exact Pres.bind (pres_evEs ρ es) fun _ => Pres.bind Pres.guard fun _ => Pres.alloc
  | ρ, .dic es => by simp only [evE]; exact Pres.bind (pres_evEs ρ es) fun _ => Pres.bind Pres.opt fun _ => Pres.bind Pres.guard fun _ => Pres.alloc
  | ρ, .bin o a b => by simp only [evE]; exact Pres.bind (pres_evE ρ a) fun _ => Pres.bind (pres_evE ρ b) fun _ => pres_binop _ _ _
  | ρ, .neg a => by simp only [evE]; exact Pres.bind (pres_evE ρ a) fun _ => Pres.bind Pres.asI fun _ => Pres.pure
  | ρ, .notE a => by simp only [evE]; exact Pres.bind (pres_evE ρ a) fun _ => Pres.bind Pres.asB fun _ => Pres.pure
  | ρ, .andE a b => by
    simp only [evE]
    refine Pres.bind (pres_evE ρ a) fun _ => Pres.bind Pres.asB fun k => ?_
    cases k
    · exact Pres.pure
    · exact Pres.bind (pres_evE ρ b) fun _ => Pres.bind Pres.asB fun _ => Pres.pure
  | ρ, .orE a b => by
    simp only [evE]
    refine Pres.bind (pres_evE ρ a) fun _ => Pres.bind Pres.asB fun k => ?_
    cases k
    · exact Pres.bind (pres_evE ρ b) fun _ => Pres.bind Pres.asB fun _ => Pres.pure
    · exact Pres.pure
  | ρ, .cmp o a b => by simp only [evE]; exact Pres.bind (pres_evE ρ a) fun _ => Pres.bind (pres_evE ρ b) fun _ => pres_compareV hc _ _ _
  | ρ, .chn o p a b d => by
    simp only [evE]
    refine Pres.bind (pres_evE ρ a) fun _ => Pres.bind (pres_evE ρ b) fun _ => Pres.bind (pres_compareV hc _ _ _) fun _ => Pres.bind Pres.asB fun k => ?_
    cases k
    · exact Pres.pure
    · exact Pres.bind (pres_evE ρ d) fun _ => pres_compareV hc _ _ _
  | ρ, .ite q a b => by
    simp only [evE]
    refine Pres.bind (pres_evE ρ q) fun _ => Pres.bind Pres.asB fun k => ?_
    cases k
    · exact pres_evE ρ b
    · exact pres_evE ρ a
  | ρ, .fld f o => by simp only [evE]; exact Pres.bind (pres_evE ρ o) fun _ => pres_getFld _ _
  | ρ, .exf f => by simp only [evE]; split <;> first | exact Pres.opt | exact Pres.stop
  | ρ, .idx o i => by simp only [evE]; exact Pres.bind (pres_evE ρ o) fun _ => Pres.bind (pres_evE ρ i) fun _ => pres_getItem _ _
  | ρ, .slc o l u => by simp only [evE]; exact Pres.bind (pres_evE ρ o) fun _ => Pres.bind (pres_evO ρ l) fun _ => Pres.bind (pres_evO ρ u) fun _ => pres_sliceV _ _ _
  | ρ, .rev o => by simp only [evE]; exact Pres.bind (pres_evE ρ o) fun _ => pres_revV _
  | ρ, .stp o l k => by simp only [evE]; exact Pres.bind (pres_evE ρ o) fun _ => pres_stepV _ _ _
  | ρ, .call f es b => by simp only [evE]; exact Pres.bind (pres_evEs ρ es) fun _ => Pres.bind Pres.opt fun _ => hc _ _
  | ρ, .new k es b => by
    simp only [evE]
    refine Pres.bind (pres_evEs ρ es) fun _ => Pres.bind Pres.opt fun _ => ?_
    split
    · refine Pres.frame (Pres.bind Pres.alloc fun _ => Pres.bind (hc _ _) fun v => ?_)
      cases v <;> first | exact Pres.pure | exact Pres.stop
    · exact Pres.stop
  | ρ, .meth m o es b => by
    simp only [evE]
    exact Pres.bind (pres_evE ρ o) fun x => Pres.bind (pres_methM hc _ _) fun f => Pres.bind (pres_evEs ρ es) fun _ => Pres.bind Pres.opt fun _ => hc _ _
  | ρ, .bi b es => by simp only [evE]; exact Pres.frame (Pres.bind (pres_evEs ρ es) fun _ => pres_builtin hc _ _)
  | ρ, .bm m o es => by simp only [evE]; exact Pres.bind (pres_evE ρ o) fun _ => Pres.bind (pres_recvB _ _) fun _ => Pres.bind (pres_evEs ρ es) fun _ => pres_methB _ _ _
  | ρ, .isi a ts => by simp only [evE]; exact Pres.bind (pres_evE ρ a) fun _ => Pres.bind Pres.objsM fun _ => Pres.bind Pres.opt fun _ => Pres.pure
  | ρ, .lc e (.mk own tg it ifs) => by
    simp only [evE]
    refine Pres.frame (Pres.bind (pres_evIt ρ it) fun w => Pres.bind (Pres.quiet (Pres.locked (Pres.turns (fun x => ?_) _))) fun _ => Pres.bind Pres.guard fun _ => Pres.alloc)
    refine Pres.bind (pres_asgT _ tg x) fun ρ' => Pres.bind (pres_evTs ρ' ifs) fun k => ?_
    cases k
    · exact Pres.pure
    · exact Pres.bind (pres_evE ρ' e) fun _ => Pres.pure
  | ρ, .lc2 e (.mk own tg it ifs) (.mk own2 tg2 it2 ifs2) => by
    simp only [evE]
    refine Pres.frame (Pres.bind (pres_evIt ρ it) fun w => Pres.bind (Pres.quiet (Pres.locked (Pres.turns2 (fun x => ?_) _))) fun _ => Pres.bind Pres.guard fun _ => Pres.alloc)
    refine Pres.bind (pres_asgT _ tg x) fun ρ' => Pres.bind (pres_evTs ρ' ifs) fun k => ?_
    cases k
    · exact Pres.pure
    · refine Pres.bind (pres_evIt ρ' it2) fun w2 => Pres.locked (Pres.turns (fun y => ?_) _)
      refine Pres.bind (pres_asgT _ tg2 y) fun ρ2 => Pres.bind (pres_evTs ρ2 ifs2) fun k => ?_
      cases k
      · exact Pres.pure
      · exact Pres.bind (pres_evE ρ2 e) fun _ => Pres.pure
  | ρ, .sc e (.mk own tg it ifs) => by
    simp only [evE]
    refine Pres.frame (Pres.bind (pres_evIt ρ it) fun w => Pres.bind (Pres.quiet (Pres.locked (Pres.turns (fun x => ?_) _))) fun _ => Pres.bind Pres.guard fun _ => Pres.alloc)
    refine Pres.bind (pres_asgT _ tg x) fun ρ' => Pres.bind (pres_evTs ρ' ifs) fun k => ?_
    cases k
    · exact Pres.pure
    · exact Pres.bind (pres_evE ρ' e) fun _ => Pres.pure
  | ρ, .dc q v (.mk own tg it ifs) => by
    simp only [evE]
    refine Pres.frame (Pres.bind (pres_evIt ρ it) fun w => Pres.bind (Pres.quiet (Pres.locked (Pres.turns (fun x => ?_) _))) fun _ => Pres.bind Pres.opt fun _ => Pres.alloc)
    refine Pres.bind (pres_asgT _ tg x) fun ρ' => Pres.bind (pres_evTs ρ' ifs) fun k => ?_
    cases k
    · exact Pres.pure
    · exact Pres.bind (pres_evE ρ' q) fun _ => Pres.bind (pres_evE ρ' v) fun _ => Pres.pure
  | ρ, .fst ps => by simp only [evE]; exact Pres.bind (pres_evF ρ ps) fun _ => Pres.pure
theorem pres_evEs : ∀ (ρ : Env) (es : List Ex), Pres (evEs c ρ es)
  | ρ, [] => by simp only [evEs]; exact Pres.ret
  | ρ, e :: es => by simp only [evEs]; exact Pres.bind (pres_evE ρ e) fun _ => Pres.bind (pres_evEs ρ es) fun _ => Pres.pure
theorem pres_evO : ∀ (ρ : Env) (e : Option Ex), Pres (evO c ρ e)
  | ρ, none => by simp only [evO]; exact Pres.ret
  | ρ, some e => by simp only [evO]; exact Pres.bind (pres_evE ρ e) fun _ => Pres.bind Pres.asI fun _ => Pres.pure
theorem pres_evF : ∀ (ρ : Env) (es : List Ex), Pres (evF c ρ es)
  | ρ, [] => by simp only [evF]; exact Pres.ret
  | ρ, e :: es => by simp only [evF]; exact Pres.bind (pres_evE ρ e) fun _ => Pres.bind (pres_textOf _) fun _ => Pres.bind (pres_evF ρ es) fun _ => Pres.bind Pres.guard fun _ => Pres.pure
theorem pres_evTs : ∀ (ρ : Env) (es : List Ex), Pres (evTs c ρ es)
  | ρ, [] => by simp only [evTs]; exact Pres.ret
  | ρ, e :: es => by
    simp only [evTs]
    refine Pres.bind (pres_evE ρ e) fun _ => Pres.bind Pres.asB fun k => ?_
    cases k
    · exact Pres.pure
    · exact pres_evTs ρ es
theorem pres_evIt : ∀ (ρ : Env) (it : Itr), Pres (evIt c ρ it)
  | ρ, .any e => by simp only [evIt]; exact Pres.bind (pres_evE ρ e) fun _ => pres_walkV _
  | ρ, .rng1 a => by simp only [evIt]; exact Pres.bind (pres_evE ρ a) fun _ => Pres.bind Pres.asI fun _ => pres_rangeW _ _
  | ρ, .rng2 a b => by simp only [evIt]; exact Pres.bind (pres_evE ρ a) fun _ => Pres.bind Pres.asI fun _ => Pres.bind (pres_evE ρ b) fun _ => Pres.bind Pres.asI fun _ => pres_rangeW _ _
  | ρ, .rng3 a b d => by simp only [evIt]; exact Pres.bind (pres_evE ρ a) fun _ => Pres.bind Pres.asI fun _ => Pres.bind (pres_evE ρ b) fun _ => Pres.bind Pres.asI fun _ => Pres.bind (pres_evE ρ d) fun _ => Pres.bind Pres.asI fun _ => pres_range3W _ _ _
  | ρ, .enum e => by simp only [evIt]; exact Pres.bind (pres_evE ρ e) fun _ => Pres.bind (pres_walkV _) fun _ => Pres.pure
  | ρ, .zip a b => by simp only [evIt]; exact Pres.bind (pres_evE ρ a) fun _ => Pres.bind (pres_evE ρ b) fun _ => Pres.bind (pres_walkV _) fun _ => Pres.bind (pres_walkV _) fun _ => Pres.pure
theorem pres_asgT : ∀ (ρ : Env) (t : Tg) (v : PV), Pres (asgT c ρ t v)
  | ρ, .nm i, v => by simp only [asgT]; exact Pres.setE
  | ρ, .tp ts, v => by
    simp only [asgT]
    cases v with
    | tup xs => exact pres_asgTs ρ ts xs
    | _ => exact Pres.stop
  | ρ, .star pre mid post, v => by
    simp only [asgT]
    refine Pres.bind ?_ fun xs => Pres.bind Pres.guard fun _ => Pres.bind Pres.alloc fun l => Pres.bind (pres_asgTs ρ pre _) fun ρ1 => Pres.bind (pres_asgT ρ1 mid l) fun ρ2 => pres_asgTs ρ2 post _
    cases v with
    | tup xs => exact Pres.ret
    | ref r =>
      refine Pres.bind Pres.getOb fun o => ?_
      cases o <;> first | exact Pres.pure | exact Pres.stop
    | _ => exact Pres.stop
  | ρ, .fld f o, v => by simp only [asgT]; exact Pres.bind (pres_evE ρ o) fun _ => Pres.bind (pres_setFld _ _ _) fun _ => Pres.pure
  | ρ, .sub o i, v => by simp only [asgT]; exact Pres.bind (pres_evE ρ o) fun _ => Pres.bind (pres_evE ρ i) fun _ => Pres.bind (pres_setItem _ _ _) fun _ => Pres.pure
theorem pres_asgTs : ∀ (ρ : Env) (ts : List Tg) (xs : List PV), Pres (asgTs c ρ ts xs)
  | ρ, [], [] => by simp only [asgTs]; exact Pres.ret
  | ρ, [], _ :: _ => by simp only [asgTs]; exact Pres.stop
  | ρ, _ :: _, [] => by simp only [asgTs]; exact Pres.stop
  | ρ, t :: ts, x :: xs => by simp only [asgTs]; exact Pres.bind (pres_asgT ρ t x) fun ρ' => pres_asgTs ρ' ts xs
end
end

/-- the same of statements -/
def PresS (f : Env → Sto → SRes) : Prop := ∀ ρ s, match f ρ s with
  | .fin _ _ t => Le s t
  | .exc _ _ t => Le s t
  | .stuck => True
theorem PresS.fin {f : Env → Sto → SRes} (h : PresS f) {ρ ρ' : Env} {s t : Sto} {k : Flow} (e : f ρ s = .fin k ρ' t) : Le s t := by
  have := h ρ s; rw [e] at this; exact this
theorem PresS.exc {f : Env → Sto → SRes} (h : PresS f) {ρ ρ' : Env} {s t : Sto} {x : Xc} (e : f ρ s = .exc x ρ' t) : Le s t := by
  have := h ρ s; rw [e] at this; exact this
/-- an end behind a store -/
def LeR (s : Sto) (r : SRes) : Prop := match r with
  | .fin _ _ t => Le s t
  | .exc _ _ t => Le s t
  | .stuck => True
theorem LeR.trans {s t : Sto} {r : SRes} (a : Le s t) (b : LeR t r) : LeR s r := by
  cases r with
  | fin _ _ u => exact a.trans b
  | exc _ _ u => exact a.trans b
  | stuck => exact True.intro
theorem leR_andThen {α : Type} {ρ : Env} {m : M α} {k : α → Sto → SRes} {s : Sto} (h : Pres m) (hk : ∀ a t, LeR t (k a t)) : LeR s (andThen ρ m k s) := by
  unfold andThen
  have h1 := h s
  cases e : m s with
  | ok a t => rw [e] at h1; exact LeR.trans h1 (hk a t)
  | exc x t => rw [e] at h1; exact h1
  | stuck => exact True.intro
theorem leR_for {f : PV → Env → Sto → SRes} (h : ∀ x ρ s, LeR s (f x ρ s)) : ∀ xs ρ s, LeR s (forTurns f xs ρ s)
  | [], _, _ => Le.refl
  | x :: xs, ρ, s => by
    unfold forTurns
    have h1 := h x ρ s
    cases e : f x ρ s with
    | fin k ρ' t =>
      rw [e] at h1
      cases k with
      | nx => exact LeR.trans h1 (leR_for h xs ρ' t)
      | ct => exact LeR.trans h1 (leR_for h xs ρ' t)
      | bk => exact h1
      | rt v => exact h1
    | exc y ρ' t => rw [e] at h1; exact h1
    | stuck => exact True.intro
theorem leR_while {q : Env → M Bool} {f : Env → Sto → SRes} (hq : ∀ ρ, Pres (q ρ)) (h : ∀ ρ s, LeR s (f ρ s)) : ∀ n ρ s, LeR s (whileTurns q f n ρ s)
  | 0, _, _ => True.intro
  | n + 1, ρ, s => by
    unfold whileTurns
    have h0 := hq ρ s
    cases e0 : q ρ s with
    | stuck => exact True.intro
    | exc x t => rw [e0] at h0; exact h0
    | ok b t =>
      rw [e0] at h0
      cases b with
      | false => exact h0
      | true =>
        dsimp only
        have h1 := h ρ t
        cases e : f ρ t with
        | fin k ρ' u =>
          rw [e] at h1
          cases k with
          | nx => exact LeR.trans (h0.trans h1) (leR_while hq h n ρ' u)
          | ct => exact LeR.trans (h0.trans h1) (leR_while hq h n ρ' u)
          | bk => exact h0.trans h1
          | rt v => exact h0.trans h1
        | exc y ρ' u => rw [e] at h1; exact h0.trans h1
        | stuck => exact True.intro
theorem leR_unlock {s : Sto} {r : SRes} {l : List Nat} (h : LeR { s with lk := l ++ s.lk } r) : LeR s (unlock s.lk r) := by
  cases r with
  | fin k ρ t => exact ⟨h.len, rfl, h.low, fun i hi z => h.at_ i hi (z.imp id fun q => List.mem_append_right l q)⟩
  | exc x ρ t => exact ⟨h.len, rfl, h.low, fun i hi z => h.at_ i hi (z.imp id fun q => List.mem_append_right l q)⟩
  | stuck => exact True.intro
mutual
theorem leR_exS {c : Ctx} (hc : ∀ f vs, Pres (c.fn f vs)) : ∀ (a : St) (ρ : Env) (s : Sto), LeR s (exS c a ρ s)
  | .set tg e, ρ, s => by
    simp only [exS]
    exact leR_andThen (Pres.bind (pres_evE hc ρ e) fun v => Pres.quiet (pres_asgT hc ρ tg v)) fun _ _ => Le.refl
  | .aug i o e, ρ, s => by
    simp only [exS]
    refine leR_andThen ?_ fun _ _ => Le.refl
    split
    · exact Pres.bind (pres_evE hc ρ e) fun _ => Pres.bind (pres_augV _ _ _) fun _ => Pres.setE
    · exact Pres.stop
  | .augF f w o e, ρ, s => by
    simp only [exS]
    exact leR_andThen (Pres.bind (pres_evE hc ρ w) fun _ => Pres.bind (pres_getFld _ _) fun _ => Pres.bind (pres_evE hc ρ e) fun _ => Pres.bind (pres_augV _ _ _) fun _ => pres_setFld _ _ _) fun _ _ => Le.refl
  | .augI w i o e, ρ, s => by
    simp only [exS]
    exact leR_andThen (Pres.bind (pres_evE hc ρ w) fun _ => Pres.bind (pres_evE hc ρ i) fun _ => Pres.bind (pres_getItem _ _) fun _ => Pres.bind (pres_evE hc ρ e) fun _ => Pres.bind (pres_augV _ _ _) fun _ => pres_setItem _ _ _) fun _ _ => Le.refl
  | .ifs q a b, ρ, s => by
    simp only [exS]
    refine leR_andThen (Pres.bind (pres_evE hc ρ q) fun _ => Pres.asB) fun k t => ?_
    cases k
    · exact leR_exSs hc b ρ t
    · exact leR_exSs hc a ρ t
  | .whl q b, ρ, s => by
    simp only [exS]
    exact leR_while (fun ρ => Pres.bind (pres_evE hc ρ q) fun _ => Pres.asB) (fun ρ s => leR_exSs hc b ρ s) _ _ _
  | .fors tg it b, ρ, s => by
    simp only [exS]
    refine leR_andThen (pres_evIt hc ρ it) fun w t => leR_unlock (leR_for (fun x ρ u => ?_) _ _ _)
    exact leR_andThen (Pres.quiet (pres_asgT hc ρ tg x)) fun ρ' u => leR_exSs hc b ρ' u
  | .ret e, ρ, s => by simp only [exS]; exact leR_andThen (pres_evE hc ρ e) fun _ _ => Le.refl
  | .retN, ρ, s => by simp only [exS]; exact Le.refl
  | .exp e, ρ, s => by simp only [exS]; exact leR_andThen (pres_evE hc ρ e) fun _ _ => Le.refl
  | .rse k es, ρ, s => by
    simp only [exS]
    refine leR_andThen (pres_evEs hc ρ es) fun vs t => ?_
    split
    · split
      · exact Le.refl
      · exact True.intro
    · exact True.intro
  | .tryE b hs, ρ, s => by
    simp only [exS]
    have h1 := leR_exSs hc b ρ s
    cases e : exSs c b ρ s with
    | fin k ρ' t => rw [e] at h1; exact h1
    | exc x ρ' t => rw [e] at h1; exact LeR.trans h1 (leR_exH hc x hs ρ' t)
    | stuck => exact True.intro
  | .tryF b f, ρ, s => by
    simp only [exS]
    have h1 := leR_exSs hc b ρ s
    cases e : exSs c b ρ s with
    | fin k ρ' t =>
      rw [e] at h1
      dsimp only
      have h2 := leR_exSs hc f ρ' t
      cases e2 : exSs c f ρ' t with
      | fin k2 ρ2 t2 =>
        rw [e2] at h2
        cases k2 with
        | nx => exact Le.trans h1 h2
        | _ => exact True.intro
      | _ => exact True.intro
    | exc x ρ' t =>
      rw [e] at h1
      dsimp only
      have h2 := leR_exSs hc f ρ' t
      cases e2 : exSs c f ρ' t with
      | fin k2 ρ2 t2 =>
        rw [e2] at h2
        cases k2 with
        | nx => exact Le.trans h1 h2
        | _ => exact True.intro
      | _ => exact True.intro
    | stuck => exact True.intro
  | .brk, ρ, s => by simp only [exS]; exact Le.refl
  | .cnt, ρ, s => by simp only [exS]; exact Le.refl
  | .pass, ρ, s => by simp only [exS]; exact Le.refl
theorem leR_exSs {c : Ctx} (hc : ∀ f vs, Pres (c.fn f vs)) : ∀ (a : List St) (ρ : Env) (s : Sto), LeR s (exSs c a ρ s)
  | [], ρ, s => by simp only [exSs]; exact Le.refl
  | a :: r, ρ, s => by
    simp only [exSs]
    have h1 := leR_exS hc a ρ s
    cases e : exS c a ρ s with
    | fin k ρ' t =>
      rw [e] at h1
      cases k with
      | nx => exact LeR.trans h1 (leR_exSs hc r ρ' t)
      | _ => exact h1
    | exc x ρ' t => rw [e] at h1; exact h1
    | stuck => exact True.intro
theorem leR_exH {c : Ctx} (hc : ∀ f vs, Pres (c.fn f vs)) (x : Xc) : ∀ (hs : List Hd) (ρ : Env) (s : Sto), LeR s (exH c x hs ρ s)
  | [], ρ, s => by simp only [exH]; exact Le.refl
  | .mk cs as b :: r, ρ, s => by
    simp only [exH]
    cases underO c x.cls cs with
    | none => exact True.intro
    | some k =>
     cases k with
     | true =>
      dsimp only
      cases inE ρ as with
      | false => exact True.intro
      | true =>
       dsimp only
       have h1 := leR_exSs (c := { c with cur := some x }) hc b (clearE ρ as) s
       cases e : exSs { c with cur := some x } b (clearE ρ as) s with
       | fin k ρ' t => rw [e] at h1; exact h1
       | exc y ρ' t => exact True.intro
       | stuck => exact True.intro
     | false => exact leR_exH hc x r ρ s
end
theorem pres_callK (p : Prog) : ∀ (k f : Nat) (vs : List PV), Pres (callK p k f vs)
  | 0, _, _ => Pres.stop
  | k + 1, f, vs => by
    unfold callK
    split
    · rename_i d _
      cases Nat.beq vs.length d.nps with
      | false => exact Pres.stop
      | true =>
        refine Pres.frame fun s => ?_
        have h1 := leR_exSs (c := p.ctx (callK p k)) (fun f vs => pres_callK p k f vs) d.body (startE d vs) s
        cases e : exSs (p.ctx (callK p k)) d.body (startE d vs) s with
        | fin q ρ' t =>
          rw [e] at h1
          cases q with
          | nx => exact h1
          | rt v => exact h1
          | bk => exact True.intro
          | ct => exact True.intro
        | exc x ρ' t => rw [e] at h1; exact h1
        | stuck => exact True.intro
    · exact Pres.stop
end TL
end

section
set_option maxRecDepth 100000
set_option maxHeartbeats 2000000
set_option autoImplicit false
/-! TL: sets: how one is told, set comprehensions (no trees in sight). -/
namespace TL
open PySem PySem.Spec PyProof.Rows L2
/-- the object of a set that was just made -/
def set0 (w : World) : Obj := { cls := .type "set", dict := none, data := .set #[] 0 (.fresh 0 0 (!w.params.followText "set-order")) }
/-- how a set is told while its members come -/
structure SKind (P : Program) (w : World) where
  T : Type
  I : Type
  hp : Heap → Addr → T → Prop
  e0 : T
  keep : ∀ {h1 h2 : Heap} {a : Addr} {t : T}, hp h1 a t → (∀ o, h1.get? a = some o → h2.get? a = some o) → hp h2 a t
  obj : ∀ {h : Heap} {a : Addr} {t : T}, hp h a t → ∃ o, h.get? a = some o
  fresh : ∀ {h : Heap} {a : Addr}, h.get? a = some (set0 w) → hp h a e0
  pre : Heap → T → Value → I → Prop
  nxt : T → Value → I → T → Prop
  put : ∀ {A : Around} {s : Shared} {D : Addr} {t : T} {z : Value} {i : I} {Q : Bool → Shared → Prop} {E : Value → Shared → Prop}, A.units + 1 < cLine → hp s.heap D t → pre s.heap t z i →
    (∀ h' b tk t', Heap.SameBut D s.heap h' → hp h' D t' → nxt t z i t' → s.toks ≤ tk → Q b { s with heap := h', toks := tk }) → wpAny (model P w) A (setAdd D z) Q E s
  ty : ∀ {s : Shared} {a : Addr} {t : T}, hp s.heap a t → s.TypeIs (.ref a) "set"
section
variable {P : Program} {w : World}
def SKind.so (κ : SKind P w) (a : Addr) (t : κ.T) : HO := .ext fun h => κ.hp h a t
theorem SKind.ok (κ : SKind P w) {H : Hp} {h : Heap} {a : Addr} {t : κ.T} (x : κ.hp h a t) : ObjOk P w H h a (κ.so a t) := ⟨x, κ.obj x, fun _ _ p k => κ.keep p k⟩
theorem SKind.call (κ : SKind P w) {A : Around} {s : Shared} {D : Addr} {t : κ.T} {z : Value} {i : κ.I} {Q : Value → Shared → Prop} {E : Value → Shared → Prop} (hu : A.units + 65 < cLine) (h : κ.hp s.heap D t) (hp : κ.pre s.heap t z i)
    (hQ : ∀ h' tk t', Heap.SameBut D s.heap h' → κ.hp h' D t' → κ.nxt t z i t' → Q .none { s with heap := h', toks := tk }) : wpAny (model P w) A (call (.builtin "set.add") [.ref D, z]) Q E s := by
  refine wpAny_call_entry F.slot_set_add (κ.ty h) F.entry_set_add ?_ (F.args_set_add_2 _ _)
  unfold Builtin.«set.add» Builtin.Frozenset.oneOther
  simp only [List.isEmpty_nil, bind_assoc]
  unfold Builtin.Frozenset.addrOf
  refine wpAny_bind (wpAny_pure ?_)
  try dsimp only
  refine wpAny_bind (wpAny_pure ?_)
  try dsimp only
  refine wpAny_bind (κ.put (by show A.units + 1 + 1 < cLine; omega) h hp fun h' b tk t' sb hn nx _ => ?_)
  show wpAny _ _ (ret Value.none) _ _ _
  exact wpAny_pure ⟨_, rfl, hQ h' tk t' sb hn nx⟩
end
theorem SKind.mu {P : Program} {w : World} (κ : SKind P w) {a : Addr} {t : κ.T} : Mut (some (κ.so a t)) := by trivial
/-- {elt for tg in it if ..}: D the set -/
def tScG (P : Program) (w : World) (K : PySem.W.Frag) (wi : TI) (g : TG) (tt : TT) (te : TE) (vs : List Nat) : TE := fun σ H Q => wi σ H fun J H1 => ∀ D, H1 D = none → ∃ (κ : SKind P w) (Wt : Nat → Nat → Hp → Prop), (∃ m, Wt 0 m (upd H1 D (κ.so D κ.e0))) ∧ ∀ i m H, Wt i m H →
  (J.stop i H ∧ Q (.ref D) H) ∨ (J.go i H ∧ ∃ Nx : Hp → Prop, (∀ H', Nx H' → ∃ m', m' < m ∧ Wt (i + 1) m' H') ∧ ∀ x H', J.yld i H x H' → g x (wipe σ vs) H' fun σ2 H2 => wipe σ2 vs = wipe σ vs ∧ tt σ2 H2 fun b H3 =>
    if b = true then te σ2 H3 fun y H4 => ∃ t i, H4 D = some (κ.so D t) ∧ (∀ (X : Cx) (pins : List (Addr × Obj)) (σ : L2.St) (s : Shared) (z : Value), X.prog = P → X.w = w → X.K = K → Inv X pins σ H4 s → RelV y z → κ.pre s.heap t z i ∧ ∀ t', κ.nxt t z i t' → Nx (upd H4 D (κ.so D t'))) else Nx H3)
section
variable {X : Cx}
theorem scG_run {pins : List (Addr × Obj)} {s : Shared} {σ : L2.St} {H : Hp} {Q : VK} {elt tg iter : Expr} {ifs : List Expr} {scope : Scope} {own : List (Str × Nat)} {pos pos' : Pos} {wi : TI} {g : TG} {tt : TT} {te : TE} {use : Option (Value → Sem Unit)} {Qf : Value → Shared → Prop}
    (hc : X.calm = true) (hu : X.A.units + 65 < cLine) (hN : X.N.Nodup) (I : Inv X pins σ H s) (hi : PI X tg iter wi) (ok : BlkOk X.N X.env.scope scope own)
    (hg : ∀ (s : Shared) (H : Hp) (C : Addr) (cl : List (Str × Addr)) (fp : List Addr), PG (X.blk s H scope (compEnvC scope cl C X.env) fp) tg g)
    (ht : ∀ (s : Shared) (H : Hp) (C : Addr) (cl : List (Str × Addr)) (fp : List Addr), PTs (X.blk s H scope (compEnvC scope cl C X.env) fp) ifs tt)
    (he : ∀ (s : Shared) (H : Hp) (C : Addr) (cl : List (Str × Addr)) (fp : List Addr), PE (X.blk s H scope (compEnvC scope cl C X.env) fp) elt te) (hs : ∀ x, foldedSetIterable iter X.env x = pure x)
    (h : tScG X.prog X.w X.K wi g tt te (own.map (·.2)) σ H Q)
    (fin : ∀ D C s' m H', Inv X pins σ H' s' → Q (.ref D) H' → s'.heap.Ns C m → FpOk X pins H' C → compPost (model X.prog X.w) X.A X.xe use Qf (.ref D) C (.ok .next) s') :
    wpAny (model X.prog X.w) X.A (comprehension (.SetComp elt [⟨tg, iter, ifs, 0⟩] scope pos) scope X.env pos' (newSet (.type "set")) false (eval iter X.env) use) Qf X.xe s := by
  have free_ : ∀ y ∈ scope.names, y.2 = .free → ∃ c, X.env.cells.lookup y.1 = some c := fun y hy e => (ok.free y hy e).elim (fun k => I.ok.has _ (.inl k)) fun k => I.ok.has _ (.inr k)
  refine wpAny_comprehension_free (use := use) rfl hs (closure_ok free_) ok.kind (fun y hy e => by rw [ok.uniq y hy, e]) (thn (hi.run pins s σ H _ I h) fun xv sA hx => thn hx fun itv sB hB => ?_)
  obtain ⟨it, fp, tn, J, HB, rfl, IB, T, stB, fB, q⟩ := hB
  refine PpSet.newSet_ok (newEnv_comp ?_)
  generalize eD : sB.heap.objs.size = D
  have freeD : HB D = none := IB.hok.fresh (Nat.le_of_eq eD)
  obtain ⟨κ, Wt, ⟨m0, w0⟩, turn⟩ := q D freeD
  generalize eC : ({ sB with heap := sB.heap.push { cls := .type "set", dict := none, data := .set #[] 0 (.fresh 0 0 (!X.w.params.followText "set-order")) } } : Shared) = sC
  have hpC : sC.heap = sB.heap.push (set0 X.w) := by rw [← eC]; rfl
  generalize eHC : upd HB D (κ.so D κ.e0) = HC at w0
  have IC : Inv X pins σ HC sC := by
    rw [← eC, ← eHC]
    exact IB.laid (t' := sB.toks) (fun b o e => Heap.get?_push_of_some _ e) (Nat.le_of_eq eD) (κ.ok (κ.fresh (by rw [← eD]; exact Heap.get?_push_size _ rfl)))
  have low : ∀ b ∈ fp, b < sB.heap.objs.size := fun b hb => let ⟨_, e, _⟩ := T.obj _ _ stB b hb; Heap.lt_size e
  have fC : ∀ b ∈ fp, FpOk X pins HC b ∧ b < sC.heap.objs.size := fun b hb => by
    have l := low b hb
    refine ⟨⟨?_, (fB b hb).2⟩, by rw [hpC, Heap.size_push]; exact Nat.lt_succ_of_lt l⟩
    rw [← eHC, upd_ne (by rw [← eD]; exact Nat.ne_of_lt l)]
    exact (fB b hb).1
  have stC : tn 0 sC.heap := T.keep _ _ _ stB fun b _ o e => by rw [hpC]; exact Heap.get?_push_of_some _ e
  have nC : ∀ b ∈ fp, HC b = none := fun b hb => (fC b hb).1.1
  have ID := block_start IC ok hN fC
  have pg := hg sC HC sC.heap.objs.size (cellsFrom (sC.heap.objs.size + 1) scope.names (cloFrom X.env.cells scope.names [])) fp
  have pt := ht sC HC sC.heap.objs.size (cellsFrom (sC.heap.objs.size + 1) scope.names (cloFrom X.env.cells scope.names [])) fp
  have pe := he sC HC sC.heap.objs.size (cellsFrom (sC.heap.objs.size + 1) scope.names (cloFrom X.env.cells scope.names [])) fp
  show codeAny _ _ (.compStart (.SetComp elt [⟨tg, iter, ifs, 0⟩] scope pos) 0 (.ref it) (.ref D) (compEnvC scope (cellsFrom (sC.heap.objs.size + 1) scope.names (cloFrom X.env.cells scope.names [])) sC.heap.objs.size X.env))
    (compPost (model X.prog X.w) X.A X.xe use Qf (.ref D) sC.heap.objs.size) { sC with heap := pushCells (sC.heap.push { cls := .type "dict", data := .dict #[] }) scope.names }
  generalize ece : compEnvC scope (cellsFrom (sC.heap.objs.size + 1) scope.names (cloFrom X.env.cells scope.names [])) sC.heap.objs.size X.env = ce at ID pg pt pe ⊢
  have ceL : ce.locals = sC.heap.objs.size := by rw [← ece]; rfl
  generalize eDs : ({ sC with heap := pushCells (sC.heap.push { cls := .type "dict", data := .dict #[] }) scope.names } : Shared) = sD at ID ⊢
  have stD : tn 0 sD.heap := T.keep _ _ _ stC fun b _ o e => by rw [← eDs]; exact pushCells_keeps _ _ _ _ (Heap.get?_push_of_some _ e)
  have calmF : ∀ {σ' : L2.St} {H' : Hp} {s' : Shared}, Inv (X.blk sC HC scope ce fp) [] σ' H' s' → (∀ b ∈ fp, H' b = none) → ∀ b ∈ fp, FpOk (X.blk sC HC scope ce fp) [] H' b := fun {σ' H' s'} I' z b hb =>
    ⟨z b hb, (I'.ok.exf b hb).1, I'.ok.exfs b hb, .inl hb, fun x c e => (I'.ok.exf b hb).2 x c e, fun p hp => absurd (show p ∈ ([] : List (Addr × Obj)) ++ [] from hp) (by simp)⟩
  have loop : codeAny (model X.prog X.w) X.A (.compLoop (.SetComp elt [⟨tg, iter, ifs, 0⟩] scope pos) 0 (.ref it) (.ref D) ce) (compPost (model X.prog X.w) X.A X.xe use Qf (.ref D) sC.heap.objs.size) sD := by
    refine PpSet.compLoopS_any (fun n s' => ∃ i H', Inv (X.blk sC HC scope ce fp) [] (wipe σ (own.map (·.2))) H' s' ∧ tn i s'.heap ∧ (∀ b ∈ fp, H' b = none) ∧ Wt i n H') ?_ m0 ⟨0, HC, ID, stD, nC, w0⟩
    rintro n sE ⟨i, HE, IE, stE, nE, wE⟩
    rcases turn i n HE wE with ⟨stop, qq⟩ | ⟨go, Nx, hNx, step⟩
    · refine thnF (T.done (X.blk sC HC scope ce fp) rfl rfl rfl hc i [] sE _ HE (fun _ _ => False) IE (calmF IE nE) stE stop) fun r sF ⟨hr, IF⟩ => ?_
      subst hr
      have IG : Inv X pins σ HE sF := IC.call' (ch := fp) IF.os IF.base IF.hok IF.bare fun b hb => let z := (fC b hb).1; ⟨z.2.2.2.1, z.2.1, z.2.2.2.2.1, z.2.2.2.2.2⟩
      have nL : HE sC.heap.objs.size = none := by rw [← ceL]; exact IF.free
      obtain ⟨m, hn, _⟩ := IF.loc
      have hn' : sF.heap.Ns ce.locals m := hn
      rw [ceL] at hn'
      exact fin D sC.heap.objs.size sF m HE IG qq hn' (IC.fpOk (Nat.le_refl _) nL)
    · refine thnF (T.item (X.blk sC HC scope ce fp) rfl rfl rfl hc i [] sE _ HE (fun _ _ => False) IE (calmF IE nE) stE go) fun r sF ⟨u, hr, hF⟩ => ?_
      subst hr
      refine thnF hF fun _ sG ⟨x, HG, IG, rG, yG, stG, nG⟩ => ?_
      have IGp := IG.pinned (calmF IG nG) (T.obj _ _ stG)
      refine thnF (pg.run _ sG _ HG x u _ IGp rG (step x HG yG)) fun _ sK ⟨σK, HK, IK, wK, qK⟩ => ?_
      refine thnF (pt.run _ sK σK HK _ IK qK) fun b sM ⟨HM, IM, qM⟩ => ?_
      have next : ∀ {s' : Shared} {H' : Hp}, Inv (X.blk sC HC scope ce fp) ([] ++ pinsAt fp sG.heap) σK H' s' → Nx H' → ∃ m, m < n ∧ ∃ i H', Inv (X.blk sC HC scope ce fp) [] (wipe σ (own.map (·.2))) H' s' ∧ tn i s'.heap ∧ (∀ b ∈ fp, H' b = none) ∧ Wt i m H' := fun {s' H'} I' nx => by
        obtain ⟨m', hm, w'⟩ := hNx H' nx
        have held : ∀ b ∈ fp, ∀ o, sG.heap.get? b = some o → s'.heap.get? b = some o ∧ H' b = none := fun b hb o e => let z := I'.pin (b, o) (List.mem_append_right _ (List.mem_append_right _ (mem_pinsAt hb e))); ⟨z.1, z.2.1⟩
        refine ⟨m', hm, i + 1, H', (I'.unpinned (pins := [])).weak (by rw [← wK, wipe_length]) (fun j v e => ?_), T.keep _ _ _ stG fun b hb o e => (held b hb o e).1, fun b hb => ?_, w'⟩
        · rw [← wK] at e; exact (wipe_some e).1
        · obtain ⟨o, e, _⟩ := T.obj _ _ stG b hb
          exact (held b hb o e).2
      cases b with
      | false => exact next IM (by simpa using qM)
      | true =>
        rw [if_pos rfl] at qM ⊢
        refine thnF (pe.run _ sM σK HM _ IM qM) fun z sN ⟨yv, HN, IN, rN, t, ii, hDN, hadd⟩ => ?_
        obtain ⟨hpre, hnx⟩ := hadd (X.blk sC HC scope ce fp) _ σK sN z rfl rfl rfl IN rN
        refine κ.call hu (show κ.hp sN.heap D t from (IN.hok D _ hDN).1) hpre fun h2 tk t' sb hn nx => ?_
        exact next (IN.write (e := D) (t' := tk) (by rw [hDN]; exact κ.mu) (.inl rfl) (fun b u hb hu => (sb.2 b hb).trans hu) (κ.obj hn) (κ.ok hn)) (hnx t' nx)
  exact PpSet.codeAny_compStart_set loop (T.self X.A 0 _ _ _ stD loop)
theorem pe_scG {elt tg iter : Expr} {ifs : List Expr} {scope : Scope} {own : List (Str × Nat)} {pos : Pos} {wi : TI} {g : TG} {tt : TT} {te : TE} (hc : X.calm = true) (hu : X.A.units + 65 < cLine) (hN : X.N.Nodup) (hi : PI X tg iter wi) (ok : BlkOk X.N X.env.scope scope own)
    (hg : ∀ (s : Shared) (H : Hp) (C : Addr) (cl : List (Str × Addr)) (fp : List Addr), PG (X.blk s H scope (compEnvC scope cl C X.env) fp) tg g)
    (ht : ∀ (s : Shared) (H : Hp) (C : Addr) (cl : List (Str × Addr)) (fp : List Addr), PTs (X.blk s H scope (compEnvC scope cl C X.env) fp) ifs tt)
    (he : ∀ (s : Shared) (H : Hp) (C : Addr) (cl : List (Str × Addr)) (fp : List Addr), PE (X.blk s H scope (compEnvC scope cl C X.env) fp) elt te) (hs : ∀ x, foldedSetIterable iter X.env x = pure x) :
    PE X (.SetComp elt [⟨tg, iter, ifs, 0⟩] scope pos) (tScG X.prog X.w X.K wi g tt te (own.map (·.2))) := by
  refine ⟨fun pins s σ H Q I h => ?_⟩
  rw [PpSet.eval_SetComp]
  refine scG_run hc hu hN I hi ok hg ht he hs h fun D C s' m H' I' q hn ⟨f0, f1, f2, f3, f4, f5⟩ => ⟨m, hn, fun h2 sb => ?_⟩
  exact ⟨.ref D, H', I'.turned (t' := s'.toks) (fun b o hb e => (sb.2 b hb).trans e) f0 f1 f3 f4 f5, rfl, q⟩
end
/-! ### the kinds -/
section
variable (P : Program) (w : World)
/-- of texts -/
def kindK : SKind P w where
  T := (Key → Bool) × Nat
  I := Key
  hp := fun h a t => h.SetOf (mixKind P w) a t.1 t.2
  e0 := (fun _ => false, 0)
  keep := fun x k => setOf_at x k
  obj := fun x => let ⟨o, _, _, _, ho, _⟩ := x; ⟨o, ho⟩
  fresh := fun e => ⟨_, #[], 0, _, e, ⟨rfl, rfl, rfl⟩, rfl, (fun e he => by simp at he), (fun k => by simp), (by decide), (by rfl), rfl⟩
  pre := fun _ t z k => (mixKind P w).is k z = true ∧ z.scannable = true ∧ t.2 + 1 < scanBound
  nxt := fun t _ k t' => t' = (fun j => t.1 j || decide (j = k), if t.1 k = true then t.2 else t.2 + 1)
  put := fun {A s D t z k Q E} hu h hp hQ => by
    unfold setAdd
    refine wpAny_holding ?_
    refine wpAny_bind ((mixKind P w).pyHash hp.1 ?_)
    exact wpAny_setAddHashed_of (s := { s with toks := s.toks + 1 }) hp.1 hp.2.1 h hp.2.2 fun h' sb h2 => hQ h' _ (s.toks + 1) _ sb h2 rfl (Nat.le_succ _)
  ty := fun x => x.typeIs
/-- of numbers -/
def kindO : SKind P w where
  T := (Int → Bool) × Nat
  I := Int
  hp := fun h a t => SetR w h a t.1 t.2
  e0 := (fun _ => false, 0)
  keep := fun x k => SetR.at x k
  obj := fun x => let ⟨o, _, _, _, ho, _⟩ := x; ⟨o, ho⟩
  fresh := fun e => (setR_new_at (ns := []) e).congr fun j => by simp
  pre := fun _ t z k => (∃ tk, z = .int k tk) ∧ t.2 + 1 < scanBound
  nxt := fun t _ k t' => t' = (fun j => t.1 j || decide (j = k), if t.1 k = true then t.2 else t.2 + 1)
  put := fun {A s D t z k Q E} hu h hp hQ => by
    obtain ⟨⟨tk, rfl⟩, room⟩ := hp
    unfold setAdd
    refine wpAny_holding ?_
    refine wpAny_bind ((intKind P w).pyHash (k := k) (intKind_is _ _ _ _) ?_)
    exact setR_add_hashed (s := { s with toks := s.toks + 1 }) h room fun h' sb h2 => hQ h' _ (s.toks + 1) _ sb h2 rfl (Nat.le_succ _)
  ty := fun x => let ⟨o, _, _, _, ho, hx, _⟩ := x; ⟨o, ho, hx.1⟩
/-- of tuples of numbers -/
def kindT : SKind P w where
  T := List (Addr × List Int)
  I := Addr × List Int
  hp := fun h a t => SetT0 P w h a t
  e0 := []
  keep := fun x k => by
    have ⟨es, ep, t, ⟨o, ho, r⟩, q⟩ := SetT0.ex x
    exact ⟨es, ep, t, ⟨o, k o ho, r⟩, q⟩
  obj := fun x => let ⟨_, _, _, ⟨o, ho, _⟩, _⟩ := x.ex; ⟨o, ho⟩
  fresh := fun e => (setTR_fresh (P := P) e).t0
  pre := fun h t z k => z = .ref k.1 ∧ IsT P w h k.2 k.1 ∧ (∀ p ∈ t, IsT P w h p.2 p.1) ∧ t.length + 1 < 64
  nxt := fun t _ k t' => (k.2 ∈ t.map (·.2) → t' = t) ∧ (k.2 ∉ t.map (·.2) → t'.Perm (k :: t))
  put := fun {A s D t z k Q E} hu h hp hQ => by
    obtain ⟨rfl, hk, hall, hfew⟩ := hp
    obtain ⟨es, ep, tt, R⟩ := h.full hall
    unfold setAdd
    refine wpAny_holding ?_
    refine wpAny_bind (wpAny_pyHash_tuple (by omega) hk ?_)
    exact add_at (s := { s with toks := s.toks + (k.2.length + 1) }) R hk (by omega) hfew fun b h' L' es' ep' t' sb R' c1 c2 => hQ h' b (s.toks + (k.2.length + 1)) L' sb R'.t0 ⟨c1, c2⟩ (Nat.le_add_right _ _)
  ty := fun x => let ⟨_, _, _, ⟨o, ho, hx, _⟩, _⟩ := x.ex; ⟨o, ho, hx.1⟩
end
end TL
end

section
set_option maxRecDepth 100000
set_option maxHeartbeats 3200000
set_option autoImplicit false
/-! TL: set(l). -/
namespace TL
open PySem PySem.Spec PyProof.Rows L2
section
variable {P : Program} {w : World} {A : Around} {E : Value → Shared → Prop} {s : Shared}
theorem set_loop (κ : SKind P w) {I : Addr} {fp wr : List Addr} {G : Array GenState → Array GenState → Prop} {n : Nat} {Pv : Nat → Value → Prop} {St : Nat → Shared → Prop} {R : Result → Shared → Prop}
    (W : WalksS P w A.in1 I fp wr G n Pv St) (D : Addr) (hD : D ∉ fp) (hu : A.in1.units + 1 < cLine) (h0 : Heap) (hD0 : h0.get? D = none) (hw0 : ∀ b ∈ wr, h0.get? b = none) (rel : Nat → κ.T → Prop)
    (step : ∀ i v t (h : Heap), i < n → Pv i v → rel i t → (∀ b o, h0.get? b = some o → h.get? b = some o) → ∃ ii, κ.pre h t v ii ∧ ∀ t', κ.nxt t v ii t' → rel (i + 1) t') :
    ∀ (k i : Nat) (s : Shared), n - i = k → i ≤ n → St i s → (∀ b o, h0.get? b = some o → s.heap.get? b = some o) → (∃ t, κ.hp s.heap D t ∧ rel i t) →
      (∀ s' t, Moved (D :: wr) G s s' → κ.hp s'.heap D t → rel n t → (∀ b o, h0.get? b = some o → s'.heap.get? b = some o) → R (.ok (.ret .none)) s') →
      codeAny (model P w) A (.builtin "set.update.loop" ⟨[.ref D, .ref I], []⟩) R s := by
  have nw : D ∉ wr := fun z => hD (W.sub _ z)
  have wide : ∀ b ∈ wr, b ∈ D :: wr := fun b hb => List.mem_cons_of_mem _ hb
  have held : ∀ {s s' : Shared}, Moved wr G s s' → (∀ b o, h0.get? b = some o → s.heap.get? b = some o) → ∀ b o, h0.get? b = some o → s'.heap.get? b = some o := fun mv kp b o e =>
    mv.heap b o (fun hb => by rw [hw0 b hb] at e; cases e) (kp b o e)
  intro k
  induction k with
  | zero =>
    intro i s ek hi st kp ⟨t, ht, rt⟩ hR
    obtain rfl : i = n := by omega
    refine codeAny_builtin F.entry_set_update_loop ?_
    rw [Around.under_plainId F.plain_set_update_loop _]
    show wpAny _ A.in1 (pyNext (.ref I) >>= _) _ _ s
    refine wpAny_bind (W.done s _ _ st fun s' mv => ?_)
    show wpAny _ A.in1 (ret Value.none) _ _ s'
    exact wpAny_pure (hR s' t (mv.mono wide) (κ.keep ht fun o e => mv.heap D o nw e) rt (held mv kp))
  | succ k ih =>
    intro i s ek hi st kp ⟨t, ht, rt⟩ hR
    have lt : i < n := by omega
    refine codeAny_builtin F.entry_set_update_loop ?_
    rw [Around.under_plainId F.plain_set_update_loop _]
    show wpAny _ A.in1 (pyNext (.ref I) >>= _) _ _ s
    refine wpAny_bind (W.item i s _ _ lt st fun v s' pv st' mv => ?_)
    have kp' := held mv kp
    obtain ⟨ii, hpre, hnx⟩ := step i v t s'.heap lt pv rt kp'
    show wpAny _ A.in1 (holding [v] (setAdd D v) >>= _) _ _ s'
    refine wpAny_bind (wpAny_holding ?_)
    refine κ.put hu (κ.keep ht fun o e => mv.heap D o nw e) hpre fun h' b tk t' sb ht' nx htk => ?_
    have kp2 : ∀ b o, h0.get? b = some o → h'.get? b = some o := fun b o e => (sb.2 b (fun z => by rw [z, hD0] at e; cases e)).trans (kp' b o e)
    refine wpAny_pure ⟨plainId_quiet F.plain_set_update_loop _, ih (i + 1) _ (by omega) lt (W.frame _ s' _ _ st' htk fun b hb o e => ?_) kp2 ⟨t', ht', hnx t' nx⟩ fun s'' t2 mv2 ht2 r2 kp3 => ?_⟩
    · rw [sb.2 b (fun z : b = D => hD (by rw [← z]; exact hb))]; exact e
    · refine hR s'' t2 (Moved.trans W.gtrans ((mv.mono wide).then_heap htk fun b o hb e => ?_) mv2) ht2 r2 kp3
      rw [sb.2 b (fun z : b = D => hb (by rw [z]; exact List.mem_cons_self))]; exact e

theorem call_set_list (κ : SKind P w) {l : Addr} {items : Array Value} {Q : Value → Shared → Prop} (hh : A.handled = none) (hu : A.units + 65 < cLine) (hl : s.heap.IsList l items) (rel : Nat → κ.T → Prop) (r0 : rel 0 κ.e0)
    (step : ∀ i v t (h : Heap), i < items.size → items[i]? = some v → rel i t → (∀ b o, s.heap.get? b = some o → h.get? b = some o) → ∃ ii, κ.pre h t v ii ∧ ∀ t', κ.nxt t v ii t' → rel (i + 1) t')
    (hQ : ∀ (h' : Heap) (tk : Nat) (t : κ.T), κ.hp h' s.heap.objs.size t → rel items.size t → (∀ b o, s.heap.get? b = some o → h'.get? b = some o) → Q (.ref s.heap.objs.size) { s with heap := h', toks := tk }) :
    wpAny (model P w) A (call (.type "set") [.ref l]) Q E s := by
  obtain ⟨c, tl, hmro⟩ := F.called_set.mro
  have hmade := F.called_set.made
  have hsub := F.called_set.sub
  refine wpAny_call (codeAny_of_tree ?_)
  show wpAny _ _ (callAny (.type "set") _) _ _ _
  refine wpAny_pure ⟨Code.quiet_builtin _ (by decide +kernel), codeAny_builtin F.entry_type_call ?_⟩
  rw [Around.under_plain (weight_type_call_type "set" [.ref l] []) rfl]
  have h1 := F.called_set.notType
  have h2 := F.called_set.canCreate
  have hct := F.typeCall_set_1 (.ref l)
  repeat (any_goals (first | assumption | wp_step))
  refine codeAny_mono (code_set_led1 (.ref l) (E := E) (Q₁ := fun obj s₁ => obj = .ref s.heap.objs.size ∧ s₁ = { s with heap := s.heap.push (set0 w) }) ⟨rfl, rfl⟩) fun r s₁ hr => ?_
  cases r with
  | error e => exact hr
  | ok fl =>
    cases fl with
    | ret obj =>
      obtain ⟨rfl, rfl⟩ := hr
      have gS : (s.heap.push (set0 w)).get? s.heap.objs.size = some (set0 w) := Heap.get?_push_size _ rfl
      have hT : Shared.TypeIs { s with heap := s.heap.push (set0 w) } (.ref s.heap.objs.size) "set" := ⟨_, gS, rfl⟩
      have hli := F.called_set.init.lookup
      have hbi := F.called_set.init.bind (.ref s.heap.objs.size)
      repeat (any_goals (first | assumption | wp_step))
      refine codeAny_mono (codeAny_call_builtin (R := wants (fun r s₂ => r = .none ∧ ∃ h' tk t, s₂ = { s with heap := h', toks := tk } ∧ κ.hp h' s.heap.objs.size t ∧ rel items.size t ∧ (∀ b o, s.heap.get? b = some o → h'.get? b = some o)) E)
        F.called_set.init.plain F.entry_set_init (check_set_init_1 hT ?_)) fun r₂ s₂ hr₂ => ?_
      · have lS : l < s.heap.objs.size := let ⟨_, e, _⟩ := id hl; Heap.lt_size e
        obtain ⟨⟨ocls, odict, odata, oslots⟩, hol, hcl, nl, hdl⟩ := id hl
        simp only at hcl hdl
        subst hcl; subst hdl
        have hol' : (s.heap.push (set0 w)).get? l = some { cls := .type "list", dict := odict, data := .seq items nl, slots := oslots } := Heap.get?_push_of_some _ hol
        have hsls := F.sub_list_set
        have hslf := F.sub_list_frozenset
        have hne : (Value.type "list" == Value.type "dict") = false := by decide
        have hl1 : (s.heap.push (set0 w)).IsList l items := ⟨_, hol', rfl, nl, rfl⟩
        unfold Builtin.«set.__init__» noKeywords Builtin.Frozenset.updateFrom
        generalize hPI : pyIter = PI
        wp_walk
        subst hPI
        refine wpAny_pyIter_list hl1 ?_
        refine wpAny_bind (wpAny_runValue ?_)
        have hh3 : A.in1.in1.in1.handled = none := by simp [hh]
        have eI : (s.heap.push (set0 w)).objs.size = s.heap.objs.size + 1 := Heap.size_push ..
        have lI : l ≠ (s.heap.push (set0 w)).objs.size := by rw [eI]; exact Nat.ne_of_lt (Nat.lt_succ_of_lt lS)
        have hSf : s.heap.objs.size ∉ [(s.heap.push (set0 w)).objs.size, l] := by
          rw [eI]; simp only [List.mem_cons, List.mem_singleton, List.not_mem_nil, or_false, not_or]
          exact ⟨Nat.ne_of_lt (Nat.lt_succ_self _), Nat.ne_of_gt lS⟩
        have beyond : ∀ b, s.heap.objs.size ≤ b → s.heap.get? b = none := fun b hb => by
          cases e : s.heap.get? b with
          | none => rfl
          | some o => exact absurd (Heap.lt_size e) (Nat.not_lt.mpr hb)
        refine set_loop κ ((Walks.list hh3 _ l lI items).toS) s.heap.objs.size hSf (by show A.units + 1 + 1 + 1 + 1 < cLine; omega) s.heap (beyond _ (Nat.le_refl _)) (fun b hb => beyond b ?_) rel step (items.size - 0) 0 _ (by omega) (Nat.zero_le _) ⟨⟨_, Heap.get?_push_size _ rfl, rfl, rfl⟩, (hl1.push _)⟩ ?hK ?hS ?hR
        case hK => exact fun b o e => Heap.get?_push_of_some _ (Heap.get?_push_of_some _ e)
        case hS => exact ⟨κ.e0, κ.fresh (Heap.get?_push_of_some _ gS), r0⟩
        case hR =>
          intro s' t mv ht rt kp
          obtain ⟨h', g2, d', tk', os'⟩ := s'
          have eg : g2 = s.gens := mv.gens
          have ed : d' = s.drawn := mv.drawn
          have eo : os' = s.os := mv.os
          subst eg; subst ed; subst eo
          show wpAny _ _ _ _ _ _
          refine wpAny_pure ?_
          show wpAny _ _ (ret Value.none) _ _ _
          exact wpAny_pure ⟨rfl, h', tk', t, rfl, ht, rt, kp⟩
        · rw [List.mem_singleton.mp hb, eI]; exact Nat.le_succ _
      · cases r₂ with
        | error e => exact hr₂
        | ok fl₂ =>
          cases fl₂ with
          | ret r =>
            obtain ⟨rfl, h', tk, t, rfl, ht, rt, kp⟩ := hr₂
            repeat (any_goals (first | assumption | wp_step))
            exact hQ _ _ _ ht rt kp
          | _ => exact hr₂.elim
    | _ => exact hr.elim

theorem call_set_tuple (κ : SKind P w) {l : Addr} {items : Array Value} {Q : Value → Shared → Prop} (hh : A.handled = none) (hu : A.units + 65 < cLine) (hl : s.heap.IsTuple l items) (rel : Nat → κ.T → Prop) (r0 : rel 0 κ.e0)
    (step : ∀ i v t (h : Heap), i < items.size → items[i]? = some v → rel i t → (∀ b o, s.heap.get? b = some o → h.get? b = some o) → ∃ ii, κ.pre h t v ii ∧ ∀ t', κ.nxt t v ii t' → rel (i + 1) t')
    (hQ : ∀ (h' : Heap) (tk : Nat) (t : κ.T), κ.hp h' s.heap.objs.size t → rel items.size t → (∀ b o, s.heap.get? b = some o → h'.get? b = some o) → Q (.ref s.heap.objs.size) { s with heap := h', toks := tk }) :
    wpAny (model P w) A (call (.type "set") [.ref l]) Q E s := by
  obtain ⟨c, tl, hmro⟩ := F.called_set.mro
  have hmade := F.called_set.made
  have hsub := F.called_set.sub
  refine wpAny_call (codeAny_of_tree ?_)
  show wpAny _ _ (callAny (.type "set") _) _ _ _
  refine wpAny_pure ⟨Code.quiet_builtin _ (by decide +kernel), codeAny_builtin F.entry_type_call ?_⟩
  rw [Around.under_plain (weight_type_call_type "set" [.ref l] []) rfl]
  have h1 := F.called_set.notType
  have h2 := F.called_set.canCreate
  have hct := F.typeCall_set_1 (.ref l)
  repeat (any_goals (first | assumption | wp_step))
  refine codeAny_mono (code_set_led1 (.ref l) (E := E) (Q₁ := fun obj s₁ => obj = .ref s.heap.objs.size ∧ s₁ = { s with heap := s.heap.push (set0 w) }) ⟨rfl, rfl⟩) fun r s₁ hr => ?_
  cases r with
  | error e => exact hr
  | ok fl =>
    cases fl with
    | ret obj =>
      obtain ⟨rfl, rfl⟩ := hr
      have gS : (s.heap.push (set0 w)).get? s.heap.objs.size = some (set0 w) := Heap.get?_push_size _ rfl
      have hT : Shared.TypeIs { s with heap := s.heap.push (set0 w) } (.ref s.heap.objs.size) "set" := ⟨_, gS, rfl⟩
      have hli := F.called_set.init.lookup
      have hbi := F.called_set.init.bind (.ref s.heap.objs.size)
      repeat (any_goals (first | assumption | wp_step))
      refine codeAny_mono (codeAny_call_builtin (R := wants (fun r s₂ => r = .none ∧ ∃ h' tk t, s₂ = { s with heap := h', toks := tk } ∧ κ.hp h' s.heap.objs.size t ∧ rel items.size t ∧ (∀ b o, s.heap.get? b = some o → h'.get? b = some o)) E)
        F.called_set.init.plain F.entry_set_init (check_set_init_1 hT ?_)) fun r₂ s₂ hr₂ => ?_
      · have lS : l < s.heap.objs.size := let ⟨_, e, _⟩ := id hl; Heap.lt_size e
        obtain ⟨⟨ocls, odict, odata, oslots⟩, hol, hcl, nl, hdl⟩ := id hl
        simp only at hcl hdl
        subst hcl; subst hdl
        have hol' : (s.heap.push (set0 w)).get? l = some { cls := .type "tuple", dict := odict, data := .seq items nl, slots := oslots } := Heap.get?_push_of_some _ hol
        have hsls := F.sub_tuple_set
        have hslf := F.sub_tuple_frozenset
        have hne : (Value.type "tuple" == Value.type "dict") = false := by decide
        have hl1 : (s.heap.push (set0 w)).IsTuple l items := ⟨_, hol', rfl, nl, rfl⟩
        unfold Builtin.«set.__init__» noKeywords Builtin.Frozenset.updateFrom
        generalize hPI : pyIter = PI
        wp_walk
        subst hPI
        refine wpAny_pyIter_tuple hl1 ?_
        refine wpAny_bind (wpAny_runValue ?_)
        have hh3 : A.in1.in1.in1.handled = none := by simp [hh]
        have eI : (s.heap.push (set0 w)).objs.size = s.heap.objs.size + 1 := Heap.size_push ..
        have lI : l ≠ (s.heap.push (set0 w)).objs.size := by rw [eI]; exact Nat.ne_of_lt (Nat.lt_succ_of_lt lS)
        have hSf : s.heap.objs.size ∉ [(s.heap.push (set0 w)).objs.size, l] := by
          rw [eI]; simp only [List.mem_cons, List.mem_singleton, List.not_mem_nil, or_false, not_or]
          exact ⟨Nat.ne_of_lt (Nat.lt_succ_self _), Nat.ne_of_gt lS⟩
        have beyond : ∀ b, s.heap.objs.size ≤ b → s.heap.get? b = none := fun b hb => by
          cases e : s.heap.get? b with
          | none => rfl
          | some o => exact absurd (Heap.lt_size e) (Nat.not_lt.mpr hb)
        refine set_loop κ ((Walks.tuple hh3 _ l lI items).toS) s.heap.objs.size hSf (by show A.units + 1 + 1 + 1 + 1 < cLine; omega) s.heap (beyond _ (Nat.le_refl _)) (fun b hb => beyond b ?_) rel step (items.size - 0) 0 _ (by omega) (Nat.zero_le _) ⟨⟨_, Heap.get?_push_size _ rfl, rfl, rfl⟩, (hl1.push _)⟩ ?hK ?hS ?hR
        case hK => exact fun b o e => Heap.get?_push_of_some _ (Heap.get?_push_of_some _ e)
        case hS => exact ⟨κ.e0, κ.fresh (Heap.get?_push_of_some _ gS), r0⟩
        case hR =>
          intro s' t mv ht rt kp
          obtain ⟨h', g2, d', tk', os'⟩ := s'
          have eg : g2 = s.gens := mv.gens
          have ed : d' = s.drawn := mv.drawn
          have eo : os' = s.os := mv.os
          subst eg; subst ed; subst eo
          show wpAny _ _ _ _ _ _
          refine wpAny_pure ?_
          show wpAny _ _ (ret Value.none) _ _ _
          exact wpAny_pure ⟨rfl, h', tk', t, rfl, ht, rt, kp⟩
        · rw [List.mem_singleton.mp hb, eI]; exact Nat.le_succ _
      · cases r₂ with
        | error e => exact hr₂
        | ok fl₂ =>
          cases fl₂ with
          | ret r =>
            obtain ⟨rfl, h', tk, t, rfl, ht, rt, kp⟩ := hr₂
            repeat (any_goals (first | assumption | wp_step))
            exact hQ _ _ _ ht rt kp
          | _ => exact hr₂.elim
    | _ => exact hr.elim

end
end TL
end

section
set_option maxRecDepth 100000
set_option maxHeartbeats 1000000
set_option autoImplicit false
/-! TL: how the trees' values and stores lie in the model's heap. -/
namespace TL
open PySem PySem.Spec PyProof.Rows L2

/-- what ties the trees' numbers to the text: the written part, the names of fields and methods, where the classes stand; the places that are never written -/
structure Lk where
  K : PySem.W.Frag
  nm : Nat → Str
  cl : Nat → Addr
  cs : List Nat
  F : List Nat
  fa : Nat → Addr
  fd : Nat → FuncData
  ps : Nat → List Str
  en : Nat → Nat
  inj : ∀ i j, nm i = nm j → i = j
  P : Program
  w : World
  dy : List (Nat × Addr × HO)
  sl : List (Nat × V)
  xc : List (Xc × Addr)

/-- a key of a set or dict, as a value -/
def keyV : Key → PV
  | .inl i => .int i
  | .inr x => .str x.cps.toList
/-- the very object that stands there (a dict) -/
def dO (a : Addr) (o : Obj) : HO := .ext fun h => h.get? a = some o
mutual
/-- a nested key, as a value -/
def nkV : NestedKey → PV
  | .none => .non
  | .num i => .int i
  | .text x => .str x.cps.toList
  | .tup ks => .tup (nkVs ks)
def nkVs : List NestedKey → List PV
  | [] => []
  | k :: ks => nkV k :: nkVs ks
end
/-- a set: of texts, of numbers, of tuples of numbers -/
def SetS (L : Lk) (H : Hp) (a : Addr) (xs : List PV) : Prop :=
  (∃ t : (Key → Bool) × Nat, H a = some ((kindK L.P L.w).so a t) ∧ t.2 = xs.length ∧ (∀ k, t.1 k = true ↔ keyV k ∈ xs) ∧ ∀ x ∈ xs, ∃ s, x = .str s) ∨
  (∃ (t : (Int → Bool) × Nat) (ns : List Int), H a = some ((kindO L.P L.w).so a t) ∧ t.2 = xs.length ∧ xs = ns.map .int ∧ ns.Nodup ∧ ∀ k, t.1 k = true ↔ k ∈ ns) ∨
  ∃ T : List (Addr × List Int), H a = some ((kindT L.P L.w).so a T) ∧ xs.Perm (T.map fun p => .tup (p.2.map .int)) ∧ ∀ p ∈ T, SqT L.K H p.1 (p.2.map V.int)
section
variable (L : Lk) (φ : List Addr) (H : Hp)
mutual
/-- a value stands for a value of the abstract heap -/
def VR : PV → V → Prop
  | .non, v => v = .non
  | .bl b, v => v = .bl b
  | .int i, v => v = .int i
  | .str s, v => v = .str ⟨s.toArray⟩
  | .tup xs, v => ∃ (a : Addr) (vs : List V), v = .ref a ∧ SqT L.K H a vs ∧ VRs xs vs
  | .ref r, v => ∃ a : Addr, v = .ref a ∧ φ[r]? = some a
def VRs : List PV → List V → Prop
  | [], vs => vs = []
  | x :: xs, vs => ∃ v r, vs = v :: r ∧ VR x v ∧ VRs xs r
end
/-- fields: as many, by their names, in their order -/
def FR : List (Nat × PV) → List (Str × V) → Prop
  | [], gs => gs = []
  | (f, x) :: fs, gs => ∃ v r, gs = (L.nm f, v) :: r ∧ VR L φ H x v ∧ FR fs r
/-- an entry whose key is a number or a text -/
def EL (p : PV × PV) (q : Key × Value) : Prop := p.1 = keyV q.1 ∧ ∃ v, VR L φ H p.2 v ∧ RelV v q.2
/-- an entry whose key is a tuple -/
def EN (p : PV × PV) (q : NestedKey × Addr × Value) : Prop := (p.1 = nkV q.1 ∧ isT p.1 = true ∧ q.1.depth ≤ 8 ∧ VR L φ H p.1 (.ref q.2.1)) ∧ ∃ v, VR L φ H p.2 v ∧ RelV v q.2.2
/-- a dict's object by its entries -/
def DR (o : Obj) (kvs : List (PV × PV)) : Prop := kvs.length ≤ lineN ∧ ((∃ vs, o.IsDictOf (mixKind L.P L.w) vs ∧ Paired (EL L φ H) kvs vs) ∨
  ∃ xs es ep, o.data = .dict es ep ∧ es.toList = xs.map (entryOfKey (nestedKind L.P L.w)) ∧ (xs.map (·.1)).Nodup ∧ Paired (EN L φ H) kvs xs)
/-- an object at a place of the store, at an address -/
def OR (i : Nat) (a : Addr) : Ob → Prop
  | .list xs => ∃ vs, VRs L φ H xs vs ∧ SqL L.K H a vs ∧ (H a).isSome = true ∧ (i ∉ L.F → H a = some (.lst vs))
  | .dict kvs => ∃ o, H a = some (dO a o) ∧ (a == sysModules) = false ∧ o.ExactDict ∧ DR L φ H o kvs
  | .set xs => SetS L H a xs
  | .inst c fs => ∃ dx gs, H a = some (.ins (L.cl c) dx gs) ∧ FR L φ H fs gs ∧ c ∈ L.cs
end
/-- the store stands in the abstract heap -/
structure Rl (L : Lk) (φ : List Addr) (st : Sto) (H : Hp) : Prop where
  len : φ.length = st.objs.length
  nd : φ.Nodup
  ob : ∀ i o a, st.objs[i]? = some o → φ[i]? = some a → OR L φ H i a o
  fr : ∀ i ∈ L.F, i ∈ st.lk ∧ i < φ.length
  fx : ∀ p ∈ L.dy, p.1 ∈ st.lk ∧ φ[p.1]? = some p.2.1 ∧ H p.2.1 = some p.2.2
/-- what stays from one heap to the next -/
structure Kept (H H' : Hp) : Prop where
  tup : ∀ a xs, H a = some (.tup xs) → H' a = some (.tup xs)
  frz : ∀ a o u, H a = some (.frz o u) → H' a = some (.frz o u)
theorem Kept.refl {H : Hp} : Kept H H := ⟨fun _ _ h => h, fun _ _ _ h => h⟩
theorem Kept.trans {H H1 H2 : Hp} (a : Kept H H1) (b : Kept H1 H2) : Kept H H2 := ⟨fun x xs h => b.tup x xs (a.tup x xs h), fun x o u h => b.frz x o u (a.frz x o u h)⟩
theorem Kept.new {H : Hp} {p : Addr} {o : HO} (h : H p = none) : Kept H (upd H p o) :=
  ⟨fun a xs e => by rw [upd_ne (ne_of_none e h)]; exact e, fun a q u e => by rw [upd_ne (ne_of_none e h)]; exact e⟩
theorem Kept.put {H : Hp} {p : Addr} {u o : HO} (h : H p = some u) (m : Mut (some u)) : Kept H (upd H p o) :=
  ⟨fun a xs e => by rw [upd_ne (fun z => by rw [z, h] at e; cases e; exact m)]; exact e, fun a q w e => by rw [upd_ne (fun z => by rw [z, h] at e; cases e; exact m)]; exact e⟩
theorem Kept.sqT {K : PySem.W.Frag} {H H' : Hp} (k : Kept H H') {a : Addr} {xs : List V} (h : SqT K H a xs) : SqT K H' a xs := by
  rcases h with (h | ⟨o, h⟩) | h
  · exact .inl (.inl (k.tup a xs h))
  · exact .inl (.inr ⟨o, k.frz a o _ h⟩)
  · exact .inr h
/-- a step: more objects at most, what stays stays -/
structure Step (φ : List Addr) (H : Hp) (φ' : List Addr) (H' : Hp) : Prop where
  pre : ∀ (r : Nat) (a : Addr), φ[r]? = some a → φ'[r]? = some a
  len : φ.length ≤ φ'.length
  kp : Kept H H'
  out : ∀ a o, a ∉ φ → H a = some o → a ∉ φ' ∧ H' a = some o
/-- the same without what stands beside the store -/
structure StepK (φ : List Addr) (H : Hp) (φ' : List Addr) (H' : Hp) : Prop where
  pre : ∀ (r : Nat) (a : Addr), φ[r]? = some a → φ'[r]? = some a
  len : φ.length ≤ φ'.length
  kp : Kept H H'
theorem Step.k {φ φ' : List Addr} {H H' : Hp} (s : Step φ H φ' H') : StepK φ H φ' H' := ⟨s.pre, s.len, s.kp⟩
theorem StepK.refl {φ : List Addr} {H : Hp} : StepK φ H φ H := ⟨fun _ _ h => h, Nat.le_refl _, .refl⟩
theorem StepK.trans {φ φ1 φ2 : List Addr} {H H1 H2 : Hp} (a : StepK φ H φ1 H1) (b : StepK φ1 H1 φ2 H2) : StepK φ H φ2 H2 := ⟨fun r x h => b.pre r x (a.pre r x h), Nat.le_trans a.len b.len, a.kp.trans b.kp⟩
theorem Step.refl {φ : List Addr} {H : Hp} : Step φ H φ H := ⟨fun _ _ h => h, Nat.le_refl _, .refl, fun _ _ h e => ⟨h, e⟩⟩
theorem Step.trans {φ φ1 φ2 : List Addr} {H H1 H2 : Hp} (a : Step φ H φ1 H1) (b : Step φ1 H1 φ2 H2) : Step φ H φ2 H2 :=
  ⟨fun r x h => b.pre r x (a.pre r x h), Nat.le_trans a.len b.len, a.kp.trans b.kp, fun x o h e => let ⟨h1, e1⟩ := a.out x o h e; b.out x o h1 e1⟩
/-- a new thing beside the store -/
theorem Step.side {φ : List Addr} {H : Hp} {p : Addr} {u : HO} (h : H p = none) : Step φ H φ (upd H p u) := ⟨fun _ _ h => h, Nat.le_refl _, Kept.new h, fun a o n e => ⟨n, by rw [upd_ne (ne_of_none e h)]; exact e⟩⟩
/-- a new thing in the store -/
theorem Step.new {φ : List Addr} {H : Hp} {p : Addr} {u : HO} (h : H p = none) : Step φ H (φ ++ [p]) (upd H p u) :=
  ⟨fun r x h => by rw [List.getElem?_append_left (List.getElem?_eq_some_iff.mp h).1]; exact h, by simp, Kept.new h, fun a o n e => by
    have ne := ne_of_none e h
    exact ⟨fun z => (List.mem_append.mp z).elim n fun z => ne (by simpa using z), by rw [upd_ne ne]; exact e⟩⟩
/-- a thing of the store written -/
theorem Step.put {φ : List Addr} {H : Hp} {p : Addr} {u o : HO} (hm : p ∈ φ) (h : H p = some u) (m : Mut (some u)) : Step φ H φ (upd H p o) :=
  ⟨fun _ _ h => h, Nat.le_refl _, Kept.put h m, fun a q n e => ⟨n, by
    have ne : a ≠ p := fun z => n (by rw [z]; exact hm)
    rw [upd_ne ne]; exact e⟩⟩

section
variable {L : Lk} {φ φ' : List Addr} {H H' : Hp}
mutual
theorem VR.mono0 (pre : ∀ (r : Nat) (a : Addr), φ[r]? = some a → φ'[r]? = some a) (kp : Kept H H') : ∀ (x : PV) (v : V), VR L φ H x v → VR L φ' H' x v
  | .non, _, h => h
  | .bl _, _, h => h
  | .int _, _, h => h
  | .str _, _, h => h
  | .tup xs, v, h => by
    obtain ⟨a, vs, e, hs, hv⟩ := (show ∃ (a : Addr) (vs : List V), v = .ref a ∧ SqT L.K H a vs ∧ VRs L φ H xs vs from h)
    exact ⟨a, vs, e, kp.sqT hs, VRs.mono0 pre kp xs vs hv⟩
  | .ref r, v, h => by
    obtain ⟨a, e, hp⟩ := (show ∃ a : Addr, v = .ref a ∧ φ[r]? = some a from h)
    exact ⟨a, e, pre r a hp⟩
theorem VRs.mono0 (pre : ∀ (r : Nat) (a : Addr), φ[r]? = some a → φ'[r]? = some a) (kp : Kept H H') : ∀ (xs : List PV) (vs : List V), VRs L φ H xs vs → VRs L φ' H' xs vs
  | [], _, h => h
  | x :: xs, vs, h => by
    obtain ⟨v, r, e, h1, h2⟩ := (show ∃ v r, vs = v :: r ∧ VR L φ H x v ∧ VRs L φ H xs r from h)
    exact ⟨v, r, e, VR.mono0 pre kp x v h1, VRs.mono0 pre kp xs r h2⟩
end
theorem VR.mono (s : Step φ H φ' H') (x : PV) (v : V) (h : VR L φ H x v) : VR L φ' H' x v := VR.mono0 s.pre s.kp x v h
theorem VRs.mono (s : Step φ H φ' H') (xs : List PV) (vs : List V) (h : VRs L φ H xs vs) : VRs L φ' H' xs vs := VRs.mono0 s.pre s.kp xs vs h
theorem FR.mono0 (pre : ∀ (r : Nat) (a : Addr), φ[r]? = some a → φ'[r]? = some a) (kp : Kept H H') : ∀ (fs : List (Nat × PV)) (gs : List (Str × V)), FR L φ H fs gs → FR L φ' H' fs gs
  | [], _, h => h
  | (f, x) :: fs, gs, h => by
    obtain ⟨v, r, e, h1, h2⟩ := (show ∃ v r, gs = (L.nm f, v) :: r ∧ VR L φ H x v ∧ FR L φ H fs r from h)
    exact ⟨v, r, e, VR.mono0 pre kp x v h1, FR.mono0 pre kp fs r h2⟩
theorem Paired.imp2 {α β : Type} {F G : α → β → Prop} (h : ∀ a b, F a b → G a b) : ∀ {l : List α} {m : List β}, Paired F l m → Paired G l m
  | _, _, .nil => .nil
  | _, _, .cons r t => .cons (h _ _ r) (Paired.imp2 h t)
theorem DR.imp {ψ : List Addr} {H' : Hp} {o : Obj} {kvs : List (PV × PV)} (f : ∀ p ∈ kvs, (∀ v, VR L φ H p.1 v → VR L ψ H' p.1 v) ∧ ∀ v, VR L φ H p.2 v → VR L ψ H' p.2 v) (h : DR L φ H o kvs) : DR L ψ H' o kvs := by
  obtain ⟨hl, h⟩ := h
  refine ⟨hl, ?_⟩
  rcases h with ⟨vs, h1, h2⟩ | ⟨xs, es, ep, h1, h2, h3, h4⟩
  · refine .inl ⟨vs, h1, ?_⟩
    clear h1 hl
    induction h2 with
    | nil => exact .nil
    | @cons p q ps qs hpq t ih =>
      obtain ⟨e, v, g1, g2⟩ := hpq
      exact .cons ⟨e, v, (f p (List.mem_cons_self ..)).2 v g1, g2⟩ (ih fun p hp => f p (List.mem_cons_of_mem _ hp))
  · refine .inr ⟨xs, es, ep, h1, h2, h3, ?_⟩
    clear h1 h2 h3 hl
    induction h4 with
    | nil => exact .nil
    | @cons p q ps qs hpq t ih =>
      obtain ⟨⟨e1, e2, e3, e4⟩, v, g1, g2⟩ := hpq
      exact .cons ⟨⟨e1, e2, e3, (f p (List.mem_cons_self ..)).1 _ e4⟩, v, (f p (List.mem_cons_self ..)).2 v g1, g2⟩ (ih fun p hp => f p (List.mem_cons_of_mem _ hp))
/-- the same for another law with the same program -/
theorem DR.to {L' : Lk} {o : Obj} {kvs : List (PV × PV)} (f : ∀ x v, VR L φ H x v → VR L' φ H x v) (eP : L'.P = L.P) (ew : L'.w = L.w) (h : DR L φ H o kvs) : DR L' φ H o kvs := by
  obtain ⟨hl, h⟩ := h
  refine ⟨hl, ?_⟩
  rw [eP, ew]
  rcases h with ⟨vs, h1, h2⟩ | ⟨xs, es, ep, h1, h2, h3, h4⟩
  · exact .inl ⟨vs, h1, Paired.imp2 (fun p q ⟨e, v, g1, g2⟩ => ⟨e, v, f _ _ g1, g2⟩) h2⟩
  · exact .inr ⟨xs, es, ep, h1, h2, h3, Paired.imp2 (fun p q ⟨⟨e1, e2, e3, e4⟩, v, g1, g2⟩ => ⟨⟨e1, e2, e3, f _ _ e4⟩, v, f _ _ g1, g2⟩) h4⟩
theorem FR.mono (s : Step φ H φ' H') (fs : List (Nat × PV)) (gs : List (Str × V)) (h : FR L φ H fs gs) : FR L φ' H' fs gs := FR.mono0 s.pre s.kp fs gs h
theorem VRs.length : ∀ {xs : List PV} {vs : List V}, VRs L φ H xs vs → vs.length = xs.length
  | [], vs, h => by rw [show vs = ([] : List V) from h]; rfl
  | x :: xs, vs, h => by
    obtain ⟨v, r, e, h1, h2⟩ := (show ∃ v r, vs = v :: r ∧ VR L φ H x v ∧ VRs L φ H xs r from h)
    rw [e, List.length_cons, List.length_cons, VRs.length h2]
theorem VRs.get : ∀ {xs : List PV} {vs : List V} {i : Nat} {x : PV}, VRs L φ H xs vs → xs[i]? = some x → ∃ v, vs[i]? = some v ∧ VR L φ H x v
  | [], _, _, _, _, e => by simp at e
  | x :: xs, vs, i, y, h, e => by
    obtain ⟨v, r, e1, h1, h2⟩ := (show ∃ v r, vs = v :: r ∧ VR L φ H x v ∧ VRs L φ H xs r from h)
    subst e1
    cases i with
    | zero => simp at e; subst e; exact ⟨v, rfl, h1⟩
    | succ i => simpa using VRs.get (i := i) h2 (by simpa using e)
theorem VRs.append : ∀ {xs ys : List PV} {vs ws : List V}, VRs L φ H xs vs → VRs L φ H ys ws → VRs L φ H (xs ++ ys) (vs ++ ws)
  | [], _, _, _, h, q => by rw [show _ = ([] : List V) from h]; exact q
  | x :: xs, _, vs, ws, h, q => by
    obtain ⟨v, r, e, h1, h2⟩ := (show ∃ v r, vs = v :: r ∧ VR L φ H x v ∧ VRs L φ H xs r from h)
    exact ⟨v, r ++ ws, by rw [e]; rfl, h1, VRs.append h2 q⟩
theorem VRs.one {x : PV} {v : V} (h : VR L φ H x v) : VRs L φ H [x] [v] := ⟨v, [], rfl, h, rfl⟩
theorem VRs.take : ∀ {xs : List PV} {vs : List V} (n : Nat), VRs L φ H xs vs → VRs L φ H (xs.take n) (vs.take n)
  | _, _, 0, _ => by simp only [List.take_zero]; exact rfl
  | [], vs, _ + 1, h => by rw [show vs = ([] : List V) from h]; exact rfl
  | x :: xs, vs, n + 1, h => by
    obtain ⟨v, r, e, h1, h2⟩ := (show ∃ v r, vs = v :: r ∧ VR L φ H x v ∧ VRs L φ H xs r from h)
    subst e
    exact ⟨v, r.take n, rfl, h1, VRs.take n h2⟩
theorem VRs.drop : ∀ {xs : List PV} {vs : List V} (n : Nat), VRs L φ H xs vs → VRs L φ H (xs.drop n) (vs.drop n)
  | _, _, 0, h => h
  | [], vs, _ + 1, h => by rw [show vs = ([] : List V) from h]; exact rfl
  | x :: xs, vs, n + 1, h => by
    obtain ⟨v, r, e, h1, h2⟩ := (show ∃ v r, vs = v :: r ∧ VR L φ H x v ∧ VRs L φ H xs r from h)
    subst e
    exact VRs.drop n h2
theorem VRs.rev : ∀ {xs : List PV} {vs : List V}, VRs L φ H xs vs → VRs L φ H xs.reverse vs.reverse
  | [], vs, h => by rw [show vs = ([] : List V) from h]; exact rfl
  | x :: xs, vs, h => by
    obtain ⟨v, r, e, h1, h2⟩ := (show ∃ v r, vs = v :: r ∧ VR L φ H x v ∧ VRs L φ H xs r from h)
    subst e
    rw [List.reverse_cons, List.reverse_cons]
    exact VRs.append (VRs.rev h2) (VRs.one h1)
theorem VRs.set : ∀ {xs : List PV} {vs : List V} (n : Nat) {x : PV} {v : V}, VRs L φ H xs vs → VR L φ H x v → VRs L φ H (xs.set n x) (vs.set n v)
  | [], vs, _, _, _, h, _ => by rw [show vs = ([] : List V) from h]; exact rfl
  | y :: xs, vs, 0, x, v, h, q => by
    obtain ⟨w, r, e, h1, h2⟩ := (show ∃ v r, vs = v :: r ∧ VR L φ H y v ∧ VRs L φ H xs r from h)
    subst e
    exact ⟨v, r, rfl, q, h2⟩
  | y :: xs, vs, n + 1, x, v, h, q => by
    obtain ⟨w, r, e, h1, h2⟩ := (show ∃ v r, vs = v :: r ∧ VR L φ H y v ∧ VRs L φ H xs r from h)
    subst e
    exact ⟨w, r.set n v, rfl, h1, VRs.set n h2 q⟩
theorem FR.length : ∀ {fs : List (Nat × PV)} {gs : List (Str × V)}, FR L φ H fs gs → gs.length = fs.length
  | [], gs, h => by rw [show gs = ([] : List (Str × V)) from h]; rfl
  | (f, x) :: fs, gs, h => by
    obtain ⟨v, r, e, h1, h2⟩ := (show ∃ v r, gs = (L.nm f, v) :: r ∧ VR L φ H x v ∧ FR L φ H fs r from h)
    rw [e, List.length_cons, List.length_cons, FR.length h2]
end

/-! ### names -/
/-- the dict of an exception that is held, beside the store -/
def XDn (L : Lk) (φ : List Addr) (H : Hp) (x : Xc) (dd : Addr) : Prop := dd ∉ φ ∧ ∃ gs, H dd = some (.xd gs) ∧ ∀ f y, lookF x.fs f = some y → ∃ v, gs.lookup (L.nm f) = some v ∧ VR L φ H y v
theorem XDn.mono {L : Lk} {φ φ' : List Addr} {H H' : Hp} {x : Xc} {dd : Addr} (s : Step φ H φ' H') (h : XDn L φ H x dd) : XDn L φ' H' x dd := by
  obtain ⟨h1, gs, h2, h3⟩ := h
  obtain ⟨g1, g2⟩ := s.out dd _ h1 h2
  exact ⟨g1, gs, g2, fun f y e => let ⟨v, q1, q2⟩ := h3 f y e; ⟨v, q1, VR.mono s y v q2⟩⟩
/-- the names' values: what is known of them stands -/
structure ER (L : Lk) (φ : List Addr) (H : Hp) (ρ : Env) (σ : L2.St) : Prop where
  len : ρ.length = σ.length
  at_ : ∀ (i : Nat) (x : PV), ρ[i]? = some (some x) → ∃ v, σ[i]? = some (some v) ∧ VR L φ H x v
  sl : ∀ p ∈ L.sl, σ[p.1]? = some (some p.2)
  xc : ∀ p ∈ L.xc, XDn L φ H p.1 p.2
theorem ER.mono {L : Lk} {φ φ' : List Addr} {H H' : Hp} {ρ : Env} {σ : L2.St} (s : Step φ H φ' H') (e : ER L φ H ρ σ) : ER L φ' H' ρ σ :=
  ⟨e.len, fun i x h => let ⟨v, h1, h2⟩ := e.at_ i x h; ⟨v, h1, VR.mono s x v h2⟩, e.sl, fun p hp => (e.xc p hp).mono s⟩

theorem ER.monoK {L : Lk} {φ φ' : List Addr} {H H' : Hp} {ρ : Env} {σ : L2.St} (e : ER L φ H ρ σ) (s : StepK φ H φ' H') (hx : ∀ p ∈ L.xc, XDn L φ' H' p.1 p.2) : ER L φ' H' ρ σ :=
  ⟨e.len, fun i x h => let ⟨v, h1, h2⟩ := e.at_ i x h; ⟨v, h1, VR.mono0 s.pre s.kp x v h2⟩, e.sl, hx⟩
/-! ### exceptions -/
/-- an exception: its class, its own dict with its fields -/
def XR (L : Lk) (φ : List Addr) (H : Hp) (x : Xc) (c : Value) (d : Option Addr) : Prop :=
  c = .ref (L.cl x.cls) ∧ ∃ dd, d = some dd ∧ XDn L φ H x dd

/-! ### what a run's end asks -/
/-- of a value -/
def PostE (L : Lk) (W : WX) (σ : L2.St) (φ : List Addr) (H : Hp) (r : Res PV) (Q : VK) : Prop := match r with
  | .ok x t => ∀ φ' H' v, Step φ H φ' H' → Rl L φ' t H' → VR L φ' H' x v → Q v H'
  | .exc x t => ∀ φ' H' c d, Step φ H φ' H' → Rl L φ' t H' → XR L φ' H' x c d → W c d σ H'
  | .stuck => False
/-- an expression's reading by its run -/
def tE (L : Lk) (W : WX) (m : Env → M PV) : TE := fun σ H Q => ∃ φ ρ st, Rl L φ st H ∧ ER L φ H ρ σ ∧ PostE L W σ φ H (m ρ st) Q
/-- of several values -/
def PostA (L : Lk) (W : WX) (σ : L2.St) (φ : List Addr) (H : Hp) (r : Res (List PV)) (Q : List V → Hp → Prop) : Prop := match r with
  | .ok xs t => ∀ φ' H' vs, Step φ H φ' H' → Rl L φ' t H' → VRs L φ' H' xs vs → Q vs H'
  | .exc x t => ∀ φ' H' c d, Step φ H φ' H' → Rl L φ' t H' → XR L φ' H' x c d → W c d σ H'
  | .stuck => False
def tA (L : Lk) (W : WX) (m : Env → M (List PV)) : TA := fun σ H Q => ∃ φ ρ st, Rl L φ st H ∧ ER L φ H ρ σ ∧ PostA L W σ φ H (m ρ st) Q
/-- an operation on values, that raises nothing -/
def rV (L : Lk) (f : PV → M PV) : V → Hp → VK → Prop := fun x H Q => ∃ φ st p, Rl L φ st H ∧ VR L φ H p x ∧ PostE L (fun _ _ _ _ => False) [] φ H (f p st) Q
def rV2 (L : Lk) (f : PV → PV → M PV) : R2 := fun x y H Q => ∃ φ st p q, Rl L φ st H ∧ VR L φ H p x ∧ VR L φ H q y ∧ PostE L (fun _ _ _ _ => False) [] φ H (f p q st) Q
def rVs (L : Lk) (f : List PV → M PV) : List V → Hp → VK → Prop := fun xs H Q => ∃ φ st ps, Rl L φ st H ∧ VRs L φ H ps xs ∧ PostE L (fun _ _ _ _ => False) [] φ H (f ps st) Q

/-- an operation raises nothing -/
def NoX {α : Type} (m : M α) : Prop := ∀ s x t, m s ≠ .exc x t
end TL
end

section
set_option maxRecDepth 100000
set_option maxHeartbeats 1000000
set_option autoImplicit false
/-! TL: runs one after the other; objects laid and written. -/
namespace TL
open PySem PySem.Spec PyProof.Rows L2
section
variable {α β : Type} {m : M α} {k : α → M β} {s t : Sto} {a : α} {x : Xc}
theorem bind_ok (e : m s = .ok a t) : (m >>= k) s = k a t := by
  show (match m s with | .ok a s' => k a s' | .exc x s' => .exc x s' | .stuck => .stuck : Res β) = _
  rw [e]
theorem bind_exc (e : m s = .exc x t) : (m >>= k) s = .exc x t := by
  show (match m s with | .ok a s' => k a s' | .exc x s' => .exc x s' | .stuck => .stuck : Res β) = _
  rw [e]
theorem bind_stuck (e : m s = .stuck) : (m >>= k) s = .stuck := by
  show (match m s with | .ok a s' => k a s' | .exc x s' => .exc x s' | .stuck => .stuck : Res β) = _
  rw [e]
theorem NoX.bind (h : NoX m) (hk : ∀ a, NoX (k a)) : NoX (m >>= k) := fun s x t e => by
  cases e1 : m s with
  | ok a u => rw [bind_ok e1] at e; exact hk a u x t e
  | exc y u => exact h s y u e1
  | stuck => rw [bind_stuck e1] at e; cases e
theorem NoX.ret : NoX (M.ret a) := fun _ _ _ e => by cases e
theorem NoX.pure : NoX (pure a : M α) := fun _ _ _ e => by cases e
theorem NoX.stop : NoX (M.stop : M α) := fun _ _ _ e => by cases e
theorem NoX.opt {o : Option α} : NoX (M.opt o) := by cases o; exact NoX.stop; exact NoX.ret
theorem NoX.guard {b : Bool} : NoX (M.guard b) := by cases b; exact NoX.stop; exact NoX.ret
theorem NoX.quiet : NoX (M.quiet m) := fun s x t e => by
  unfold M.quiet at e
  cases e1 : m s with
  | ok a u => rw [e1] at e; cases e
  | exc y u => rw [e1] at e; cases e
  | stuck => rw [e1] at e; cases e
end
theorem NoX.alloc {o : Ob} : NoX (alloc o) := fun _ _ _ e => by cases e
theorem NoX.getOb {r : Nat} : NoX (getOb r) := fun s x t e => by
  unfold TL.getOb at e
  cases e1 : s.objs[r]? with
  | some o => rw [e1] at e; cases e
  | none => rw [e1] at e; cases e
theorem NoX.putOb {r : Nat} {o : Ob} : NoX (putOb r o) := fun s x t e => by
  unfold TL.putOb at e
  cases e1 : s.lk.contains r with
  | true => rw [e1] at e; cases e
  | false => rw [e1] at e; cases e
theorem NoX.freeOb {r : Nat} : NoX (freeOb r) := fun s x t e => by
  unfold TL.freeOb at e
  cases e1 : s.lk.contains r with
  | true => rw [e1] at e; cases e
  | false => rw [e1] at e; cases e
theorem NoX.objsM : NoX objsM := fun _ _ _ e => by cases e
theorem NoX.asB {v : PV} : NoX (asB v) := by cases v <;> first | exact NoX.stop | exact NoX.ret
theorem NoX.asI {v : PV} : NoX (asI v) := by cases v <;> first | exact NoX.stop | exact NoX.ret
theorem NoX.getO {v : PV} : NoX (getO v) := by cases v <;> first | exact NoX.stop | exact NoX.getOb
theorem nox_binop (o : BOp) (a b : PV) : NoX (binop o a b) := by
  unfold binop
  repeat (first | exact NoX.ret | exact NoX.pure | exact NoX.stop | exact NoX.opt | exact NoX.guard | exact NoX.freeOb | exact NoX.getOb | exact NoX.alloc | (refine NoX.bind ?_ fun _ => ?_) | split)
theorem nox_getItem (a b : PV) : NoX (getItem a b) := by
  unfold getItem
  repeat (first | exact NoX.ret | exact NoX.pure | exact NoX.stop | exact NoX.opt | exact NoX.guard | exact NoX.freeOb | exact NoX.getOb | exact NoX.alloc | (refine NoX.bind ?_ fun _ => ?_) | split)
theorem nox_sliceV (a : PV) (l u : Option Int) : NoX (sliceV a l u) := by
  unfold sliceV
  repeat (first | exact NoX.ret | exact NoX.pure | exact NoX.stop | exact NoX.opt | exact NoX.guard | exact NoX.freeOb | exact NoX.getOb | exact NoX.alloc | (refine NoX.bind ?_ fun _ => ?_) | split)
theorem nox_revV (a : PV) : NoX (revV a) := by
  unfold revV
  repeat (first | exact NoX.ret | exact NoX.pure | exact NoX.stop | exact NoX.opt | exact NoX.guard | exact NoX.freeOb | exact NoX.getOb | exact NoX.alloc | (refine NoX.bind ?_ fun _ => ?_) | split)
theorem nox_setItem (a b v : PV) : NoX (setItem a b v) := by
  unfold setItem
  repeat (first | exact NoX.ret | exact NoX.pure | exact NoX.stop | exact NoX.opt | exact NoX.guard | exact NoX.freeOb | exact NoX.getOb | exact NoX.putOb | exact NoX.alloc | (refine NoX.bind ?_ fun _ => ?_) | split)
theorem nox_getFld (a : PV) (f : Nat) : NoX (getFld a f) := by
  unfold getFld
  repeat (first | exact NoX.ret | exact NoX.pure | exact NoX.stop | exact NoX.opt | exact NoX.getO | (refine NoX.bind ?_ fun _ => ?_) | split)
theorem nox_setFld (a : PV) (f : Nat) (v : PV) : NoX (setFld a f v) := by
  unfold setFld
  repeat (first | exact NoX.ret | exact NoX.pure | exact NoX.stop | exact NoX.opt | exact NoX.guard | exact NoX.freeOb | exact NoX.getOb | exact NoX.putOb | (refine NoX.bind ?_ fun _ => ?_) | split)
theorem nox_compareV (c : Ctx) (o : COp) (a b : PV) : NoX (compareV c o a b) := by
  unfold compareV
  repeat (first | exact NoX.ret | exact NoX.pure | exact NoX.stop | exact NoX.opt | exact NoX.objsM | exact NoX.quiet | (refine NoX.bind ?_ fun _ => ?_) | split)

/-! ### objects laid, written -/
section
variable {L : Lk} {φ φ' : List Addr} {st : Sto} {H H' : Hp}
theorem SqL.same {K : PySem.W.Frag} {a : Addr} {xs : List V} (e : H' a = H a) (h : SqL K H a xs) : SqL K H' a xs := by
  rcases h with (h | ⟨o, h⟩) | h
  · exact .inl (.inl (by rw [e]; exact h))
  · exact .inl (.inr ⟨o, by rw [e]; exact h⟩)
  · exact .inr h
theorem OR.mono0 {i : Nat} {a : Addr} (pre : ∀ (r : Nat) (a : Addr), φ[r]? = some a → φ'[r]? = some a) (kp : Kept H H') (e : H' a = H a) : ∀ {o : Ob}, OR L φ H i a o → OR L φ' H' i a o
  | .list xs, h => by
    obtain ⟨vs, h1, h2, h3, h4⟩ := (show ∃ vs, VRs L φ H xs vs ∧ SqL L.K H a vs ∧ (H a).isSome = true ∧ (i ∉ L.F → H a = some (.lst vs)) from h)
    exact ⟨vs, VRs.mono0 pre kp _ _ h1, SqL.same e h2, by rw [e]; exact h3, fun z => by rw [e]; exact h4 z⟩
  | .dict kvs, h => by
    obtain ⟨o, h1, h2, h3, h4⟩ := (show ∃ o, H a = some (dO a o) ∧ (a == sysModules) = false ∧ o.ExactDict ∧ DR L φ H o kvs from h)
    exact ⟨o, by rw [e]; exact h1, h2, h3, h4.imp fun p _ => ⟨fun v => VR.mono0 pre kp p.1 v, fun v => VR.mono0 pre kp p.2 v⟩⟩
  | .set xs, h => by
    rcases (show SetS L H a xs from h) with ⟨t, h1, h2⟩ | ⟨t, ns, h1, h2⟩ | ⟨T, h1, h2, h3⟩
    · exact .inl ⟨t, by rw [e]; exact h1, h2⟩
    · exact .inr (.inl ⟨t, ns, by rw [e]; exact h1, h2⟩)
    · exact .inr (.inr ⟨T, by rw [e]; exact h1, h2, fun p hp => kp.sqT (h3 p hp)⟩)
  | .inst c fs, h => by
    obtain ⟨dx, gs, h1, h2, h3⟩ := (show ∃ dx gs, H a = some (.ins (L.cl c) dx gs) ∧ FR L φ H fs gs ∧ c ∈ L.cs from h)
    exact ⟨dx, gs, by rw [e]; exact h1, FR.mono0 pre kp fs gs h2, h3⟩
theorem OR.mono {i : Nat} {a : Addr} (s : Step φ H φ' H') (e : H' a = H a) {o : Ob} (h : OR L φ H i a o) : OR L φ' H' i a o := OR.mono0 s.pre s.kp e h
theorem OR.there {i : Nat} {a : Addr} : ∀ {o : Ob}, OR L φ H i a o → (H a).isSome = true
  | .list xs, h => by
    obtain ⟨vs, h1, h2, h3, h4⟩ := (show ∃ vs, VRs L φ H xs vs ∧ SqL L.K H a vs ∧ (H a).isSome = true ∧ (i ∉ L.F → H a = some (.lst vs)) from h)
    exact h3
  | .dict kvs, h => by
    obtain ⟨o, h1, h2⟩ := (show ∃ o, H a = some (dO a o) ∧ (a == sysModules) = false ∧ o.ExactDict ∧ DR L φ H o kvs from h)
    rw [h1]; rfl
  | .set xs, h => by
    rcases (show SetS L H a xs from h) with ⟨t, h1, h2⟩ | ⟨t, ns, h1, h2⟩ | ⟨T, h1, h2, h3⟩
    · rw [h1]; rfl
    · rw [h1]; rfl
    · rw [h1]; rfl
  | .inst c fs, h => by
    obtain ⟨dx, gs, h1, h2, h3⟩ := (show ∃ dx gs, H a = some (.ins (L.cl c) dx gs) ∧ FR L φ H fs gs ∧ c ∈ L.cs from h)
    rw [h1]; rfl
theorem Rl.get (R : Rl L φ st H) {i : Nat} {o : Ob} (e : st.objs[i]? = some o) : ∃ a, φ[i]? = some a ∧ OR L φ H i a o := by
  have hi : i < φ.length := by rw [R.len]; exact (List.getElem?_eq_some_iff.mp e).1
  exact ⟨φ[i], by simp [hi], R.ob i o _ e (by simp [hi])⟩
theorem Rl.fresh (R : Rl L φ st H) {p : Addr} (hp : H p = none) : p ∉ φ := fun hm => by
  obtain ⟨i, hi, e⟩ := List.mem_iff_getElem.mp hm
  have hs : i < st.objs.length := by rw [← R.len]; exact hi
  have := OR.there (R.ob i st.objs[i] φ[i] (by simp [hs]) (by simp [hi]))
  rw [e, hp] at this; cases this
theorem Rl.alloc (R : Rl L φ st H) {p : Addr} {u : HO} {ob : Ob} (hp : H p = none) (new : OR L (φ ++ [p]) (upd H p u) st.objs.length p ob) :
    Rl L (φ ++ [p]) { st with objs := st.objs ++ [ob] } (upd H p u) where
  len := by simp [R.len]
  nd := by
    rw [List.nodup_append]
    refine ⟨R.nd, by simp, fun a ha b hb e => ?_⟩
    have : b = p := by simpa using hb
    subst this; subst e
    exact R.fresh hp ha
  ob := fun i o a eo ea => by
    by_cases hi : i < st.objs.length
    · have eo' : st.objs[i]? = some o := by rw [← eo]; exact (List.getElem?_append_left hi).symm
      have ea' : φ[i]? = some a := by rw [← ea]; exact (List.getElem?_append_left (by rw [R.len]; exact hi)).symm
      have old := R.ob i o a eo' ea'
      have ne : a ≠ p := fun z => R.fresh hp (by rw [← z]; exact List.mem_of_getElem? ea')
      exact OR.mono (Step.new hp) (upd_ne ne) old
    · have hlt := (List.getElem?_eq_some_iff.mp eo).1
      have hlt' : i < st.objs.length + 1 := by simpa using hlt
      have e : i = st.objs.length := by omega
      subst e
      have eo' : some ob = some o := by
        rw [← eo]
        show _ = (st.objs ++ [ob])[st.objs.length]?
        simp
      have ea' : some p = some a := by
        rw [← ea]
        have : st.objs.length = φ.length := R.len.symm
        rw [this]; simp
      cases eo'; cases ea'
      exact new
  fr := fun i hi => ⟨(R.fr i hi).1, by have := (R.fr i hi).2; simp; omega⟩
  fx := fun q hq => ⟨(R.fx q hq).1, by rw [List.getElem?_append_left (List.getElem?_eq_some_iff.mp (R.fx q hq).2.1).1]; exact (R.fx q hq).2.1, by
    rw [upd_ne fun z => R.fresh hp (by rw [← z]; exact List.mem_of_getElem? (R.fx q hq).2.1)]; exact (R.fx q hq).2.2⟩
theorem Rl.put (R : Rl L φ st H) {r : Nat} {a : Addr} {u o : HO} {ob : Ob} {t : Sto} (ea : φ[r]? = some a) (hu : H a = some u) (mu : Mut (some u)) (et : t.objs = st.objs.set r ob) (el : t.lk = st.lk) (hr : st.lk.contains r = false)
    (new : OR L φ (upd H a o) r a ob) : Rl L φ t (upd H a o) where
  len := by rw [et]; simp [R.len]
  nd := R.nd
  ob := fun i q b eo eb => by
    rw [et] at eo
    by_cases hi : i = r
    · subst hi
      have hlt : i < st.objs.length := by rw [← R.len]; exact (List.getElem?_eq_some_iff.mp ea).1
      rw [List.getElem?_set_self hlt] at eo
      cases eo
      rw [ea] at eb; cases eb
      exact new
    · rw [List.getElem?_set_ne (Ne.symm hi)] at eo
      have old := R.ob i q b eo eb
      have ne : b ≠ a := fun z => hi (by
        subst z
        obtain ⟨h1, e1⟩ := List.getElem?_eq_some_iff.mp ea
        obtain ⟨h2, e2⟩ := List.getElem?_eq_some_iff.mp eb
        exact ((List.getElem_inj R.nd).mp (e2.trans e1.symm)))
      exact OR.mono (Step.put (List.mem_of_getElem? ea) hu mu) (upd_ne ne) old
  fr := fun i hi => ⟨by rw [el]; exact (R.fr i hi).1, (R.fr i hi).2⟩
  fx := fun q hq => by
    obtain ⟨h1, h2, h3⟩ := R.fx q hq
    have ne : q.2.1 ≠ a := fun z => by
      rw [z] at h2
      obtain ⟨i1, e1⟩ := List.getElem?_eq_some_iff.mp ea
      obtain ⟨i2, e2⟩ := List.getElem?_eq_some_iff.mp h2
      have : q.1 = r := (List.getElem_inj R.nd).mp (e2.trans e1.symm)
      rw [this] at h1
      rw [List.contains_iff_mem.mpr h1] at hr; cases hr
    exact ⟨by rw [el]; exact h1, h2, by rw [upd_ne ne]; exact h3⟩
theorem Rl.low {l : Nat} (R : Rl L φ st H) : Rl L φ { st with low := l } H := ⟨R.len, R.nd, R.ob, R.fr, R.fx⟩
theorem Rl.sto {t : Sto} (R : Rl L φ st H) (h1 : t.objs = st.objs) (h2 : ∀ i ∈ st.lk, i ∈ t.lk) : Rl L φ t H := ⟨by rw [h1]; exact R.len, R.nd, fun i o a e => R.ob i o a (by rw [← h1]; exact e), fun i hi => ⟨h2 i (R.fr i hi).1, (R.fr i hi).2⟩, fun q hq => ⟨h2 _ (R.fx q hq).1, (R.fx q hq).2⟩⟩
theorem Rl.newF (R : Rl L φ st H) : st.objs.length ∉ L.F := fun z => by
  have := (R.fr _ z).2
  rw [R.len] at this
  exact absurd this (Nat.lt_irrefl _)
end

/-! ### ends -/
section
variable {L : Lk} {W : WX} {σ : L2.St} {φ φ' : List Addr} {st t : Sto} {H H' : Hp} {Q : VK} {x : PV} {v : V} {r : Res PV}
theorem PostE.step (P : PostE L W σ φ H r Q) (s : Step φ H φ' H') : PostE L W σ φ' H' r Q := by
  cases r with
  | ok x t => exact fun φ2 H2 v s2 => P φ2 H2 v (s.trans s2)
  | exc x t => exact fun φ2 H2 c d s2 => P φ2 H2 c d (s.trans s2)
  | stuck => exact P
theorem PostA.step {r : Res (List PV)} {Q : List V → Hp → Prop} (P : PostA L W σ φ H r Q) (s : Step φ H φ' H') : PostA L W σ φ' H' r Q := by
  cases r with
  | ok x t => exact fun φ2 H2 v s2 => P φ2 H2 v (s.trans s2)
  | exc x t => exact fun φ2 H2 c d s2 => P φ2 H2 c d (s.trans s2)
  | stuck => exact P
theorem PostE.ret (P : PostE L W σ φ H (.ok x st) Q) (R : Rl L φ st H) (h : VR L φ H x v) : Q v H := P φ H v Step.refl R h
theorem PostE.imp {Q' : VK} (P : PostE L W σ φ H r Q) (h : ∀ v H', Q v H' → Q' v H') : PostE L W σ φ H r Q' := by
  cases r with
  | ok x t => exact fun φ2 H2 v s2 R V => h _ _ (P φ2 H2 v s2 R V)
  | exc x t => exact P
  | stuck => exact P
theorem PostA.imp {r : Res (List PV)} {Q Q' : List V → Hp → Prop} (P : PostA L W σ φ H r Q) (h : ∀ v H', Q v H' → Q' v H') : PostA L W σ φ H r Q' := by
  cases r with
  | ok x t => exact fun φ2 H2 v s2 R V => h _ _ (P φ2 H2 v s2 R V)
  | exc x t => exact P
  | stuck => exact P
/-- a list made -/
theorem PostE.list {xs : List PV} {vs : List V} (P : PostE L W σ φ H (alloc (.list xs) st) Q) (R : Rl L φ st H) (h : VRs L φ H xs vs) {p : Addr} (hp : H p = none) : Q (.ref p) (upd H p (.lst vs)) := by
  have s : Step φ H (φ ++ [p]) (upd H p (.lst vs)) := Step.new hp
  refine P (φ ++ [p]) _ (.ref p) s (R.alloc hp ?_) ?_
  · exact ⟨vs, h.mono s, SqL.of upd_same, by rw [upd_same]; rfl, fun _ => upd_same⟩
  · exact ⟨p, rfl, by rw [← R.len]; simp⟩
theorem Rl.side (R : Rl L φ st H) {p : Addr} {u : HO} (hp : H p = none) : Rl L φ st (upd H p u) :=
  ⟨R.len, R.nd, fun i o a eo ea => OR.mono (Step.side hp) (upd_ne fun z => R.fresh hp (by rw [← z]; exact List.mem_of_getElem? ea)) (R.ob i o a eo ea), R.fr, fun q hq => ⟨(R.fx q hq).1, (R.fx q hq).2.1, by rw [upd_ne fun z => R.fresh hp (by rw [← z]; exact List.mem_of_getElem? (R.fx q hq).2.1)]; exact (R.fx q hq).2.2⟩⟩
theorem PostE.tup {xs : List PV} {vs : List V} (P : PostE L W σ φ H (.ok (.tup xs) st) Q) (R : Rl L φ st H) (h : VRs L φ H xs vs) {p : Addr} (hp : H p = none) : Q (.ref p) (upd H p (.tup vs)) :=
  P φ _ (.ref p) (Step.side hp) (R.side hp) ⟨p, vs, rfl, SqT.of upd_same, h.mono (Step.side hp)⟩
end
end TL
end

section
set_option maxRecDepth 100000
set_option maxHeartbeats 1000000
set_option autoImplicit false
/-! TL: expressions in a row; operators. -/
namespace TL
open PySem PySem.Spec PyProof.Rows L2
theorem peI {X : Cx} {e : Expr} {t t' : TE} (h : PE X e t) (i : ∀ σ H Q, t' σ H Q → t σ H Q) : PE X e t' := ⟨fun pins s σ H Q I q => h.run pins s σ H Q I (i σ H Q q)⟩
theorem ptI {X : Cx} {e : Expr} {t t' : TT} (h : PT X e t) (i : ∀ σ H Q, t' σ H Q → t σ H Q) : PT X e t' := ⟨fun pins s σ H Q I q => h.run pins s σ H Q I (i σ H Q q)⟩
theorem paI {X : Cx} {e : List Expr} {t t' : TA} (h : PA X e t) (i : ∀ σ H Q, t' σ H Q → t σ H Q) : PA X e t' := ⟨fun pos pins s σ H Q I q => h.run pos pins s σ H Q I (i σ H Q q)⟩
theorem psI {X : Cx} {e : Stmt} {t t' : TS} (h : PS X e t) (i : ∀ D σ H, t' D σ H → t D σ H) : PS X e t' := ⟨fun pins s σ H D I q => h.run pins s σ H D I (i D σ H q)⟩
theorem pssI {X : Cx} {e : List Stmt} {t t' : TS} (h : PSs X e t) (i : ∀ D σ H, t' D σ H → t D σ H) : PSs X e t' := ⟨fun pins s σ H D I q => h.run pins s σ H D I (i D σ H q)⟩
section
variable {L : Lk} {W : WX} {σ : L2.St} {φ φ' : List Addr} {st t : Sto} {H H' : Hp} {Q : VK} {v w : V}
/-- behind a first value -/
def tK (L : Lk) (W : WX) (k : PV → Env → M PV) (v : V) : TE := fun σ H Q => ∃ φ ρ st x, Rl L φ st H ∧ ER L φ H ρ σ ∧ VR L φ H x v ∧ PostE L W σ φ H (k x ρ st) Q
def tK2 (L : Lk) (W : WX) (k : PV → PV → Env → M PV) (v w : V) : TE := fun σ H Q => ∃ φ ρ st x y, Rl L φ st H ∧ ER L φ H ρ σ ∧ VR L φ H x v ∧ VR L φ H y w ∧ PostE L W σ φ H (k x y ρ st) Q
def tKA (L : Lk) (W : WX) (k : List PV → Env → M PV) (vs : List V) : TE := fun σ H Q => ∃ φ ρ st xs, Rl L φ st H ∧ ER L φ H ρ σ ∧ VRs L φ H xs vs ∧ PostE L W σ φ H (k xs ρ st) Q
theorem tE_bind {ma : Env → M PV} {k : PV → Env → M PV} (h : tE L W (fun ρ => ma ρ >>= fun x => k x ρ) σ H Q) : tE L W ma σ H (fun v H1 => tK L W k v σ H1 Q) := by
  obtain ⟨φ, ρ, st, R, E, P⟩ := h
  refine ⟨φ, ρ, st, R, E, ?_⟩
  cases e : ma ρ st with
  | stuck => dsimp only at P; rw [bind_stuck e] at P; exact P
  | exc x t => dsimp only at P; rw [bind_exc e] at P; exact P
  | ok x t =>
    dsimp only at P
    rw [bind_ok e] at P
    exact fun φ1 H1 v S1 R1 V1 => ⟨φ1, ρ, t, x, R1, E.mono S1, V1, P.step S1⟩
/-- a run, then another -/
theorem PostE.bind {m : M PV} {k : PV → M PV} (P : PostE L W σ φ H ((m >>= k) st) Q) : PostE L W σ φ H (m st) fun v H1 => ∃ φ1 t x, Step φ H φ1 H1 ∧ Rl L φ1 t H1 ∧ VR L φ1 H1 x v ∧ PostE L W σ φ1 H1 (k x t) Q := by
  cases e : m st with
  | stuck => rw [bind_stuck e] at P; exact P
  | exc x t => rw [bind_exc e] at P; exact P
  | ok x t =>
    rw [bind_ok e] at P
    exact fun φ1 H1 v S1 R1 V1 => ⟨φ1, t, x, S1, R1, V1, P.step S1⟩
theorem tK_bind {mb : Env → M PV} {k : PV → PV → Env → M PV} (h : tK L W (fun x ρ => mb ρ >>= fun y => k x y ρ) v σ H Q) : tE L W mb σ H (fun w H1 => tK2 L W k v w σ H1 Q) := by
  obtain ⟨φ, ρ, st, x, R, E, V, P⟩ := h
  refine ⟨φ, ρ, st, R, E, ?_⟩
  cases e : mb ρ st with
  | stuck => dsimp only at P; rw [bind_stuck e] at P; exact P
  | exc x t => dsimp only at P; rw [bind_exc e] at P; exact P
  | ok y t =>
    dsimp only at P
    rw [bind_ok e] at P
    exact fun φ1 H1 w S1 R1 V1 => ⟨φ1, ρ, t, x, y, R1, E.mono S1, V.mono S1, V1, P.step S1⟩
theorem postE_nox {r : Res PV} (h : ∀ x t, r ≠ .exc x t) (P : PostE L W σ φ H r Q) {W' : WX} {σ' : L2.St} : PostE L W' σ' φ H r Q := by
  cases r with
  | ok x t => exact P
  | exc x t => exact absurd rfl (h x t)
  | stuck => exact P
theorem tK_op {f : PV → M PV} (h : tK L W (fun x _ => f x) v σ H Q) (hn : ∀ x, NoX (f x)) : rV L f v H Q := by
  obtain ⟨φ, ρ, st, x, R, E, V, P⟩ := h
  exact ⟨φ, st, x, R, V, postE_nox (fun y t => hn x st y t) P⟩
theorem tK2_op {f : PV → PV → M PV} (h : tK2 L W (fun x y _ => f x y) v w σ H Q) (hn : ∀ x y, NoX (f x y)) : rV2 L f v w H Q := by
  obtain ⟨φ, ρ, st, x, y, R, E, V, V', P⟩ := h
  exact ⟨φ, st, x, y, R, V, V', postE_nox (fun z t => hn x y st z t) P⟩
/-- one expression, then an operation -/
theorem un_ok {ma : Env → M PV} {f : PV → M PV} (hn : ∀ x, NoX (f x)) (h : tE L W (fun ρ => ma ρ >>= fun x => f x) σ H Q) : tUn (rV L f) (tE L W ma) σ H Q := by
  obtain ⟨φ, ρ, st, R, E, P⟩ := tE_bind (k := fun x _ => f x) h
  exact ⟨φ, ρ, st, R, E, P.imp fun v H1 q => tK_op q hn⟩
/-- two expressions, then an operation -/
theorem bin_ok {ma mb : Env → M PV} {f : PV → PV → M PV} (hn : ∀ x y, NoX (f x y)) (h : tE L W (fun ρ => ma ρ >>= fun x => mb ρ >>= fun y => f x y) σ H Q) : tOp (rV2 L f) (tE L W ma) (tE L W mb) σ H Q := by
  obtain ⟨φ, ρ, st, R, E, P⟩ := tE_bind (k := fun x ρ => mb ρ >>= fun y => f x y) h
  refine ⟨φ, ρ, st, R, E, P.imp fun v H1 q => ?_⟩
  obtain ⟨φ2, ρ2, st2, R2, E2, P2⟩ := tK_bind (k := fun x y _ => f x y) q
  exact ⟨φ2, ρ2, st2, R2, E2, P2.imp fun w H2 q2 => tK2_op q2 hn⟩
/-- arguments from the left -/
theorem tA_bind {ma : Env → M (List PV)} {k : List PV → Env → M PV} (h : tE L W (fun ρ => ma ρ >>= fun xs => k xs ρ) σ H Q) : tA L W ma σ H (fun vs H1 => tKA L W k vs σ H1 Q) := by
  obtain ⟨φ, ρ, st, R, E, P⟩ := h
  refine ⟨φ, ρ, st, R, E, ?_⟩
  cases e : ma ρ st with
  | stuck => dsimp only at P; rw [bind_stuck e] at P; exact P
  | exc x t => dsimp only at P; rw [bind_exc e] at P; exact P
  | ok xs t =>
    dsimp only at P
    rw [bind_ok e] at P
    exact fun φ1 H1 vs S1 R1 V1 => ⟨φ1, ρ, t, xs, R1, E.mono S1, V1, P.step S1⟩
theorem tKA_op {f : List PV → M PV} {vs : List V} (h : tKA L W (fun xs _ => f xs) vs σ H Q) (hn : ∀ xs, NoX (f xs)) : rVs L f vs H Q := by
  obtain ⟨φ, ρ, st, xs, R, E, V, P⟩ := h
  exact ⟨φ, st, xs, R, V, postE_nox (fun y t => hn xs st y t) P⟩
theorem args_nil {Q : List V → Hp → Prop} (h : tA L W (fun _ => M.ret []) σ H Q) : tNil σ H Q := by
  obtain ⟨φ, ρ, st, R, E, P⟩ := h
  exact P φ H [] Step.refl R rfl
theorem args_cons {ma : Env → M PV} {mb : Env → M (List PV)} {Q : List V → Hp → Prop} (h : tA L W (fun ρ => do let v ← ma ρ; let vs ← mb ρ; return v :: vs) σ H Q) : tCons (tE L W ma) (tA L W mb) σ H Q := by
  obtain ⟨φ, ρ, st, R, E, P⟩ := h
  refine ⟨φ, ρ, st, R, E, ?_⟩
  cases e : ma ρ st with
  | stuck => dsimp only at P; rw [bind_stuck e] at P; exact P
  | exc x t => dsimp only at P; rw [bind_exc e] at P; exact P
  | ok x t =>
    dsimp only at P
    rw [bind_ok e] at P
    refine fun φ1 H1 v S1 R1 V1 => ⟨φ1, ρ, t, R1, E.mono S1, ?_⟩
    cases e2 : mb ρ t with
    | stuck => rw [bind_stuck e2] at P; exact P
    | exc y t2 => rw [bind_exc e2] at P; exact PostA.step P S1
    | ok xs t2 =>
      rw [bind_ok e2] at P
      exact fun φ2 H2 vs S2 R2 V2 => P φ2 H2 (v :: vs) (S1.trans S2) R2 ⟨v, vs, rfl, V1.mono S2, V2⟩
end

/-! ### operators -/
def opS : BOp → Operator
  | .add => .Add | .sub => .Sub | .mul => .Mult | .mod => .Mod | .fdiv => .FloorDiv | .shl => .LShift | .shr => .RShift | .xor => .BitXor | .and => .BitAnd | .pow => .Pow
def cmpS' : COp → CmpOp
  | .eq => .Eq | .ne => .NotEq | .lt => .Lt | .le => .LtE | .gt => .Gt | .ge => .GtE | .is => .Is | .isNot => .IsNot | .isIn => .In | .notIn => .NotIn
theorem op_fdivW' {X : Cx} : OpR X (binaryOp .FloorDiv) (rI (fun _ j => j ≠ 0 ∧ j.natAbs.log2 < 9000) fun i j => .int (i.fdiv j)) := opI fun _ _ _ _ _ _ _ hc q => floordiv_int hc.1 q (.inl (PyProof.noPylong_of_log2 hc.2))
section
variable {X : Cx} {L : Lk}
theorem int_post {i : Int} {st : Sto} {φ : List Addr} {H : Hp} {Q : VK} {W : WX} {σ : L2.St} (P : PostE L W σ φ H (.ok (.int i) st) Q) (R : Rl L φ st H) : Q (.int i) H := P.ret R rfl
theorem bitAnd_nn (i j : Nat) : Builtin.bitAnd (i : Int) (j : Int) = ((Nat.land i j : Nat) : Int) := by rfl
theorem bitXor_nn (i j : Nat) : Builtin.bitXor (i : Int) (j : Int) = (i : Int) + j - 2 * ((Nat.land i j : Nat) : Int) := by rw [PyProof.Rows.bitXor_and, bitAnd_nn]
theorem binop_int (o : BOp) {i j k : Int} {H : Hp} {Q : VK} {pins : List (Addr × Obj)} {s : Shared} {σ : L2.St} {v u : Value} (I : Inv X pins σ H s) (rx : RelV (.int i) v) (ry : RelV (.int j) u)
    (e : arith o i j = some k) (q : Q (.int k) H) : wpAny (model X.prog X.w) X.A (binaryOp (opS o) v u) (EP X pins σ Q) X.xe s := by
  cases o with
  | add => cases e; exact op_add pins s σ H (.int i) (.int j) v u Q I rx ry ⟨i, j, rfl, rfl, q⟩
  | sub => cases e; exact op_sub pins s σ H (.int i) (.int j) v u Q I rx ry ⟨i, j, rfl, rfl, q⟩
  | mul =>
    simp only [arith] at e
    split at e
    · cases e; exact op_mulW pins s σ H (.int i) (.int j) v u Q I rx ry ⟨i, j, rfl, rfl, by assumption, q⟩
    · cases e
  | mod =>
    simp only [arith] at e
    split at e
    · cases e
    · cases e; exact op_modN pins s σ H (.int i) (.int j) v u Q I rx ry ⟨i, j, rfl, rfl, by assumption, q⟩
  | fdiv =>
    simp only [arith] at e
    split at e
    · cases e
    · split at e
      · cases e; exact op_fdivW' pins s σ H (.int i) (.int j) v u Q I rx ry ⟨i, j, rfl, rfl, ⟨by assumption, by assumption⟩, q⟩
      · cases e
  | shl =>
    simp only [arith] at e
    split at e
    · rename_i h; cases e; exact op_shl pins s σ H (.int i) (.int j) v u Q I rx ry ⟨i, j, rfl, rfl, ⟨h.1, h.2.1, h.2.2⟩, q⟩
    · cases e
  | shr =>
    simp only [arith] at e
    split at e
    · cases e; exact op_shr pins s σ H (.int i) (.int j) v u Q I rx ry ⟨i, j, rfl, rfl, by assumption, q⟩
    · cases e
  | xor =>
    simp only [arith] at e
    split at e
    · rename_i h
      obtain ⟨a, rfl⟩ := Int.eq_ofNat_of_zero_le h.1
      obtain ⟨b, rfl⟩ := Int.eq_ofNat_of_zero_le h.2
      cases e
      exact op_xor pins s σ H (.int a) (.int b) v u Q I rx ry ⟨a, b, rfl, rfl, by show Q (.int (Builtin.bitXor a b)) H; rw [bitXor_nn]; exact q⟩
    · cases e
  | and =>
    simp only [arith] at e
    split at e
    · rename_i h
      obtain ⟨a, rfl⟩ := Int.eq_ofNat_of_zero_le h.1
      obtain ⟨b, rfl⟩ := Int.eq_ofNat_of_zero_le h.2
      cases e
      exact op_and pins s σ H (.int a) (.int b) v u Q I rx ry ⟨a, b, rfl, rfl, by show Q (.int (Builtin.bitAnd a b)) H; rw [bitAnd_nn]; exact q⟩
    · cases e
  | pow =>
    simp only [arith] at e
    split at e
    · rename_i h; cases e; exact op_pow pins s σ H (.int i) (.int j) v u Q I rx ry ⟨i, j, rfl, rfl, ⟨h.1, h.2.1, h.2.2⟩, q⟩
    · cases e
theorem guard_ok {b : Bool} {β : Type} {k : Unit → M β} {st : Sto} (h : b = true) : (M.guard b >>= k) st = k () st := by subst h; rfl
theorem guard_no {b : Bool} {β : Type} {k : Unit → M β} {st : Sto} (h : b = false) : (M.guard b >>= k) st = .stuck := by subst h; rfl
theorem opt_bind {α β : Type} {o : Option α} {a : α} {k : α → M β} {st : Sto} (h : o = some a) : (M.opt o >>= k) st = k a st := by subst h; rfl
theorem opt_none {α β : Type} {o : Option α} {k : α → M β} {st : Sto} (h : o = none) : (M.opt o >>= k) st = .stuck := by subst h; rfl
theorem getOb_bind {β : Type} {r : Nat} {o : Ob} {k : Ob → M β} {st : Sto} (h : st.objs[r]? = some o) : (getOb r >>= k) st = k o st := bind_ok (m := getOb r) (by unfold getOb; rw [h])
theorem getOb_no {β : Type} {r : Nat} {k : Ob → M β} {st : Sto} (h : st.objs[r]? = none) : (getOb r >>= k) st = .stuck := bind_stuck (m := getOb r) (by unfold getOb; rw [h])
theorem free_bind {r : Nat} {k : Unit → M PV} {st : Sto} {φ : List Addr} {H : Hp} {Q : VK} {W : WX} {σ : L2.St} (P : PostE L W σ φ H ((freeOb r >>= k) st) Q) : st.lk.contains r = false ∧ PostE L W σ φ H (k () st) Q := by
  cases e : st.lk.contains r with
  | true => rw [bind_stuck (m := freeOb r) (by unfold freeOb; rw [e])] at P; exact (show False from P).elim
  | false => rw [bind_ok (m := freeOb r) (a := ()) (t := st) (by unfold freeOb; rw [e])] at P; exact ⟨rfl, P⟩
theorem VRs.rep {φ : List Addr} {H : Hp} {xs : List PV} {vs : List V} (h : VRs L φ H xs vs) : ∀ n, VRs L φ H (rep n xs) (List.replicate n vs).flatten
  | 0 => rfl
  | n + 1 => by
    rw [List.replicate_succ, List.flatten_cons]
    exact VRs.append h (VRs.rep h n)
theorem Rl.lst {φ : List Addr} {H : Hp} {st : Sto} (R : Rl L φ st H) {r : Nat} {xs : List PV} (e : st.objs[r]? = some (.list xs)) : ∃ a vs, φ[r]? = some a ∧ VRs L φ H xs vs ∧ SqL L.K H a vs ∧ (H a).isSome = true ∧ (r ∉ L.F → H a = some (.lst vs)) := by
  obtain ⟨a, ea, h⟩ := R.get e
  obtain ⟨vs, h1, h2, h3, h4⟩ := (show ∃ vs, VRs L φ H xs vs ∧ SqL L.K H a vs ∧ (H a).isSome = true ∧ (r ∉ L.F → H a = some (.lst vs)) from h)
  exact ⟨a, vs, ea, h1, h2, h3, h4⟩
theorem VRs.nil_iff {φ : List Addr} {H : Hp} {xs : List PV} {vs : List V} (h : VRs L φ H xs vs) : xs = [] ↔ vs = [] := by
  have := h.length
  constructor
  · intro e; subst e; exact List.eq_nil_of_length_eq_zero this
  · intro e; subst e; exact List.eq_nil_of_length_eq_zero this.symm
theorem cat_seq {l b : Addr} {xs zs : List V} {H : Hp} {Q : VK} {pins : List (Addr × Obj)} {s : Shared} {σ : L2.St} {v u : Value} (h1 : SqL X.K H l xs) (h2 : SqL X.K H b zs) (I : Inv X pins σ H s) (rx : RelV (.ref l) v) (ry : RelV (.ref b) u)
    (hz : xs.length + zs.length ≤ sizeLine) (q : ∀ p, H p = none → Q (.ref p) (upd H p (.lst (xs ++ zs)))) : wpAny (model X.prog X.w) X.A (binaryOp .Add v u) (EP X pins σ Q) X.xe s := by
  cases rx
  cases ry
  obtain ⟨its, r, e, z⟩ := I.list h1
  obtain ⟨its2, r2, e2, z2⟩ := I.list h2
  have hl := r.length
  have hl2 := r2.length
  obtain ⟨⟨cls, dd, data, sl⟩, ho, hc, n, hd⟩ := e.isList
  obtain ⟨⟨cls2, dd2, data2, sl2⟩, ho2, hc2, n2, hd2⟩ := e2.isList
  simp only at hc hd hc2 hd2
  subst hc hd hc2 hd2
  have e : its.toArray ++ its2.toArray = (its ++ its2).toArray := by simp
  refine concat_meets ⟨_, ho, rfl⟩ ⟨_, ho2, rfl⟩ noFill_list_add seq_list_add PySem.F.slot_list_add PySem.F.entry_list_add (PySem.F.args_list_add_2 _ _) (list_addW l b its.toArray its2.toArray n n2 dd dd2 sl sl2 (by rw [List.size_toArray, List.size_toArray]; omega)) ⟨ho, ho2, ?_⟩
  rw [e]
  exact ⟨.ref _, _, I.lnew (t' := s.toks) (r.append r2) (by rw [List.length_append]; omega), rfl, q _ I.fresh⟩
theorem bin_full (hK : X.K = L.K) (o : BOp) : OpR X (binaryOp (opS o)) (rV2 L (binop o)) := by
  intro pins s σ H x y v u Q I rx ry h
  obtain ⟨φ, st, p, q, R, hp, hq, P⟩ := h
  cases p with
  | int i =>
    cases q with
    | int j =>
      obtain rfl : x = .int i := hp
      obtain rfl : y = .int j := hq
      have P' : PostE L (fun _ _ _ _ => False) [] φ H ((M.opt (arith o i j) >>= fun k => pure (.int k)) st) Q := P
      cases e : arith o i j with
      | none => rw [opt_none e] at P'; exact (show False from P').elim
      | some k =>
        rw [opt_bind e] at P'
        exact binop_int o I rx ry e (int_post P' R)
    | _ => exact (show False from P).elim
  | str a =>
    cases q with
    | str b =>
      cases o with
      | add =>
        obtain rfl : x = .str ⟨a.toArray⟩ := hp
        obtain rfl : y = .str ⟨b.toArray⟩ := hq
        have P' : PostE L (fun _ _ _ _ => False) [] φ H ((M.guard (decide (a.length + b.length ≤ lineN)) >>= fun _ => pure (.str (a ++ b))) st) Q := P
        by_cases hl : a.length + b.length ≤ lineN
        · rw [guard_ok (by simpa using hl)] at P'
          refine op_add_str pins s σ H _ _ v u Q I rx ry ⟨_, _, rfl, rfl, ?_, ?_⟩
          · show a.toArray.size + b.toArray.size ≤ sizeLine
            have : (lineN : Nat) ≤ sizeLine := by decide
            simp; omega
          · have e : (⟨a.toArray⟩ ++ ⟨b.toArray⟩ : Str) = ⟨(a ++ b).toArray⟩ := by
              show (⟨a.toArray ++ b.toArray⟩ : Str) = _
              simp
            rw [e]
            exact P'.ret R rfl
        · rw [guard_no (by simpa using hl)] at P'; exact (show False from P').elim
      | _ => exact (show False from P).elim
    | _ => exact (show False from P).elim
  | tup a =>
    obtain ⟨pa, vs, rfl, ha, hva⟩ := (show ∃ (pa : Addr) (vs : List V), x = .ref pa ∧ SqT L.K H pa vs ∧ VRs L φ H a vs from hp)
    cases q with
    | tup b =>
      obtain ⟨pb, ws, rfl, hb, hvb⟩ := (show ∃ (pa : Addr) (vs : List V), y = .ref pa ∧ SqT L.K H pa vs ∧ VRs L φ H b vs from hq)
      cases o with
      | add =>
        have P' : PostE L (fun _ _ _ _ => False) [] φ H ((M.guard (decide (a.length + b.length ≤ lineN)) >>= fun _ => pure (.tup (a ++ b))) st) Q := P
        by_cases hl : a.length + b.length ≤ lineN
        · rw [guard_ok (by simpa using hl)] at P'
          have : (lineN : Nat) ≤ sizeLine := by decide
          refine op_catA pins s σ H _ _ v u Q I rx ry ⟨pa, pb, vs, ws, rfl, rfl, by rw [hK]; exact ha, by rw [hK]; exact hb, by rw [hva.length, hvb.length]; omega, fun e => ?_, fun _ e => ?_, fun _ _ p hp => ?_⟩
          · have : a = [] := hva.nil_iff.mpr e
            subst this
            exact P'.ret R hq
          · have : b = [] := hvb.nil_iff.mpr e
            subst this
            rw [List.append_nil] at P'
            exact P'.ret R hp
          · exact P'.tup R (hva.append hvb) hp
        · rw [guard_no (by simpa using hl)] at P'; exact (show False from P').elim
      | _ => exact (show False from P).elim
    | int n =>
      obtain rfl : y = .int n := hq
      cases o with
      | mul =>
        have P' : PostE L (fun _ _ _ _ => False) [] φ H ((M.guard (2 ≤ n && n ≤ 1000 && 1 ≤ a.length && a.length ≤ 1000) >>= fun _ => pure (.tup (rep n.toNat a))) st) Q := P
        by_cases hl : (2 ≤ n && n ≤ 1000 && 1 ≤ a.length && a.length ≤ 1000) = true
        · rw [guard_ok hl] at P'
          simp only [Bool.and_eq_true, decide_eq_true_eq] at hl
          refine op_repT pins s σ H _ _ v u Q I rx ry ⟨pa, n, vs, rfl, rfl, by rw [hK]; exact ha, fun e => ?_, by omega, by omega, by rw [hva.length]; omega, fun p hp => ?_⟩
          · have := hva.nil_iff.mpr e
            subst this
            simp at hl
          · exact P'.tup R (hva.rep _) hp
        · rw [guard_no (by simpa using hl)] at P'; exact (show False from P').elim
      | _ => exact (show False from P).elim
    | _ => exact (show False from P).elim
  | ref r =>
    obtain ⟨pa, rfl, ha⟩ := (show ∃ a : Addr, x = .ref a ∧ φ[r]? = some a from hp)
    cases q with
    | ref t =>
      obtain ⟨pb, rfl, hb⟩ := (show ∃ a : Addr, y = .ref a ∧ φ[t]? = some a from hq)
      cases o with
      | add =>
        have P' : PostE L (fun _ _ _ _ => False) [] φ H ((getOb r >>= fun o1 => getOb t >>= fun o2 => match o1, o2 with
          | .list x, .list y => M.guard (decide (x.length + y.length ≤ lineN)) >>= fun _ => alloc (.list (x ++ y))
          | _, _ => M.stop) st) Q := P
        cases e1 : st.objs[r]? with
        | none => rw [getOb_no e1] at P'; exact (show False from P').elim
        | some o1 =>
          rw [getOb_bind e1] at P'
          cases e2 : st.objs[t]? with
          | none => rw [getOb_no e2] at P'; exact (show False from P').elim
          | some o2 =>
            rw [getOb_bind e2] at P'
            cases o1 with
            | list a =>
              cases o2 with
              | list b =>
                dsimp only at P'
                by_cases hl : a.length + b.length ≤ lineN
                · rw [guard_ok (by simpa using hl)] at P'
                  obtain ⟨a1, vs, i1, i2, i3, i4, i5⟩ := R.lst e1
                  obtain ⟨a2, ws, j1, j2, j3, j4, j5⟩ := R.lst e2
                  rw [ha] at i1; cases i1
                  rw [hb] at j1; cases j1
                  have : (lineN : Nat) ≤ sizeLine := by decide
                  refine cat_seq (by rw [hK]; exact i3) (by rw [hK]; exact j3) I rx ry (by rw [i2.length, j2.length]; omega) fun p hp => ?_
                  exact P'.list R (i2.append j2) hp
                · rw [guard_no (by simpa using hl)] at P'; exact (show False from P').elim
              | _ => exact (show False from P').elim
            | _ => cases o2 <;> exact (show False from P').elim
      | _ => exact (show False from P).elim
    | int n =>
      obtain rfl : y = .int n := hq
      cases o with
      | mul =>
        have P' : PostE L (fun _ _ _ _ => False) [] φ H ((getOb r >>= fun o1 => match o1 with
          | .list x => M.guard (0 ≤ n && n ≤ 1000 && x.length ≤ 1000) >>= fun _ => freeOb r >>= fun _ => alloc (.list (rep n.toNat x))
          | _ => M.stop) st) Q := P
        cases e1 : st.objs[r]? with
        | none => rw [getOb_no e1] at P'; exact (show False from P').elim
        | some o1 =>
          rw [getOb_bind e1] at P'
          cases o1 with
          | list a =>
            dsimp only at P'
            by_cases hl : (0 ≤ n && n ≤ 1000 && a.length ≤ 1000) = true
            · rw [guard_ok hl] at P'
              simp only [Bool.and_eq_true, decide_eq_true_eq] at hl
              obtain ⟨a1, vs, i1, i2, i3, i4, i5⟩ := R.lst e1
              rw [ha] at i1; cases i1
              obtain ⟨hlk, P'⟩ := free_bind P'
              have hF : r ∉ L.F := fun z => by
                have := (R.fr r z).1
                rw [List.contains_iff_mem.mpr this] at hlk; cases hlk
              refine op_rep pins s σ H _ _ v u Q I rx ry ⟨pa, n, vs, rfl, rfl, i5 hF, by omega, by omega, ?_, fun p hp => ?_⟩
              · rw [i2.length]
                have h1 : n.toNat ≤ 1000 := by omega
                have : a.length * n.toNat ≤ 1000 * 1000 := Nat.mul_le_mul hl.2 h1
                have : (1000 * 1000 : Nat) ≤ sizeLine := by decide
                omega
              · exact P'.list R (i2.rep _) hp
            · rw [guard_no (by simpa using hl)] at P'; exact (show False from P').elim
          | _ => exact (show False from P').elim
      | _ => exact (show False from P).elim
    | _ => exact (show False from P).elim
  | _ => cases q <;> exact (show False from P).elim
end
end TL
end

section
set_option maxRecDepth 100000
set_option maxHeartbeats 1000000
set_option autoImplicit false
/-! TL: dicts: keys, entries, looking up, storing, dropping. -/
namespace TL
open PySem PySem.Spec PyProof.Rows L2
/-! ### keys -/
theorem lineN_le : lineN ≤ sizeLine := by rw [sizeLine_eq]; decide
theorem Str.eta (x : Str) : (⟨x.cps.toList.toArray⟩ : Str) = x := by simp
theorem keyV_inj {a b : Key} (h : keyV a = keyV b) : a = b := by
  cases a with
  | inl i => cases b with
    | inl j => cases h; rfl
    | inr y => cases h
  | inr x => cases b with
    | inl j => cases h
    | inr y =>
      have e : x.cps.toList = y.cps.toList := by injection h
      have : x = y := by rw [← Str.eta x, ← Str.eta y, e]
      rw [this]
mutual
theorem nkV_inj : ∀ a b : NestedKey, nkV a = nkV b → a = b
  | .none, .none, _ => rfl
  | .num i, .num j, h => by simp only [nkV] at h; cases h; rfl
  | .text x, .text y, h => by
    simp only [nkV] at h
    have e : x.cps.toList = y.cps.toList := by injection h
    have : x = y := by rw [← Str.eta x, ← Str.eta y, e]
    rw [this]
  | .tup a, .tup b, h => by
    simp only [nkV] at h
    have e : nkVs a = nkVs b := by injection h
    rw [nkVs_inj a b e]
  | .none, .num _, h | .none, .text _, h | .none, .tup _, h => by simp only [nkV] at h; cases h
  | .num _, .none, h | .num _, .text _, h | .num _, .tup _, h => by simp only [nkV] at h; cases h
  | .text _, .none, h | .text _, .num _, h | .text _, .tup _, h => by simp only [nkV] at h; cases h
  | .tup _, .none, h | .tup _, .num _, h | .tup _, .text _, h => by simp only [nkV] at h; cases h
theorem nkVs_inj : ∀ a b : List NestedKey, nkVs a = nkVs b → a = b
  | [], [], _ => rfl
  | a :: as, b :: bs, h => by
    simp only [nkVs] at h
    have e1 : nkV a = nkV b := by injection h
    have e2 : nkVs as = nkVs bs := by injection h
    rw [nkV_inj a b e1, nkVs_inj as bs e2]
  | [], _ :: _, h => by simp only [nkVs] at h; cases h
  | _ :: _, [], h => by simp only [nkVs] at h; cases h
end
theorem beq_dec {K : Type} [DecidableEq K] {f : K → PV} (inj : ∀ a b, f a = f b → a = b) (a b : K) : PV.beq (f a) (f b) = decide (a = b) := by
  by_cases e : a = b
  · subst e; rw [PV.beq_self]; simp
  · rw [decide_eq_false e]
    cases h : PV.beq (f a) (f b) with
    | true => exact absurd (inj _ _ (PV.eq_of_beq _ _ h)) e
    | false => rfl
/-- a plain value as a nested key -/
theorem plain_nk : ∀ (n : Nat) (x : PV), plainV n x = true → ∃ k, x = nkV k ∧ k.depth ≤ n
  | 0, x, h => by simp [plainV] at h
  | n + 1, x, h => by
    cases x with
    | int i => exact ⟨.num i, rfl, by simp [NestedKey.depth]⟩
    | str s => exact ⟨.text ⟨s.toArray⟩, by simp [nkV], by simp [NestedKey.depth]⟩
    | tup xs =>
      have h' : xs.all (plainV n) = true := h
      have all : ∀ ys : List PV, ys.all (plainV n) = true → ∃ ks, ys = nkVs ks ∧ NestedKey.depthAll ks ≤ n := by
        intro ys
        induction ys with
        | nil => intro _; exact ⟨[], rfl, by simp [NestedKey.depthAll]⟩
        | cons y ys ih =>
          intro hy
          rw [List.all_cons, Bool.and_eq_true] at hy
          obtain ⟨k, e1, d1⟩ := plain_nk n y hy.1
          obtain ⟨ks, e2, d2⟩ := ih hy.2
          exact ⟨k :: ks, by rw [e1, e2]; rfl, by simp only [NestedKey.depthAll]; exact Nat.max_le.mpr ⟨d1, d2⟩⟩
      obtain ⟨ks, e, d⟩ := all xs h'
      exact ⟨.tup ks, by rw [e]; simp only [nkV], by simp only [NestedKey.depth]; omega⟩
    | _ => simp [plainV] at h
theorem plain_leaf {n : Nat} {x : PV} (h : plainV n x = true) (ht : isT x = false) : ∃ k : Key, x = keyV k := by
  cases n with
  | zero => simp [plainV] at h
  | succ n =>
    cases x with
    | int i => exact ⟨.inl i, rfl⟩
    | str s => exact ⟨.inr ⟨s.toArray⟩, by simp [keyV]⟩
    | tup xs => cases ht
    | _ => simp [plainV] at h
theorem isT_key (k : Key) : isT (keyV k) = false := by cases k <;> rfl
section
variable {L : Lk} {φ : List Addr} {H : Hp} {X : Cx} {pins : List (Addr × Obj)} {σ : L2.St} {s : Shared}
theorem key_is {k : Key} {v : V} {u : Value} (h : VR L φ H (keyV k) v) (r : RelV v u) : (mixKind X.prog X.w).is k u = true := by
  cases k with
  | inl i =>
    obtain rfl : v = .int i := h
    obtain ⟨t, rfl⟩ := r
    exact mixKind_int _ _ i t
  | inr x =>
    obtain rfl : v = .str ⟨x.cps.toList.toArray⟩ := h
    obtain ⟨t, rfl⟩ := r
    rw [Str.eta]
    exact mixKind_str _ _ x t
mutual
theorem nested_is (hK : X.K = L.K) (I : Inv X pins σ H s) : ∀ (k : NestedKey) (v : V) (u : Value), VR L φ H (nkV k) v → RelV v u → NestedIs s.heap k u
  | .none, v, u, h, r => by
    simp only [nkV] at h
    obtain rfl : v = .non := h
    obtain rfl : u = Value.none := r
    exact .none
  | .num i, v, u, h, r => by
    simp only [nkV] at h
    obtain rfl : v = .int i := h
    obtain ⟨t, rfl⟩ := r
    exact .int i t
  | .text x, v, u, h, r => by
    simp only [nkV] at h
    obtain rfl : v = .str ⟨x.cps.toList.toArray⟩ := h
    obtain ⟨t, rfl⟩ := r
    rw [Str.eta]
    exact .text x t
  | .tup ks, v, u, h, r => by
    simp only [nkV] at h
    obtain ⟨a, vs, rfl, ha, hv⟩ := (show ∃ (a : Addr) (vs : List V), v = .ref a ∧ SqT L.K H a vs ∧ VRs L φ H (nkVs ks) vs from h)
    obtain rfl : u = .ref a := r
    obtain ⟨its, rv, ⟨o, e, c, n, d⟩, _⟩ := I.tuple (by rw [hK]; exact ha)
    exact .tup e c d (by simpa using nested_all hK I ks vs its hv rv)
theorem nested_all (hK : X.K = L.K) (I : Inv X pins σ H s) : ∀ (ks : List NestedKey) (vs : List V) (us : List Value), VRs L φ H (nkVs ks) vs → Vals vs us → NestedAll s.heap ks us
  | [], vs, us, h, r => by
    obtain rfl : vs = [] := h
    cases r
    exact .nil
  | k :: ks, vs, us, h, r => by
    obtain ⟨v, ws, rfl, h1, h2⟩ := (show ∃ v r, vs = v :: r ∧ VR L φ H (nkV k) v ∧ VRs L φ H (nkVs ks) r from h)
    cases r with
    | cons r1 r2 => exact .cons (nested_is hK I k v _ h1 r1) (nested_all hK I ks ws _ h2 r2)
end
end

/-! ### entries -/
section
variable {K : Type} [DecidableEq K]
theorem stored_cons {p : K × Value} {r : List (K × Value)} {k : K} {v : Value} (hn : ((p :: r).map (·.1)).Nodup) : stored (p :: r) k v = if p.1 = k then (p.1, v) :: r else p :: stored r k v := by
  rw [List.map_cons, List.nodup_cons] at hn
  unfold stored
  rw [List.any_cons, List.map_cons]
  by_cases e : p.1 = k
  · have hm : (r.map fun kv => if kv.1 = k then (kv.1, v) else kv) = r := by
      have : ∀ q ∈ r, (if q.1 = k then (q.1, v) else q) = q := fun q hq => if_neg fun z => hn.1 (List.mem_map.mpr ⟨q, hq, by rw [z, e]⟩)
      conv => rhs; rw [← List.map_id r]
      exact List.map_congr_left fun q hq => this q hq
    simp only [e, decide_true, Bool.true_or, if_true, hm]
  · simp only [e, decide_false, Bool.false_or, if_false]
    split <;> rfl
theorem storedH_cons {p : K × Addr × Value} {r : List (K × Addr × Value)} {k : K} {a : Addr} {v : Value} (hn : ((p :: r).map (·.1)).Nodup) : storedH (p :: r) k a v = if p.1 = k then (p.1, p.2.1, v) :: r else p :: storedH r k a v := by
  rw [List.map_cons, List.nodup_cons] at hn
  unfold storedH
  by_cases e : p.1 = k
  · have h1 : atKey (p :: r) k = some p.2 := by simp [atKey, e]
    have hm : r.map (putAt k v) = r := by
      have : ∀ q ∈ r, putAt k v q = q := fun q hq => if_neg fun z => hn.1 (List.mem_map.mpr ⟨q, hq, by rw [z, e]⟩)
      conv => rhs; rw [← List.map_id r]
      exact List.map_congr_left fun q hq => this q hq
    rw [h1, if_pos e, List.map_cons, hm]
    simp [putAt, e]
  · have h1 : atKey (p :: r) k = atKey r k := by simp [atKey, e]
    rw [h1, if_neg e, List.map_cons]
    have : putAt k v p = p := if_neg e
    rw [this]
    split <;> rfl
theorem without_cons {p : K × Value} {r : List (K × Value)} {k : K} (hn : ((p :: r).map (·.1)).Nodup) : without (p :: r) k = if p.1 = k then r else p :: without r k := by
  rw [List.map_cons, List.nodup_cons] at hn
  by_cases e : p.1 = k
  · rw [if_pos e]
    have : without (p :: r) k = without r k := by simp [without, e]
    rw [this]
    exact without_of_not_mem r k (by rw [← e]; exact hn.1)
  · rw [if_neg e]
    simp [without, e]
theorem withoutH_cons {p : K × Addr × Value} {r : List (K × Addr × Value)} {k : K} (hn : ((p :: r).map (·.1)).Nodup) : withoutH (p :: r) k = if p.1 = k then r else p :: withoutH r k := by
  rw [List.map_cons, List.nodup_cons] at hn
  by_cases e : p.1 = k
  · rw [if_pos e]
    have : withoutH (p :: r) k = withoutH r k := by simp [withoutH, e]
    rw [this]
    exact withoutH_of_not_mem r k (by rw [← e]; exact hn.1)
  · rw [if_neg e]
    simp [withoutH, e]
theorem atKey_cons {p : K × Addr × Value} {r : List (K × Addr × Value)} {k : K} : atKey (p :: r) k = if p.1 = k then some p.2 else atKey r k := by
  by_cases e : p.1 = k
  · simp [atKey, e]
  · simp [atKey, e]
end
section
variable {q k w v : PV} {r : List (PV × PV)}
theorem lookD_cons {b : Bool} (h : PV.beq q k = b) : lookD ((q, v) :: r) k = if b = true then some v else lookD r k := by
  show (match PV.beq q k with | true => some v | false => lookD r k) = _
  rw [h]; cases b <;> rfl
theorem storeD_cons {b : Bool} (h : PV.beq q k = b) : storeD ((q, w) :: r) k v = if b = true then (q, v) :: r else (q, w) :: storeD r k v := by
  show (match PV.beq q k with | true => (q, v) :: r | false => (q, w) :: storeD r k v) = _
  rw [h]; cases b <;> rfl
theorem dropD_cons {b : Bool} (h : PV.beq q k = b) : dropD ((q, w) :: r) k = if b = true then r else (q, w) :: dropD r k := by
  show (match PV.beq q k with | true => r | false => (q, w) :: dropD r k) = _
  rw [h]; cases b <;> rfl
end
theorem dropD_le : ∀ (kvs : List (PV × PV)) (k : PV), (dropD kvs k).length ≤ kvs.length
  | [], _ => Nat.le_refl _
  | (q, w) :: r, k => by
    rw [dropD_cons rfl]
    split
    · exact Nat.le_succ _
    · exact Nat.succ_le_succ (dropD_le r k)
theorem storeD_le : ∀ (kvs : List (PV × PV)) (k v : PV), (storeD kvs k v).length ≤ kvs.length + 1
  | [], _, _ => Nat.le_refl _
  | (q, w) :: r, k, v => by
    rw [storeD_cons rfl]
    split
    · exact Nat.le_succ _
    · exact Nat.succ_le_succ (storeD_le r k v)
section
variable {L : Lk} {φ : List Addr} {H : Hp}
theorem EL.look (k : Key) : ∀ {kvs : List (PV × PV)} {vs : List (Key × Value)}, Paired (EL L φ H) kvs vs → (∀ y, lookD kvs (keyV k) = some y → ∃ u, valueAt vs k = some u ∧ ∃ v, VR L φ H y v ∧ RelV v u) ∧ (lookD kvs (keyV k) = none → valueAt vs k = none)
  | _, _, .nil => ⟨fun y e => (by simp [lookD] at e), fun _ => rfl⟩
  | (q, y0) :: kvs, p :: vs, .cons ⟨e, v, g1, g2⟩ t => by
    dsimp only at e
    subst e
    rw [lookD_cons (beq_dec (fun _ _ h => keyV_inj h) p.1 k), valueAt_cons]
    by_cases c : p.1 = k
    · simp only [c, decide_true, if_true]
      exact ⟨fun y e => by cases e; exact ⟨_, rfl, v, g1, g2⟩, fun e => by cases e⟩
    · simp only [c, decide_false, if_false, Bool.false_eq_true]
      exact EL.look k t
theorem EN.look (k : NestedKey) : ∀ {kvs : List (PV × PV)} {vs : List (NestedKey × Addr × Value)}, Paired (EN L φ H) kvs vs → (∀ y, lookD kvs (nkV k) = some y → ∃ u, atKey vs k = some u ∧ ∃ v, VR L φ H y v ∧ RelV v u.2) ∧ (lookD kvs (nkV k) = none → atKey vs k = none)
  | _, _, .nil => ⟨fun y e => (by simp [lookD] at e), fun _ => rfl⟩
  | (q, y0) :: kvs, p :: vs, .cons ⟨⟨e, e2, e3, e4⟩, v, g1, g2⟩ t => by
    dsimp only at e
    subst e
    rw [lookD_cons (beq_dec nkV_inj p.1 k), atKey_cons]
    by_cases c : p.1 = k
    · simp only [c, decide_true, if_true]
      exact ⟨fun y e => by cases e; exact ⟨_, rfl, v, g1, g2⟩, fun e => by cases e⟩
    · simp only [c, decide_false, if_false, Bool.false_eq_true]
      exact EN.look k t
theorem EL.put {k : Key} {y : PV} {v : V} {u : Value} (hy : VR L φ H y v) (ru : RelV v u) : ∀ {kvs : List (PV × PV)} {vs : List (Key × Value)}, (vs.map (·.1)).Nodup → Paired (EL L φ H) kvs vs → Paired (EL L φ H) (storeD kvs (keyV k) y) (stored vs k u)
  | _, _, _, .nil => .cons ⟨rfl, v, hy, ru⟩ .nil
  | (q, y0) :: kvs, p :: vs, hn, .cons ⟨e, v0, g1, g2⟩ t => by
    dsimp only at e
    subst e
    rw [storeD_cons (beq_dec (fun _ _ h => keyV_inj h) p.1 k), stored_cons hn]
    by_cases c : p.1 = k
    · simp only [c, decide_true, if_true]
      exact .cons ⟨rfl, v, hy, ru⟩ t
    · simp only [c, decide_false, if_false, Bool.false_eq_true]
      exact .cons ⟨rfl, v0, g1, g2⟩ (EL.put hy ru (by rw [List.map_cons, List.nodup_cons] at hn; exact hn.2) t)
theorem EN.put {k : NestedKey} {a : Addr} {y : PV} {v : V} {u : Value} (ht : isT (nkV k) = true) (hd : k.depth ≤ 8) (ha : VR L φ H (nkV k) (.ref a)) (hy : VR L φ H y v) (ru : RelV v u) :
    ∀ {kvs : List (PV × PV)} {vs : List (NestedKey × Addr × Value)}, (vs.map (·.1)).Nodup → Paired (EN L φ H) kvs vs → Paired (EN L φ H) (storeD kvs (nkV k) y) (storedH vs k a u)
  | _, _, _, .nil => .cons ⟨⟨rfl, ht, hd, ha⟩, v, hy, ru⟩ .nil
  | (q, y0) :: kvs, p :: vs, hn, .cons ⟨⟨e, e2, e3, e4⟩, v0, g1, g2⟩ t => by
    dsimp only at e
    subst e
    rw [storeD_cons (beq_dec nkV_inj p.1 k), storedH_cons hn]
    by_cases c : p.1 = k
    · simp only [c, decide_true, if_true]
      subst c
      exact .cons ⟨⟨rfl, e2, e3, e4⟩, v, hy, ru⟩ t
    · simp only [c, decide_false, if_false, Bool.false_eq_true]
      exact .cons ⟨⟨rfl, e2, e3, e4⟩, v0, g1, g2⟩ (EN.put ht hd ha hy ru (by rw [List.map_cons, List.nodup_cons] at hn; exact hn.2) t)
theorem EL.drop {k : Key} : ∀ {kvs : List (PV × PV)} {vs : List (Key × Value)}, (vs.map (·.1)).Nodup → Paired (EL L φ H) kvs vs → Paired (EL L φ H) (dropD kvs (keyV k)) (without vs k)
  | _, _, _, .nil => .nil
  | (q, y0) :: kvs, p :: vs, hn, .cons ⟨e, v0, g1, g2⟩ t => by
    dsimp only at e
    subst e
    rw [dropD_cons (beq_dec (fun _ _ h => keyV_inj h) p.1 k), without_cons hn]
    by_cases c : p.1 = k
    · simp only [c, decide_true, if_true]
      exact t
    · simp only [c, decide_false, if_false, Bool.false_eq_true]
      exact .cons ⟨rfl, v0, g1, g2⟩ (EL.drop (by rw [List.map_cons, List.nodup_cons] at hn; exact hn.2) t)
theorem EN.drop {k : NestedKey} : ∀ {kvs : List (PV × PV)} {vs : List (NestedKey × Addr × Value)}, (vs.map (·.1)).Nodup → Paired (EN L φ H) kvs vs → Paired (EN L φ H) (dropD kvs (nkV k)) (withoutH vs k)
  | _, _, _, .nil => .nil
  | (q, y0) :: kvs, p :: vs, hn, .cons ⟨⟨e, e2, e3, e4⟩, v0, g1, g2⟩ t => by
    dsimp only at e
    subst e
    rw [dropD_cons (beq_dec nkV_inj p.1 k), withoutH_cons hn]
    by_cases c : p.1 = k
    · simp only [c, decide_true, if_true]
      exact t
    · simp only [c, decide_false, if_false, Bool.false_eq_true]
      exact .cons ⟨⟨rfl, e2, e3, e4⟩, v0, g1, g2⟩ (EN.drop (by rw [List.map_cons, List.nodup_cons] at hn; exact hn.2) t)
theorem paired_len {α β : Type} {F : α → β → Prop} : ∀ {l : List α} {m : List β}, Paired F l m → l.length = m.length
  | _, _, .nil => rfl
  | _, _, .cons _ t => by rw [List.length_cons, List.length_cons, paired_len t]
/-- the empty dict, as both kinds -/
theorem DR.empty {o : Obj} {ep : Nat} (hx : o.ExactDict) (hd : o.data = .dict #[] ep) : DR L φ H o [] :=
  ⟨Nat.zero_le _, .inl ⟨[], ⟨#[], ep, hx, hd, fun e he => by simp at he, .nil, List.nodup_nil⟩, .nil⟩⟩
/-- a dict by the kind of a key that may stand in it -/
theorem DR.kinds {o : Obj} {kvs : List (PV × PV)} (h : DR L φ H o kvs) (hx : o.ExactDict) {x : PV} (hk : keyOk kvs x = true) :
    (∃ k vs, x = keyV k ∧ o.IsDictOf (mixKind L.P L.w) vs ∧ Paired (EL L φ H) kvs vs) ∨
    ∃ k xs es ep, x = nkV k ∧ isT x = true ∧ k.depth ≤ 8 ∧ o.data = .dict es ep ∧ es.toList = xs.map (entryOfKey (nestedKind L.P L.w)) ∧ (xs.map (·.1)).Nodup ∧ Paired (EN L φ H) kvs xs := by
  unfold keyOk at hk
  rw [Bool.and_eq_true] at hk
  obtain ⟨hp, hh⟩ := hk
  rcases h.2 with ⟨vs, h1, h2⟩ | ⟨xs, es, ep, h1, h2, h3, h4⟩
  · cases ht : isT x with
    | false =>
      obtain ⟨k, rfl⟩ := plain_leaf hp ht
      exact .inl ⟨k, vs, rfl, h1, h2⟩
    | true =>
      cases h2 with
      | nil =>
        obtain ⟨es, ep, g1, g2, g3, g4, g5⟩ := h1
        have e0 : es.toList = [] := by generalize es.toList = l at g4; cases g4; rfl
        obtain ⟨k, e, d⟩ := plain_nk 8 x hp
        exact .inr ⟨k, [], es, ep, e, rfl, d, g2, e0, List.nodup_nil, .nil⟩
      | @cons p q ps qs hpq t =>
        obtain ⟨p1, p2⟩ := p
        have : isT p1 = isT x := by simpa using hh
        rw [ht, show p1 = keyV q.1 from hpq.1, isT_key] at this; cases this
  · cases ht : isT x with
    | true =>
      obtain ⟨k, e, d⟩ := plain_nk 8 x hp
      exact .inr ⟨k, xs, es, ep, e, rfl, d, h1, h2, h3, h4⟩
    | false =>
      cases h4 with
      | nil =>
        obtain ⟨k, rfl⟩ := plain_leaf hp ht
        have e0 : es = #[] := by
          have : es.toList = [] := h2
          simpa using this
        subst e0
        exact .inl ⟨k, [], rfl, ⟨#[], ep, hx, h1, fun e he => by simp at he, .nil, List.nodup_nil⟩, .nil⟩
      | @cons p q ps qs hpq t =>
        obtain ⟨p1, p2⟩ := p
        have : isT p1 = isT x := by simpa using hh
        rw [ht, show isT p1 = true from hpq.1.2.1] at this; cases this
/-- its entries for walks -/
theorem DR.walk {o : Obj} {kvs : List (PV × PV)} (h : DR L φ H o kvs) : ∃ (es : Array DictEntry) (ep : Nat) (ks : List V), o.data = .dict es ep ∧ es.size = ks.length ∧ VRs L φ H (kvs.map (·.1)) ks ∧ ∀ (i : Nat) (x : V), ks[i]? = some x → ∃ en : DictEntry, es[i]? = some en ∧ RelV x en.key := by
  rcases h.2 with ⟨vs, ⟨es, ep, g1, g2, g3, g4, g5⟩, h2⟩ | ⟨xs, es, ep, h1, h2, h3, h4⟩
  · have go : ∀ {l : List DictEntry} {kvs : List (PV × PV)} {vs : List (Key × Value)}, Pairs (mixKind L.P L.w) l vs → Paired (EL L φ H) kvs vs → ∃ ks : List V, l.length = ks.length ∧ VRs L φ H (kvs.map (·.1)) ks ∧ ∀ (i : Nat) (x : V), ks[i]? = some x → ∃ en : DictEntry, l[i]? = some en ∧ RelV x en.key := by
      intro l kvs vs hp hq
      induction hp generalizing kvs with
      | nil => cases hq; exact ⟨[], rfl, rfl, fun i x e => by simp at e⟩
      | @cons e kv es' kvs' hk hv t ih =>
        cases hq with
        | @cons p q ps qs hpq tq =>
          obtain ⟨ks, e1, e2, e3⟩ := ih tq
          have hkk : ∃ v, VR L φ H p.1 v ∧ RelV v e.key := by
            rw [hpq.1]
            rcases keyIs_shape (show keyIs kv.1 e.key = true from hk) with ⟨i, t, a1, a2⟩ | ⟨x, t, a1, a2⟩
            · rw [a1, a2]; exact ⟨.int i, rfl, t, rfl⟩
            · rw [a1, a2]; exact ⟨.str ⟨x.cps.toList.toArray⟩, rfl, t, by rw [Str.eta]⟩
          obtain ⟨v, hv1, hv2⟩ := hkk
          refine ⟨v :: ks, by rw [List.length_cons, List.length_cons, e1], ⟨v, ks, rfl, hv1, e2⟩, fun i x ex => ?_⟩
          cases i with
          | zero => simp at ex; subst ex; exact ⟨e, rfl, hv2⟩
          | succ i => simpa using e3 i x (by simpa using ex)
    obtain ⟨ks, e1, e2, e3⟩ := go g4 h2
    refine ⟨es, ep, ks, g2, by rw [← e1]; simp, e2, fun i x ex => ?_⟩
    obtain ⟨en, h5, h6⟩ := e3 i x ex
    exact ⟨en, by simpa using h5, h6⟩
  · have go : ∀ {kvs : List (PV × PV)} {xs : List (NestedKey × Addr × Value)}, Paired (EN L φ H) kvs xs → VRs L φ H (kvs.map (·.1)) (xs.map fun q => V.ref q.2.1) := by
      intro kvs xs hq
      induction hq with
      | nil => exact rfl
      | @cons p q ps qs hpq t ih => exact ⟨_, _, rfl, hpq.1.2.2.2, ih⟩
    refine ⟨es, ep, xs.map fun q => V.ref q.2.1, h1, ?_, go h4, fun i x ex => ?_⟩
    · have := congrArg List.length h2
      simpa using this
    · rw [List.getElem?_map] at ex
      obtain ⟨q, hq, rfl⟩ := Option.map_eq_some_iff.mp ex
      exact ⟨entryOfKey (nestedKind L.P L.w) q, by rw [← Array.getElem?_toList, h2, List.getElem?_map, hq]; rfl, rfl⟩
end

theorem keys_vals {es : Array DictEntry} {ks : List V} {acc : Array Value} (j2 : es.size = ks.length) (j4 : ∀ (i : Nat) (x : V), ks[i]? = some x → ∃ en : DictEntry, es[i]? = some en ∧ RelV x en.key) (h : ItemsOf (fun i v => ∃ hi : i < es.size, v = es[i].key) acc es.size) : Vals ks acc.toList := by
  obtain ⟨hs, hi⟩ := h
  have go : ∀ (ks : List V) (l : List Value), l.length = ks.length → (∀ (i : Nat) (x : V), ks[i]? = some x → ∃ u, l[i]? = some u ∧ RelV x u) → Vals ks l := by
    intro ks
    induction ks with
    | nil => intro l hl _; cases l with
      | nil => exact .nil
      | cons _ _ => simp at hl
    | cons k ks ih =>
      intro l hl hh
      cases l with
      | nil => simp at hl
      | cons u l =>
        obtain ⟨u', e, r⟩ := hh 0 k rfl
        simp at e; subst e
        exact .cons r (ih l (by simpa using hl) fun i x ex => by simpa using hh (i + 1) x (by simpa using ex))
  refine go ks acc.toList (by rw [Array.length_toList, hs, j2]) fun i x ex => ?_
  obtain ⟨en, e1, r⟩ := j4 i x ex
  have hlt : i < acc.size := by rw [hs, j2]; exact (List.getElem?_eq_some_iff.mp ex).1
  obtain ⟨hi', ev⟩ := hi i acc[i] (Array.getElem?_eq_getElem hlt)
  refine ⟨acc[i], by rw [Array.getElem?_toList]; exact Array.getElem?_eq_getElem hlt, ?_⟩
  rw [Array.getElem?_eq_getElem hi'] at e1
  cases e1
  rw [ev]; exact r
/-- a set's object -/
theorem SetS.obj {L : Lk} {H : Hp} {X : Cx} {pins : List (Addr × Obj)} {σ : L2.St} {s : Shared} {a : Addr} {xs : List PV} (hP : X.prog = L.P) (hW : X.w = L.w) (I : Inv X pins σ H s) (h : SetS L H a xs) :
    ∃ o es ep t, s.heap.get? a = some o ∧ o.ExactSet ∧ o.data = .set es ep t ∧ t.fits es.size = true ∧ es.size < scanBound ∧ es.size = xs.length := by
  rcases h with ⟨t, h1, h2, _⟩ | ⟨t, ns, h1, h2, _⟩ | ⟨T, h1, h2, h3⟩
  · obtain ⟨o, es, ep, tt, g1, g2, g3, g4, g5, g6, g7, g8⟩ := (show s.heap.SetOf (mixKind L.P L.w) a t.1 t.2 from (I.hok a _ h1).1)
    exact ⟨o, es, ep, tt, g1, g2, g3, g7, g6, g8.trans h2⟩
  · obtain ⟨o, es, ep, tt, g1, g2, g3, g4, g5, g6, g7, g8, g9, _⟩ := (show SetR L.w s.heap a t.1 t.2 from (I.hok a _ h1).1)
    exact ⟨o, es, ep, tt, g1, g2, g3, g8, g7, g9.trans h2⟩
  · obtain ⟨es, ep, tt, ⟨o, g1, g2, g3⟩, g4, g5, g6, g7, g8, g9, g10⟩ := (show SetT0 L.P L.w s.heap a T from (I.hok a _ h1).1).ex
    have hs : es.size = T.length := by
      have := congrArg List.length g4
      unfold rowsOf at this
      rw [Array.length_toList, List.length_map] at this
      exact this
    refine ⟨o, es, ep, tt, g1, g2, g3, ?_, by rw [hs]; simp only [scanBound]; omega, by rw [hs, h2.length_eq, List.length_map]⟩
    have q := g5.sz
    rw [List.length_map] at q
    unfold SetTable.fits SetTable.fill
    rw [g5.dm, Bool.and_eq_true, beq_iff_eq, decide_eq_true_eq]
    show tt.place.size = es.size ∧ tt.place.size + 0 ≤ tt.mask
    omega
/-! ### looking up, storing, dropping -/
section
variable {L : Lk} {φ : List Addr} {H : Hp} {X : Cx} {pins : List (Addr × Obj)} {σ : L2.St} {s : Shared} {a : Addr} {o : Obj} {kvs : List (PV × PV)} {x y : PV} {v w : V} {u r : Value} {A : Around} {E : Value → Shared → Prop}
theorem hp_obj (I : Inv X pins σ H s) (h : H a = some (dO a o)) : s.heap.get? a = some o := (I.hok a _ h).1
theorem Rl.dic {φ : List Addr} {st : Sto} {H : Hp} (R : Rl L φ st H) {r : Nat} {kvs : List (PV × PV)} (e : st.objs[r]? = some (.dict kvs)) : ∃ a o, φ[r]? = some a ∧ H a = some (dO a o) ∧ (a == sysModules) = false ∧ o.ExactDict ∧ DR L φ H o kvs := by
  obtain ⟨a, ea, h⟩ := R.get e
  obtain ⟨o, h1, h2, h3, h4⟩ := (show ∃ o, H a = some (dO a o) ∧ (a == sysModules) = false ∧ o.ExactDict ∧ DR L φ H o kvs from h)
  exact ⟨a, o, ea, h1, h2, h3, h4⟩
/-- the heap's dict by its object -/
theorem dictH_of (hK : X.K = L.K) (hP : X.prog = L.P) (hW : X.w = L.w) (I : Inv X pins σ H s) (h : H a = some (dO a o)) (hx : o.ExactDict) {xs : List (NestedKey × Addr × Value)} {es : Array DictEntry} {ep : Nat}
    (h1 : o.data = .dict es ep) (h2 : es.toList = xs.map (entryOfKey (nestedKind L.P L.w))) (h3 : (xs.map (·.1)).Nodup) (h4 : Paired (EN L φ H) kvs xs) : s.heap.DictOfH (nestedKind X.prog X.w) a xs := by
  rw [hP, hW]
  refine ⟨o, es, ep, hp_obj I h, hx, h1, h2, ?_, h3⟩
  clear h1 h2 h3
  induction h4 with
  | nil => intro z hz; cases hz
  | @cons p q ps qs hpq t ih =>
    intro z hz
    rcases List.mem_cons.mp hz with rfl | hz
    · exact ⟨nested_is hK I _ (.ref z.2.1) (.ref z.2.1) (by rw [← hpq.1.1]; exact hpq.1.2.2.2) rfl, hpq.1.2.2.1⟩
    · exact ih z hz
theorem dictL_of (hP : X.prog = L.P) (hW : X.w = L.w) (I : Inv X pins σ H s) (h : H a = some (dO a o)) {vs : List (Key × Value)} (hd : o.IsDictOf (mixKind L.P L.w) vs) : s.heap.DictOf (mixKind X.prog X.w) a vs := by
  rw [hP, hW]
  exact Heap.dictOf_iff.mpr ⟨o, hp_obj I h, hd⟩
/-- a key's side -/
theorem nk_is (hK : X.K = L.K) (I : Inv X pins σ H s) {k : NestedKey} (ht : isT (nkV k) = true) (hd : k.depth ≤ 8) (hx : VR L φ H (nkV k) v) (ru : RelV v u) : ∃ b, v = .ref b ∧ u = .ref b ∧ (nestedKind X.prog X.w).is s.heap k b := by
  cases k with
  | tup ks =>
    simp only [nkV] at hx
    obtain ⟨b, vs, rfl, hb, hv⟩ := (show ∃ (a : Addr) (vs : List V), v = .ref a ∧ SqT L.K H a vs ∧ VRs L φ H (nkVs ks) vs from hx)
    obtain rfl : u = .ref b := ru
    exact ⟨b, rfl, rfl, nested_is hK I _ (.ref b) (.ref b) (by simp only [nkV]; exact hx) rfl, hd⟩
  | _ => simp [nkV, isT] at ht
theorem nk_room (h : A.units + 65 < cLine) : (nestedKind X.prog X.w).room A.in1 := by
  show A.units + 1 + 8 < cLine
  omega
section
variable (hK : X.K = L.K) (hP : X.prog = L.P) (hW : X.w = L.w) (hu : A.units + 65 < cLine) (I : Inv X pins σ H s) (h : H a = some (dO a o)) (hs : (a == sysModules) = false) (hx : o.ExactDict) (D : DR L φ H o kvs) (hk : keyOk kvs x = true) (vx : VR L φ H x v) (ru : RelV v u)
include hK hP hW hu I h hs hx D hk vx ru
/-- d[x], there -/
theorem dk_getItem {Q : Value → Shared → Prop} (e : lookD kvs x = some y) (hq : ∀ w u' s', Inv X pins σ H s' → VR L φ H y w → RelV w u' → Q u' s') : wpAny (model X.prog X.w) A (PySem.getItem (.ref a) u) Q E s := by
  rcases D.kinds hx hk with ⟨k, vs, rfl, d1, d2⟩ | ⟨k, xs, es, ep, rfl, ht, hd, d1, d2, d3, d4⟩
  · obtain ⟨u', g1, w, g2, g3⟩ := (EL.look k d2).1 y e
    exact wpAny_getItem_of (key_is vx ru) (dictL_of hP hW I h d1).mapOf g1 (hq w u' _ (I.tok _) g2 g3)
  · obtain ⟨p, g1, w, g2, g3⟩ := (EN.look k d4).1 y e
    obtain ⟨b, rfl, rfl, hb⟩ := nk_is hK I ht hd vx ru
    exact wpAny_getItem_heap (nk_room hu) hb (dictH_of hK hP hW I h hx d1 d2 d3 d4) g1 (hq w p.2 _ (I.tok _) g2 g3)
/-- x in d -/
theorem dk_in {Q : Value → Shared → Prop} (hq : ∀ s', Inv X pins σ H s' → Q (.bool (lookD kvs x).isSome) s') : wpAny (model X.prog X.w) A (compareOp .In u (.ref a)) Q E s := by
  rcases D.kinds hx hk with ⟨k, vs, rfl, d1, d2⟩ | ⟨k, xs, es, ep, rfl, ht, hd, d1, d2, d3, d4⟩
  · have e : (valueAt vs k).isSome = (lookD kvs (keyV k)).isSome := by
      cases q : lookD kvs (keyV k) with
      | none => rw [(EL.look k d2).2 q]; rfl
      | some y => obtain ⟨u', g1, _⟩ := (EL.look k d2).1 y q; rw [g1]; rfl
    exact wpAny_in_of (key_is vx ru) hs (dictL_of hP hW I h d1).mapOf (by rw [e]; exact hq _ (I.tok _))
  · have e : (atKey xs k).isSome = (lookD kvs (nkV k)).isSome := by
      cases q : lookD kvs (nkV k) with
      | none => rw [(EN.look k d4).2 q]; rfl
      | some y => obtain ⟨u', g1, _⟩ := (EN.look k d4).1 y q; rw [g1]; rfl
    obtain ⟨b, rfl, rfl, hb⟩ := nk_is hK I ht hd vx ru
    exact wpAny_in_heap (nk_room hu) hb hs (dictH_of hK hP hW I h hx d1 d2 d3 d4) (by rw [e]; exact hq _ (I.tok _))
theorem dk_notIn {Q : Value → Shared → Prop} (hq : ∀ s', Inv X pins σ H s' → Q (.bool (!(lookD kvs x).isSome)) s') : wpAny (model X.prog X.w) A (compareOp .NotIn u (.ref a)) Q E s := by
  rcases D.kinds hx hk with ⟨k, vs, rfl, d1, d2⟩ | ⟨k, xs, es, ep, rfl, ht, hd, d1, d2, d3, d4⟩
  · have e : (valueAt vs k).isSome = (lookD kvs (keyV k)).isSome := by
      cases q : lookD kvs (keyV k) with
      | none => rw [(EL.look k d2).2 q]; rfl
      | some y => obtain ⟨u', g1, _⟩ := (EL.look k d2).1 y q; rw [g1]; rfl
    exact wpAny_notIn_of (key_is vx ru) hs (dictL_of hP hW I h d1).mapOf (by rw [e]; exact hq _ (I.tok _))
  · have e : (atKey xs k).isSome = (lookD kvs (nkV k)).isSome := by
      cases q : lookD kvs (nkV k) with
      | none => rw [(EN.look k d4).2 q]; rfl
      | some y => obtain ⟨u', g1, _⟩ := (EN.look k d4).1 y q; rw [g1]; rfl
    obtain ⟨b, rfl, rfl, hb⟩ := nk_is hK I ht hd vx ru
    exact wpAny_notIn_heap (nk_room hu) hb hs (dictH_of hK hP hW I h hx d1 d2 d3 d4) (by rw [e]; exact hq _ (I.tok _))
/-- d.get(x, r) -/
theorem dk_getOr {Q : Value → Shared → Prop} (vy : VR L φ H y w) (rr : RelV w r) (hq : ∀ w' u' s', Inv X pins σ H s' → VR L φ H ((lookD kvs x).getD y) w' → RelV w' u' → Q u' s') :
    wpAny (model X.prog X.w) A (call (.builtin "dict.get") [.ref a, u, r]) Q E s := by
  rcases D.kinds hx hk with ⟨k, vs, rfl, d1, d2⟩ | ⟨k, xs, es, ep, rfl, ht, hd, d1, d2, d3, d4⟩
  · have dd := dictL_of hP hW I h d1
    refine call_meetsIn PySem.F.slot_dict_get dd.typeIs PySem.F.entry_dict_get (PySem.F.args_dict_get_3 _ _ _) (meets_dict_get_default (mixKind X.prog X.w) a (key_is vx ru) hs r) ⟨valueAt vs, dd.mapOf, ?_⟩
    cases q : lookD kvs (keyV k) with
    | none =>
      rw [(EL.look k d2).2 q]
      rw [q] at hq
      exact hq w r _ (I.tok _) vy rr
    | some z =>
      obtain ⟨u', g1, w', g2, g3⟩ := (EL.look k d2).1 z q
      rw [g1]
      rw [q] at hq
      exact hq w' u' _ (I.tok _) g2 g3
  · obtain ⟨b, rfl, rfl, hb⟩ := nk_is hK I ht hd vx ru
    have dd := dictH_of hK hP hW I h hx d1 d2 d3 d4
    refine call_meetsIn PySem.F.slot_dict_get dd.typeIs PySem.F.entry_dict_get (PySem.F.args_dict_get_3 _ _ _) (meetsH_dict_get_default (nestedKind X.prog X.w) a b hs r) ⟨nk_room hu, k, xs, hb, dd, ?_⟩
    cases q : lookD kvs (nkV k) with
    | none =>
      rw [(EN.look k d4).2 q]
      rw [q] at hq
      exact hq w r _ (I.tok _) vy rr
    | some z =>
      obtain ⟨u', g1, w', g2, g3⟩ := (EN.look k d4).1 z q
      rw [g1]
      rw [q] at hq
      exact hq w' u'.2 _ (I.tok _) g2 g3
end
theorem DR.kept {o' : Obj} (hK : Kept H (upd H a (dO a o'))) (D : DR L φ H o kvs) : DR L φ (upd H a (dO a o')) o kvs := D.imp fun p _ => ⟨fun v => VR.mono0 (fun _ _ z => z) hK p.1 v, fun v => VR.mono0 (fun _ _ z => z) hK p.2 v⟩
theorem dO_mut : Mut (some (dO a o)) := by trivial
theorem kept_d {o' : Obj} (h : H a = some (dO a o)) : Kept H (upd H a (dO a o')) := Kept.put h dO_mut
theorem dO_ok {P : Program} {w : World} {H' : Hp} {h' : Heap} (e : h'.get? a = some o) : ObjOk P w H' h' a (dO a o) := ⟨e, ⟨_, e⟩, fun _ _ e k => k _ e⟩
/-- a dict's object is replaced by another dict's -/
theorem inv_dict {o' : Obj} {h' : Heap} {t' : Nat} (I : Inv X pins σ H s) (h : H a = some (dO a o)) (hs : Heap.SameBut a s.heap h') (e : h'.get? a = some o') : Inv X pins σ (upd H a (dO a o')) { s with heap := h', toks := t' } :=
  d_write I (by rw [h]; exact dO_mut) hs ⟨_, e⟩ (dO_ok e)
theorem dictL_new {h' : Heap} {vs : List (Key × Value)} (dd : h'.DictOf (mixKind X.prog X.w) a vs) : ∃ o', h'.get? a = some o' ∧ o'.ExactDict ∧ o'.IsDictOf (mixKind X.prog X.w) vs := by
  obtain ⟨o', e, d⟩ := Heap.dictOf_iff.mp dd
  obtain ⟨es, ep, hx, r⟩ := id d
  exact ⟨o', e, hx, d⟩
section
variable (hK : X.K = L.K) (hP : X.prog = L.P) (hW : X.w = L.w) (hu : A.units + 65 < cLine) (I : Inv X pins σ H s) (h : H a = some (dO a o)) (hs : (a == sysModules) = false) (hx : o.ExactDict) (D : DR L φ H o kvs) (hk : keyOk kvs x = true) (vx : VR L φ H x v) (ru : RelV v u)
include hK hP hW hu I h hs hx D hk vx ru
/-- d[x] = y -/
theorem dk_setItem {Q : Unit → Shared → Prop} (hl : kvs.length < lineN) (vy : VR L φ H y w) (rr : RelV w r) (hq : ∀ o' s', o'.ExactDict → DR L φ (upd H a (dO a o')) o' (storeD kvs x y) → Inv X pins σ (upd H a (dO a o')) s' → Q () s') :
    wpAny (model X.prog X.w) A (PySem.setItem (.ref a) u r) Q E s := by
  have hl2 : (storeD kvs x y).length ≤ lineN := Nat.le_trans (storeD_le _ _ _) hl
  rcases D.kinds hx hk with ⟨k, vs, rfl, d1, d2⟩ | ⟨k, xs, es, ep, rfl, ht, hd, d1, d2, d3, d4⟩
  · have dd := dictL_of hP hW I h d1
    have hn : (vs.map (·.1)).Nodup := by obtain ⟨_, _, _, _, _, _, z⟩ := d1; exact z
    refine wpAny_setItem_pairs (hsz := by rw [← paired_len d2]; exact Nat.le_trans (Nat.le_of_lt hl) lineN_le) (key_is vx ru) dd fun h' dd' hs' => ?_
    obtain ⟨o', e', hx', di⟩ := dictL_new dd'
    refine hq o' _ hx' ?_ (inv_dict (t' := s.toks + 1) I h hs' e')
    have D1 : DR L φ H o' (storeD kvs (keyV k) y) := ⟨hl2, .inl ⟨_, by rw [← hP, ← hW]; exact di, EL.put vy rr hn d2⟩⟩
    exact D1.kept (kept_d h)
  · obtain ⟨b, rfl, rfl, hb⟩ := nk_is hK I ht hd vx ru
    have dd := dictH_of hK hP hW I h hx d1 d2 d3 d4
    refine wpAny_setItem_heap (hsz := by rw [← paired_len d4]; exact Nat.le_trans (Nat.le_of_lt hl) lineN_le) (nk_room hu) hb dd fun h' dd' hs' => ?_
    obtain ⟨o', es', ep', e', hx', g1, g2, g3, g4⟩ := dd'
    refine hq o' _ hx' ?_ (inv_dict (t' := s.toks + (nestedKind X.prog X.w).draws k) I h hs' e')
    have D1 : DR L φ H o' (storeD kvs (nkV k) y) := ⟨hl2, .inr ⟨_, es', ep', g1, by rw [← hP, ← hW]; exact g2, g4, EN.put ht hd vx vy rr d3 d4⟩⟩
    exact D1.kept (kept_d h)
/-- d.pop(x), there -/
theorem dk_pop {Q : Value → Shared → Prop} (e : lookD kvs x = some y) (hq : ∀ o' w u' s', o'.ExactDict → DR L φ (upd H a (dO a o')) o' (dropD kvs x) → Inv X pins σ (upd H a (dO a o')) s' → VR L φ H y w → RelV w u' → Q u' s') :
    wpAny (model X.prog X.w) A (call (.builtin "dict.pop") [.ref a, u]) Q E s := by
  have hl := D.1
  have hl2 : (dropD kvs x).length ≤ lineN := Nat.le_trans (dropD_le _ _) hl
  rcases D.kinds hx hk with ⟨k, vs, rfl, d1, d2⟩ | ⟨k, xs, es, ep, rfl, ht, hd, d1, d2, d3, d4⟩
  · obtain ⟨u', g1, w, g2, g3⟩ := (EL.look k d2).1 y e
    have dd := dictL_of hP hW I h d1
    have hn : (vs.map (·.1)).Nodup := by obtain ⟨_, _, _, _, _, _, z⟩ := d1; exact z
    have hp : (keyPart u).isSome = true := by
      rcases keyIs_shape (show keyIs k u = true from key_is (X := X) vx ru) with ⟨i, t, _, a2⟩ | ⟨x, t, _, a2⟩ <;> (rw [a2]; rfl)
    refine call_meetsIn PySem.F.slot_dict_pop dd.typeIs PySem.F.entry_dict_pop (PySem.F.args_dict_pop_2 _ _) (meets_dict_pop_there (mixKind X.prog X.w) a (key_is vx ru) [] (.inl rfl) hp)
      ⟨vs, u', dd, by rw [← paired_len d2]; exact Nat.le_trans hl lineN_le, g1, fun h' dd' hs' => ?_⟩
    obtain ⟨o', e', hx', di⟩ := dictL_new dd'
    refine hq o' w u' _ hx' ?_ (inv_dict (t' := s.toks + 1) I h hs' e') g2 g3
    have D1 : DR L φ H o' (dropD kvs (keyV k)) := ⟨hl2, .inl ⟨_, by rw [← hP, ← hW]; exact di, EL.drop hn d2⟩⟩
    exact D1.kept (kept_d h)
  · obtain ⟨p, g1, w, g2, g3⟩ := (EN.look k d4).1 y e
    obtain ⟨b, rfl, rfl, hb⟩ := nk_is hK I ht hd vx ru
    have dd := dictH_of hK hP hW I h hx d1 d2 d3 d4
    refine call_pop_heap (hsz := by rw [← paired_len d4]; exact Nat.le_trans hl lineN_le) (more := []) (.inl rfl) (PySem.F.args_dict_pop_2 _ _) (nk_room hu) hb hs dd g1 fun h' dd' hs' => ?_
    obtain ⟨o', es', ep', e', hx', q1, q2, q3, q4⟩ := dd'
    refine hq o' w p.2 _ hx' ?_ (inv_dict (t' := s.toks + (nestedKind X.prog X.w).draws k) I h hs' e') g2 g3
    have D1 : DR L φ H o' (dropD kvs (nkV k)) := ⟨hl2, .inr ⟨_, es', ep', q1, by rw [← hP, ← hW]; exact q2, q4, EN.drop d3 d4⟩⟩
    exact D1.kept (kept_d h)
/-- d.setdefault(x, y) -/
theorem dk_setdefault {Q : Value → Shared → Prop} (hT : isT x = true) (hl : kvs.length < lineN) (vy : VR L φ H y w) (rr : RelV w r) (h1 : ∀ z w' u' s', lookD kvs x = some z → Inv X pins σ H s' → VR L φ H z w' → RelV w' u' → Q u' s')
    (h2 : lookD kvs x = none → ∀ o' s', o'.ExactDict → DR L φ (upd H a (dO a o')) o' (storeD kvs x y) → Inv X pins σ (upd H a (dO a o')) s' → Q r s') :
    wpAny (model X.prog X.w) A (call (.builtin "dict.setdefault") [.ref a, u, r]) Q E s := by
  have hl2 : (storeD kvs x y).length ≤ lineN := Nat.le_trans (storeD_le _ _ _) hl
  rcases D.kinds hx hk with ⟨k, vs, rfl, d1, d2⟩ | ⟨k, xs, es, ep, rfl, ht, hd, d1, d2, d3, d4⟩
  · rw [isT_key] at hT; cases hT
  · obtain ⟨b, rfl, rfl, hb⟩ := nk_is hK I ht hd vx ru
    have dd := dictH_of hK hP hW I h hx d1 d2 d3 d4
    refine call_setdefault_heap (hsz := by rw [← paired_len d4]; exact Nat.le_trans (Nat.le_of_lt hl) lineN_le) (nk_room hu) hb hs dd (fun p hp => ?_) fun hn h' dd' hs' => ?_
    · cases q : lookD kvs (nkV k) with
      | some z =>
        obtain ⟨u', g1, w', g2, g3⟩ := (EN.look k d4).1 z q
        rw [g1] at hp; cases hp
        exact h1 z w' _ _ q (I.tok _) g2 g3
      | none => rw [(EN.look k d4).2 q] at hp; cases hp
    · cases q : lookD kvs (nkV k) with
      | some z =>
        obtain ⟨u', g1, w', g2, g3⟩ := (EN.look k d4).1 z q
        rw [g1] at hn; cases hn
      | none =>
        obtain ⟨o', es', ep', e', hx', g1, g2, g3, g4⟩ := dd'
        refine h2 q o' _ hx' ?_ (inv_dict (t' := s.toks + (nestedKind X.prog X.w).draws k) I h hs' e')
        have D1 : DR L φ H o' (storeD kvs (nkV k) y) := ⟨hl2, .inr ⟨_, es', ep', g1, by rw [← hP, ← hW]; exact g2, g4, EN.put ht hd vx vy rr d3 d4⟩⟩
        exact D1.kept (kept_d h)
end
end
end TL
end

section
set_option maxRecDepth 100000
set_option maxHeartbeats 1000000
set_option autoImplicit false
/-! TL: data, comparisons. -/
namespace TL
open PySem PySem.Spec PyProof.Rows L2
section
variable {L : Lk} {φ : List Addr} {H : Hp} {st : Sto}
theorem mapO_cons {α β : Type} {f : α → Option β} {x : α} {xs : List α} {ds : List β} (e : mapO f (x :: xs) = some ds) : ∃ d r, f x = some d ∧ mapO f xs = some r ∧ ds = d :: r := by
  simp only [mapO] at e
  cases e1 : f x with
  | none => rw [e1] at e; cases e
  | some d =>
    cases e2 : mapO f xs with
    | none => rw [e1, e2] at e; cases e
    | some r => rw [e1, e2] at e; cases e; exact ⟨d, r, rfl, rfl, rfl⟩
theorem map_some {α β : Type} {f : α → β} {o : Option α} {b : β} (e : o.map f = some b) : ∃ a, o = some a ∧ b = f a := by
  cases o with
  | none => cases e
  | some a => cases e; exact ⟨a, rfl, rfl⟩
theorem canAll {ds : List PyData} (h : ∀ d ∈ ds, d.canLay0 = true) : PyData.canLayAll0 ds = true := by
  induction ds with
  | nil => simp [PyData.canLayAll0]
  | cons d ds ih =>
    simp only [PyData.canLayAll0, Bool.and_eq_true]
    exact ⟨h d (List.mem_cons_self ..), ih fun e he => h e (List.mem_cons_of_mem _ he)⟩
theorem depAll {ds : List PyData} {n : Nat} (h : ∀ d ∈ ds, d.depth ≤ n) : PyData.depthAll ds ≤ n := by
  induction ds with
  | nil => simp [PyData.depthAll]
  | cons d ds ih =>
    simp only [PyData.depthAll]
    exact Nat.max_le.mpr ⟨h d (List.mem_cons_self ..), ih fun e he => h e (List.mem_cons_of_mem _ he)⟩
/-- what opens as data reads as it -/
theorem toD_ok (R : Rl L φ st H) : ∀ (n : Nat) (x : PV) (v : V) (d : PyData), toD st.objs n x = some d → VR L φ H x v → Dp L.K H v d ∧ d.canLay0 = true ∧ d.depth ≤ n
  | 0, _, _, _, e, _ => by simp [toD] at e
  | n + 1, x, v, d, e, h => by
    have all : ∀ (xs : List PV) (ds : List PyData) (vs : List V), mapO (toD st.objs n) xs = some ds → VRs L φ H xs vs → DpAll L.K H vs ds ∧ (∀ d ∈ ds, d.canLay0 = true) ∧ ∀ d ∈ ds, d.depth ≤ n := by
      intro xs
      induction xs with
      | nil =>
        intro ds vs e h
        cases e
        obtain rfl : vs = [] := h
        exact ⟨.nil, (fun d hd => nomatch hd), (fun d hd => nomatch hd)⟩
      | cons x xs ih =>
        intro ds vs e h
        obtain ⟨d, r, e1, e2, rfl⟩ := mapO_cons e
        obtain ⟨w, ws, rfl, h1, h2⟩ := (show ∃ v r, vs = v :: r ∧ VR L φ H x v ∧ VRs L φ H xs r from h)
        obtain ⟨a1, a2, a3⟩ := toD_ok R n x w d e1 h1
        obtain ⟨b1, b2, b3⟩ := ih r ws e2 h2
        refine ⟨.cons a1 b1, fun q hq => ?_, fun q hq => ?_⟩
        · rcases List.mem_cons.mp hq with rfl | hq; exact a2; exact b2 q hq
        · rcases List.mem_cons.mp hq with rfl | hq; exact a3; exact b3 q hq
    cases x with
    | non => cases e; obtain rfl : v = .non := h; exact ⟨.non, by simp [PyData.canLay0], by simp [PyData.depth]⟩
    | bl b => cases e; obtain rfl : v = .bl b := h; exact ⟨.bl b, by simp [PyData.canLay0], by simp [PyData.depth]⟩
    | int i => cases e; obtain rfl : v = .int i := h; exact ⟨.int i, by simp [PyData.canLay0], by simp [PyData.depth]⟩
    | str s =>
      simp only [toD] at e
      split at e
      · rename_i hs
        cases e; obtain rfl : v = .str ⟨s.toArray⟩ := h
        exact ⟨.str _, by simpa [PyData.canLay0, PyData.strOk] using hs, by simp [PyData.depth]⟩
      · cases e
    | tup xs =>
      obtain ⟨a, vs, rfl, ha, hv⟩ := (show ∃ (a : Addr) (vs : List V), v = .ref a ∧ SqT L.K H a vs ∧ VRs L φ H xs vs from h)
      obtain ⟨ds, e1, rfl⟩ := map_some (show (mapO (toD st.objs n) xs).map PyData.tuple = some d from e)
      obtain ⟨b1, b2, b3⟩ := all xs ds vs e1 hv
      exact ⟨.tup ha b1, by simpa [PyData.canLay0] using canAll b2, by simp only [PyData.depth]; have := depAll b3; omega⟩
    | ref r =>
      obtain ⟨a, rfl, ha⟩ := (show ∃ a : Addr, v = .ref a ∧ φ[r]? = some a from h)
      simp only [toD] at e
      split at e
      · rename_i xs er
        obtain ⟨ds, e1, rfl⟩ := map_some e
        obtain ⟨a1, vs, i1, i2, i3, i4, i5⟩ := R.lst er
        rw [ha] at i1; cases i1
        obtain ⟨b1, b2, b3⟩ := all xs ds vs e1 i2
        exact ⟨.lst i3 b1, by simpa [PyData.canLay0] using canAll b2, by simp only [PyData.depth]; have := depAll b3; omega⟩
      · cases e
theorem toDs_ok (R : Rl L φ st H) {n : Nat} : ∀ {xs : List PV} {vs : List V} {ds : List PyData}, mapO (toD st.objs n) xs = some ds → VRs L φ H xs vs → DpAll L.K H vs ds ∧ (∀ d ∈ ds, d.canLay0 = true) ∧ ∀ d ∈ ds, d.depth ≤ n
  | [], vs, ds, e, h => by
    cases e
    obtain rfl : vs = [] := h
    exact ⟨.nil, (fun d hd => nomatch hd), (fun d hd => nomatch hd)⟩
  | x :: xs, vs, ds, e, h => by
    obtain ⟨d, r, e1, e2, rfl⟩ := mapO_cons e
    obtain ⟨w, ws, rfl, h1, h2⟩ := (show ∃ v r, vs = v :: r ∧ VR L φ H x v ∧ VRs L φ H xs r from h)
    obtain ⟨a1, a2, a3⟩ := toD_ok R n x w d e1 h1
    obtain ⟨b1, b2, b3⟩ := toDs_ok R e2 h2
    refine ⟨.cons a1 b1, fun q hq => ?_, fun q hq => ?_⟩
    · rcases List.mem_cons.mp hq with rfl | hq; exact a2; exact b2 q hq
    · rcases List.mem_cons.mp hq with rfl | hq; exact a3; exact b3 q hq
theorem shaped_of {d : PyData} (h1 : d.canLay0 = true) (h2 : d.depth ≤ 64) : SeqAt.shaped d = true := by
  unfold SeqAt.shaped
  rw [h1, Bool.true_and]
  exact decide_eq_true h2
end

section
variable {X : Cx} {L : Lk}
/-- the runs of comparisons -/
def cmpM (o : COp) (a b : PV) : M PV := do
  let objs ← objsM
  return .bl (← M.opt (cmpV objs o a b))
theorem cmpM_eq {o : COp} {a b : PV} {st : Sto} {k : Bool} (e : cmpV st.objs o a b = some k) : cmpM o a b st = .ok (.bl k) st := by
  show (M.opt (cmpV st.objs o a b) >>= fun k => pure (PV.bl k) : M PV) st = _
  rw [opt_bind e]; rfl
theorem cmpM_no {o : COp} {a b : PV} {st : Sto} (e : cmpV st.objs o a b = none) : cmpM o a b st = .stuck := by
  show (M.opt (cmpV st.objs o a b) >>= fun k => pure (PV.bl k) : M PV) st = _
  rw [opt_none e]
theorem cmpM_post {o : COp} {a b : PV} {st : Sto} {φ : List Addr} {H : Hp} {Q : VK} {W : WX} {σ : L2.St} (R : Rl L φ st H) (P : PostE L W σ φ H (cmpM o a b st) Q) : ∃ k, cmpV st.objs o a b = some k ∧ Q (.bl k) H := by
  cases e : cmpV st.objs o a b with
  | none => rw [cmpM_no e] at P; exact (show False from P).elim
  | some k => rw [cmpM_eq e] at P; exact ⟨k, rfl, P.ret R rfl⟩
theorem str_ne {a b : List Nat} (h : a ≠ b) : (Str.mk a.toArray) ≠ ⟨b.toArray⟩ := fun e => h (by
  have := congrArg (fun s : Str => s.cps.toList) e
  simpa using this)
theorem eqD_run {st : Sto} {φ : List Addr} {H : Hp} {Q : VK} {p q : PV} {x y : V} {k : Bool} {pins : List (Addr × Obj)} {s : Shared} {σ : L2.St} {v u : Value} (hK : X.K = L.K) (hu : X.A.units + 65 < cLine) (I : Inv X pins σ H s) (rx : RelV x v) (ry : RelV y u)
    (R : Rl L φ st H) (hp : VR L φ H p x) (hq : VR L φ H q y) (e : eqD st.objs p q = some k) (h : Q (.bl k) H) : wpAny (model X.prog X.w) X.A (compareOp .Eq v u) (EP X pins σ Q) X.xe s := by
  unfold eqD at e
  split at e
  · rename_i d d' e1 e2
    cases e
    obtain ⟨a1, a2, a3⟩ := toD_ok R 40 p x d e1 hp
    obtain ⟨b1, b2, b3⟩ := toD_ok R 40 q y d' e2 hq
    exact op_eqD (by omega) pins s σ H x y v u Q I rx ry ⟨d, d', by rw [hK]; exact a1, by rw [hK]; exact b1, shaped_of a2 (by omega), shaped_of b2 (by omega), h⟩
  · cases e
theorem neD_run {st : Sto} {φ : List Addr} {H : Hp} {Q : VK} {p q : PV} {x y : V} {k : Bool} {pins : List (Addr × Obj)} {s : Shared} {σ : L2.St} {v u : Value} (hK : X.K = L.K) (hu : X.A.units + 65 < cLine) (I : Inv X pins σ H s) (rx : RelV x v) (ry : RelV y u)
    (R : Rl L φ st H) (hp : VR L φ H p x) (hq : VR L φ H q y) (e : eqD st.objs p q = some k) (h : Q (.bl (!k)) H) : wpAny (model X.prog X.w) X.A (compareOp .NotEq v u) (EP X pins σ Q) X.xe s := by
  unfold eqD at e
  split at e
  · rename_i d d' e1 e2
    cases e
    obtain ⟨a1, a2, a3⟩ := toD_ok R 40 p x d e1 hp
    obtain ⟨b1, b2, b3⟩ := toD_ok R 40 q y d' e2 hq
    exact op_neD (by omega) pins s σ H x y v u Q I rx ry ⟨d, d', by rw [hK]; exact a1, by rw [hK]; exact b1, shaped_of a2 (by omega), shaped_of b2 (by omega), h⟩
  · cases e
/-- == by kinds: the flat ones, or as data -/
theorem eqV_cases {objs : List Ob} {p q : PV} {k : Bool} (e : eqV objs p q = some k) : (∃ i j, p = .int i ∧ q = .int j ∧ k = decide (i = j)) ∨ (∃ a b, p = .str a ∧ q = .str b ∧ k = decide (a = b)) ∨ (∃ a b, p = .bl a ∧ q = .bl b ∧ k = (a == b)) ∨
    (p = .non ∧ q = .non ∧ k = true) ∨ eqD objs p q = some k := by
  unfold eqV at e
  split at e
  · cases e; exact .inl ⟨_, _, rfl, rfl, rfl⟩
  · cases e; exact .inr (.inl ⟨_, _, rfl, rfl, rfl⟩)
  · cases e; exact .inr (.inr (.inl ⟨_, _, rfl, rfl, rfl⟩))
  · cases e; exact .inr (.inr (.inr (.inl ⟨rfl, rfl, rfl⟩)))
  · exact .inr (.inr (.inr (.inr e)))
theorem dec_strs {a b : List Nat} : decide (V.str ⟨a.toArray⟩ = V.str ⟨b.toArray⟩) = decide (a = b) := by
  by_cases e : a = b
  · subst e; simp
  · rw [decide_eq_false e, decide_eq_false]
    intro z
    have : (Str.mk a.toArray) = ⟨b.toArray⟩ := by injection z
    exact str_ne e this
theorem eqV_run {st : Sto} {φ : List Addr} {H : Hp} {Q : VK} {p q : PV} {x y : V} {k : Bool} {pins : List (Addr × Obj)} {s : Shared} {σ : L2.St} {v u : Value} (hK : X.K = L.K) (hu : X.A.units + 65 < cLine) (I : Inv X pins σ H s) (rx : RelV x v) (ry : RelV y u)
    (R : Rl L φ st H) (hp : VR L φ H p x) (hq : VR L φ H q y) (e : eqV st.objs p q = some k) (h : Q (.bl k) H) : wpAny (model X.prog X.w) X.A (compareOp .Eq v u) (EP X pins σ Q) X.xe s := by
  rcases eqV_cases e with ⟨i, j, rfl, rfl, rfl⟩ | ⟨a, b, rfl, rfl, rfl⟩ | ⟨a, b, rfl, rfl, rfl⟩ | ⟨rfl, rfl, rfl⟩ | e
  · obtain rfl : x = .int i := hp
    obtain rfl : y = .int j := hq
    exact op_eq pins s σ H _ _ v u Q I rx ry ⟨rfl, by simpa using h⟩
  · obtain rfl : x = .str ⟨a.toArray⟩ := hp
    obtain rfl : y = .str ⟨b.toArray⟩ := hq
    exact op_eq pins s σ H _ _ v u Q I rx ry ⟨rfl, by rw [dec_strs]; exact h⟩
  · obtain rfl : x = .bl a := hp
    obtain rfl : y = .bl b := hq
    refine op_eq pins s σ H _ _ v u Q I rx ry ⟨rfl, ?_⟩
    have : decide (V.bl a = V.bl b) = (a == b) := by cases a <;> cases b <;> decide
    rw [this]; exact h
  · obtain rfl : x = .non := hp
    obtain rfl : y = .non := hq
    exact op_eq pins s σ H _ _ v u Q I rx ry ⟨rfl, by simpa using h⟩
  · exact eqD_run hK hu I rx ry R hp hq e h
theorem neV_run {st : Sto} {φ : List Addr} {H : Hp} {Q : VK} {p q : PV} {x y : V} {k : Bool} {pins : List (Addr × Obj)} {s : Shared} {σ : L2.St} {v u : Value} (hK : X.K = L.K) (hu : X.A.units + 65 < cLine) (I : Inv X pins σ H s) (rx : RelV x v) (ry : RelV y u)
    (R : Rl L φ st H) (hp : VR L φ H p x) (hq : VR L φ H q y) (e : eqV st.objs p q = some k) (h : Q (.bl (!k)) H) : wpAny (model X.prog X.w) X.A (compareOp .NotEq v u) (EP X pins σ Q) X.xe s := by
  rcases eqV_cases e with ⟨i, j, rfl, rfl, rfl⟩ | ⟨a, b, rfl, rfl, rfl⟩ | ⟨a, b, rfl, rfl, rfl⟩ | ⟨rfl, rfl, rfl⟩ | e
  · obtain rfl : x = .int i := hp
    obtain rfl : y = .int j := hq
    exact op_ne pins s σ H _ _ v u Q I rx ry ⟨rfl, by simpa using h⟩
  · obtain rfl : x = .str ⟨a.toArray⟩ := hp
    obtain rfl : y = .str ⟨b.toArray⟩ := hq
    exact op_ne pins s σ H _ _ v u Q I rx ry ⟨rfl, by rw [dec_strs]; exact h⟩
  · obtain rfl : x = .bl a := hp
    obtain rfl : y = .bl b := hq
    refine op_ne pins s σ H _ _ v u Q I rx ry ⟨rfl, ?_⟩
    have : decide (V.bl a = V.bl b) = (a == b) := by cases a <;> cases b <;> decide
    rw [this]; exact h
  · obtain rfl : x = .non := hp
    obtain rfl : y = .non := hq
    exact op_ne pins s σ H _ _ v u Q I rx ry ⟨rfl, by simpa using h⟩
  · exact neD_run hK hu I rx ry R hp hq e h
/-- the law of x in c, by what answers -/
theorem in_run {st : Sto} {φ : List Addr} {H : Hp} {Q : VK} {p q : PV} {x y : V} {k : Bool} {pins : List (Addr × Obj)} {s : Shared} {σ : L2.St} {v u : Value} (neg : Bool) (hK : X.K = L.K) (hP : X.prog = L.P) (hW : X.w = L.w) (hu : X.A.units + 65 < cLine) (I : Inv X pins σ H s) (rx : RelV x v) (ry : RelV y u)
    (R : Rl L φ st H) (hp : VR L φ H p x) (hq : VR L φ H q y) (e : contains st.objs p q = some k) (h : Q (.bl (if neg then !k else k)) H) :
    wpAny (model X.prog X.w) X.A (compareOp (if neg then .NotIn else .In) v u) (EP X pins σ Q) X.xe s := by
  unfold contains at e
  split at e
  · rename_i xs
    split at e
    · rename_i ds d e1 e2
      cases e
      obtain ⟨a, vs, rfl, ha, hv⟩ := (show ∃ (a : Addr) (vs : List V), y = .ref a ∧ SqT L.K H a vs ∧ VRs L φ H xs vs from hq)
      obtain ⟨a1, a2, a3⟩ := toD_ok R 40 p x d e2 hp
      obtain ⟨b1, b2, b3⟩ := toDs_ok R e1 hv
      obtain ⟨bs, r1⟩ := Dp.reads I d x v (by rw [hK]; exact a1) rx
      obtain ⟨cs, r2⟩ := Dp.reads I (.tuple ds) (.ref a) u (.tup (by rw [hK]; exact ha) (by rw [hK]; exact b1)) ry
      have hr := room_in_shaped (xs := ds) (shaped_of a2 (by omega)) hu
      cases neg with
      | false => exact SeqAt.in_tuple_reads r2 r1 (canAll b2) a2 hr ⟨.bl _, H, I, rfl, h⟩
      | true => exact SeqAt.notIn_tuple_reads r2 r1 (canAll b2) a2 hr ⟨.bl _, H, I, rfl, h⟩
    · cases e
  · rename_i z
    split at e
    · rename_i c
      cases e
      obtain rfl : x = .str ⟨#[c]⟩ := hp
      obtain rfl : y = .str ⟨z.toArray⟩ := hq
      cases neg with
      | false => exact op_in_sign pins s σ H _ _ v u Q I rx ry ⟨c, _, rfl, rfl, by simpa using h⟩
      | true => exact op_notIn_sign pins s σ H _ _ v u Q I rx ry ⟨c, _, rfl, rfl, by simpa using h⟩
    · cases e
  · rename_i r
    split at e
    · rename_i xs er
      split at e
      · rename_i ds d e1 e2
        cases e
        obtain ⟨a, rfl, ha⟩ := (show ∃ a : Addr, y = .ref a ∧ φ[r]? = some a from hq)
        obtain ⟨a1', vs, i1, i2, i3, i4, i5⟩ := R.lst er
        rw [ha] at i1; cases i1
        obtain ⟨a1, a2, a3⟩ := toD_ok R 40 p x d e2 hp
        obtain ⟨b1, b2, b3⟩ := toDs_ok R e1 i2
        obtain ⟨bs, r1⟩ := Dp.reads I d x v (by rw [hK]; exact a1) rx
        obtain ⟨cs, r2⟩ := Dp.reads I (.list ds) (.ref a) u (.lst (by rw [hK]; exact i3) (by rw [hK]; exact b1)) ry
        have hr := room_in_shaped (xs := ds) (shaped_of a2 (by omega)) hu
        cases neg with
        | false => exact SeqAt.in_list_reads r2 r1 (canAll b2) a2 hr ⟨.bl _, H, I, rfl, h⟩
        | true => exact SeqAt.notIn_list_reads r2 r1 (canAll b2) a2 hr ⟨.bl _, H, I, rfl, h⟩
      · cases e
    · rename_i kvs er
      split at e
      · rename_i hk
        cases e
        obtain ⟨a, rfl, ha⟩ := (show ∃ a : Addr, y = .ref a ∧ φ[r]? = some a from hq)
        obtain ⟨a1', o, i1, i2, i3, i4, i5⟩ := R.dic er
        rw [ha] at i1; cases i1
        obtain rfl : u = .ref a := ry
        cases neg with
        | false => exact dk_in hK hP hW hu I i2 i3 i4 i5 hk hp rx fun s' I' => ⟨.bl _, H, I', rfl, h⟩
        | true => exact dk_notIn hK hP hW hu I i2 i3 i4 i5 hk hp rx fun s' I' => ⟨.bl _, H, I', rfl, h⟩
      · cases e
    · cases e
  · cases e
theorem lt_cases {p q : PV} {k : Bool} (e : ltV p q = some k) : ∃ i j, p = .int i ∧ q = .int j ∧ k = decide (i < j) := by
  unfold ltV at e
  split at e
  · cases e; exact ⟨_, _, rfl, rfl, rfl⟩
  · cases e
theorem dec_le {i j : Int} : (!decide (j < i)) = decide (i ≤ j) := by
  by_cases h : j < i
  · rw [decide_eq_true h, decide_eq_false (by omega)]; rfl
  · rw [decide_eq_false h, decide_eq_true (by omega)]; rfl
theorem cmp_full (hK : X.K = L.K) (hP : X.prog = L.P) (hW : X.w = L.w) (hu : X.A.units + 65 < cLine) (o : COp) : OpR X (compareOp (cmpS' o)) (rV2 L (cmpM o)) := by
  intro pins s σ H x y v u Q I rx ry h
  obtain ⟨φ, st, p, q, R, hp, hq, P⟩ := h
  obtain ⟨k, e, h⟩ := cmpM_post R P
  cases o with
  | eq => exact eqV_run hK hu I rx ry R hp hq e h
  | ne =>
    obtain ⟨k', e', rfl⟩ := map_some (show (eqV st.objs p q).map not = some k from e)
    exact neV_run hK hu I rx ry R hp hq e' h
  | lt =>
    obtain ⟨i, j, rfl, rfl, rfl⟩ := lt_cases (show ltV p q = some k from e)
    obtain rfl : x = .int i := hp
    obtain rfl : y = .int j := hq
    exact op_lt pins s σ H _ _ v u Q I rx ry ⟨i, j, rfl, rfl, h⟩
  | gt =>
    obtain ⟨i, j, rfl, rfl, rfl⟩ := lt_cases (show ltV q p = some k from e)
    obtain rfl : x = .int j := hp
    obtain rfl : y = .int i := hq
    exact op_gt pins s σ H _ _ v u Q I rx ry ⟨j, i, rfl, rfl, h⟩
  | le =>
    obtain ⟨k', e', rfl⟩ := map_some (show (ltV q p).map not = some k from e)
    obtain ⟨i, j, rfl, rfl, rfl⟩ := lt_cases e'
    obtain rfl : x = .int j := hp
    obtain rfl : y = .int i := hq
    exact op_le pins s σ H _ _ v u Q I rx ry ⟨j, i, rfl, rfl, by show Q (.bl (decide (j ≤ i))) H; rw [← dec_le]; exact h⟩
  | ge =>
    obtain ⟨k', e', rfl⟩ := map_some (show (ltV p q).map not = some k from e)
    obtain ⟨i, j, rfl, rfl, rfl⟩ := lt_cases e'
    obtain rfl : x = .int i := hp
    obtain rfl : y = .int j := hq
    exact op_ge pins s σ H _ _ v u Q I rx ry ⟨i, j, rfl, rfl, by show Q (.bl (decide (j ≤ i))) H; rw [← dec_le]; exact h⟩
  | is =>
    cases q with
    | non =>
      obtain rfl : y = .non := hq
      refine op_isN pins s σ H _ _ v u Q I rx ry ⟨rfl, ?_⟩
      have : decide (x = V.non) = k := by
        cases p with
        | non => obtain rfl : x = .non := hp; cases e; simp
        | bl _ => obtain rfl : x = .bl _ := hp; cases e; simp
        | int _ => obtain rfl : x = .int _ := hp; cases e; simp
        | str _ => obtain rfl : x = .str _ := hp; cases e; simp
        | tup xs => obtain ⟨a, vs, rfl, ha, hv⟩ := (show ∃ (a : Addr) (vs : List V), x = .ref a ∧ SqT L.K H a vs ∧ VRs L φ H xs vs from hp); cases e; simp
        | ref r => obtain ⟨a, rfl, ha⟩ := (show ∃ a : Addr, x = .ref a ∧ φ[r]? = some a from hp); cases e; simp
      rw [this]; exact h
    | _ => cases e
  | isNot =>
    cases q with
    | non =>
      obtain rfl : y = .non := hq
      refine op_notN pins s σ H _ _ v u Q I rx ry ⟨rfl, ?_⟩
      have : (!decide (x = V.non)) = k := by
        cases p with
        | non => obtain rfl : x = .non := hp; cases e; simp
        | bl _ => obtain rfl : x = .bl _ := hp; cases e; simp
        | int _ => obtain rfl : x = .int _ := hp; cases e; simp
        | str _ => obtain rfl : x = .str _ := hp; cases e; simp
        | tup xs => obtain ⟨a, vs, rfl, ha, hv⟩ := (show ∃ (a : Addr) (vs : List V), x = .ref a ∧ SqT L.K H a vs ∧ VRs L φ H xs vs from hp); cases e; simp
        | ref r => obtain ⟨a, rfl, ha⟩ := (show ∃ a : Addr, x = .ref a ∧ φ[r]? = some a from hp); cases e; simp
      rw [this]; exact h
    | _ => cases e
  | isIn => exact in_run false hK hP hW hu I rx ry R hp hq e h
  | notIn =>
    obtain ⟨k', e', rfl⟩ := map_some (show (contains st.objs p q).map not = some k from e)
    exact in_run true hK hP hW hu I rx ry R hp hq e' h
end
end TL
end

section
set_option maxRecDepth 100000
set_option maxHeartbeats 1000000
set_option autoImplicit false
/-! TL: what is held of names and of an exception does not show in values. -/
namespace TL
open PySem PySem.Spec PyProof.Rows L2
def Lk.cat (L : Lk) (sl : List (Nat × V)) (xc : List (Xc × Addr)) : Lk := { L with sl := sl, xc := xc }
section
variable {L : Lk} {φ φ' ψ : List Addr} {H H' : Hp} {st t : Sto} {W : WX} {σ : L2.St} {Q : VK}
mutual
theorem VR.cat {sl : List (Nat × V)} {xc : List (Xc × Addr)} : ∀ (x : PV) (v : V), VR (L.cat sl xc) φ H x v ↔ VR L φ H x v
  | .non, _ => Iff.rfl
  | .bl _, _ => Iff.rfl
  | .int _, _ => Iff.rfl
  | .str _, _ => Iff.rfl
  | .tup xs, v => by
    show (∃ (a : Addr) (vs : List V), v = .ref a ∧ SqT L.K H a vs ∧ VRs (L.cat sl xc) φ H xs vs) ↔ ∃ (a : Addr) (vs : List V), v = .ref a ∧ SqT L.K H a vs ∧ VRs L φ H xs vs
    exact ⟨fun ⟨a, vs, h1, h2, h3⟩ => ⟨a, vs, h1, h2, (VRs.cat xs vs).mp h3⟩, fun ⟨a, vs, h1, h2, h3⟩ => ⟨a, vs, h1, h2, (VRs.cat xs vs).mpr h3⟩⟩
  | .ref r, v => Iff.rfl
theorem VRs.cat {sl : List (Nat × V)} {xc : List (Xc × Addr)} : ∀ (xs : List PV) (vs : List V), VRs (L.cat sl xc) φ H xs vs ↔ VRs L φ H xs vs
  | [], _ => Iff.rfl
  | x :: xs, vs => by
    show (∃ v r, vs = v :: r ∧ VR (L.cat sl xc) φ H x v ∧ VRs (L.cat sl xc) φ H xs r) ↔ ∃ v r, vs = v :: r ∧ VR L φ H x v ∧ VRs L φ H xs r
    exact ⟨fun ⟨v, r, h1, h2, h3⟩ => ⟨v, r, h1, (VR.cat x v).mp h2, (VRs.cat xs r).mp h3⟩, fun ⟨v, r, h1, h2, h3⟩ => ⟨v, r, h1, (VR.cat x v).mpr h2, (VRs.cat xs r).mpr h3⟩⟩
end
theorem FR.cat {sl : List (Nat × V)} {xc : List (Xc × Addr)} : ∀ (fs : List (Nat × PV)) (gs : List (Str × V)), FR (L.cat sl xc) φ H fs gs ↔ FR L φ H fs gs
  | [], _ => Iff.rfl
  | (f, x) :: fs, gs => by
    show (∃ v r, gs = (L.nm f, v) :: r ∧ VR (L.cat sl xc) φ H x v ∧ FR (L.cat sl xc) φ H fs r) ↔ ∃ v r, gs = (L.nm f, v) :: r ∧ VR L φ H x v ∧ FR L φ H fs r
    exact ⟨fun ⟨v, r, h1, h2, h3⟩ => ⟨v, r, h1, (VR.cat x v).mp h2, (FR.cat fs r).mp h3⟩, fun ⟨v, r, h1, h2, h3⟩ => ⟨v, r, h1, (VR.cat x v).mpr h2, (FR.cat fs r).mpr h3⟩⟩
theorem OR.cat {sl : List (Nat × V)} {xc : List (Xc × Addr)} {i : Nat} {a : Addr} : ∀ (o : Ob), OR (L.cat sl xc) φ H i a o ↔ OR L φ H i a o
  | .list xs => by
    show (∃ vs, VRs (L.cat sl xc) φ H xs vs ∧ SqL L.K H a vs ∧ (H a).isSome = true ∧ (i ∉ L.F → H a = some (.lst vs))) ↔ ∃ vs, VRs L φ H xs vs ∧ SqL L.K H a vs ∧ (H a).isSome = true ∧ (i ∉ L.F → H a = some (.lst vs))
    exact ⟨fun ⟨vs, h1, h⟩ => ⟨vs, (VRs.cat xs vs).mp h1, h⟩, fun ⟨vs, h1, h⟩ => ⟨vs, (VRs.cat xs vs).mpr h1, h⟩⟩
  | .dict kvs => by
    show (∃ o, H a = some (dO a o) ∧ (a == sysModules) = false ∧ o.ExactDict ∧ DR (L.cat sl xc) φ H o kvs) ↔ ∃ o, H a = some (dO a o) ∧ (a == sysModules) = false ∧ o.ExactDict ∧ DR L φ H o kvs
    exact ⟨fun ⟨o, h1, h2, h3, h4⟩ => ⟨o, h1, h2, h3, h4.to (L' := L) (fun x v => (VR.cat (sl := sl) (xc := xc) x v).mp) rfl rfl⟩, fun ⟨o, h1, h2, h3, h4⟩ => ⟨o, h1, h2, h3, h4.to (L' := L.cat sl xc) (fun x v => (VR.cat (sl := sl) (xc := xc) x v).mpr) rfl rfl⟩⟩
  | .set xs => Iff.rfl
  | .inst c fs => by
    show (∃ dx gs, H a = some (.ins (L.cl c) dx gs) ∧ FR (L.cat sl xc) φ H fs gs ∧ c ∈ L.cs) ↔ ∃ dx gs, H a = some (.ins (L.cl c) dx gs) ∧ FR L φ H fs gs ∧ c ∈ L.cs
    exact ⟨fun ⟨dx, gs, h1, h, z⟩ => ⟨dx, gs, h1, (FR.cat fs gs).mp h, z⟩, fun ⟨dx, gs, h1, h, z⟩ => ⟨dx, gs, h1, (FR.cat fs gs).mpr h, z⟩⟩
theorem Rl.cat {sl : List (Nat × V)} {xc : List (Xc × Addr)} : Rl (L.cat sl xc) φ st H ↔ Rl L φ st H :=
  ⟨fun R => ⟨R.len, R.nd, fun i o a e1 e2 => (OR.cat o).mp (R.ob i o a e1 e2), R.fr, R.fx⟩, fun R => ⟨R.len, R.nd, fun i o a e1 e2 => (OR.cat o).mpr (R.ob i o a e1 e2), R.fr, R.fx⟩⟩
theorem XDn.cat {sl : List (Nat × V)} {xc : List (Xc × Addr)} {x : Xc} {dd : Addr} : XDn (L.cat sl xc) φ H x dd ↔ XDn L φ H x dd := by
  show (dd ∉ φ ∧ ∃ gs, H dd = some (.xd gs) ∧ ∀ f y, lookF x.fs f = some y → ∃ v, gs.lookup (L.nm f) = some v ∧ VR (L.cat sl xc) φ H y v) ↔
    (dd ∉ φ ∧ ∃ gs, H dd = some (.xd gs) ∧ ∀ f y, lookF x.fs f = some y → ∃ v, gs.lookup (L.nm f) = some v ∧ VR L φ H y v)
  exact ⟨fun ⟨n, gs, h2, h3⟩ => ⟨n, gs, h2, fun f y e => let ⟨v, g1, g2⟩ := h3 f y e; ⟨v, g1, (VR.cat y v).mp g2⟩⟩, fun ⟨n, gs, h2, h3⟩ => ⟨n, gs, h2, fun f y e => let ⟨v, g1, g2⟩ := h3 f y e; ⟨v, g1, (VR.cat y v).mpr g2⟩⟩⟩
theorem XR.cat {sl : List (Nat × V)} {xc : List (Xc × Addr)} {x : Xc} {c : Value} {d : Option Addr} : XR (L.cat sl xc) φ H x c d ↔ XR L φ H x c d := by
  show (c = .ref (L.cl x.cls) ∧ ∃ dd, d = some dd ∧ XDn (L.cat sl xc) φ H x dd) ↔ (c = .ref (L.cl x.cls) ∧ ∃ dd, d = some dd ∧ XDn L φ H x dd)
  exact ⟨fun ⟨h0, dd, h1, h2⟩ => ⟨h0, dd, h1, XDn.cat.mp h2⟩, fun ⟨h0, dd, h1, h2⟩ => ⟨h0, dd, h1, XDn.cat.mpr h2⟩⟩
theorem PostE.cat {sl : List (Nat × V)} {xc : List (Xc × Addr)} {r : Res PV} (P : PostE L W σ φ H r Q) : PostE (L.cat sl xc) W σ φ H r Q := by
  cases r with
  | ok x t => exact fun φ2 H2 v s2 R2 V2 => P φ2 H2 v s2 (Rl.cat.mp R2) ((VR.cat _ _).mp V2)
  | exc x t => exact fun φ2 H2 cl d s2 R2 X2 => P φ2 H2 cl d s2 (Rl.cat.mp R2) (XR.cat.mp X2)
  | stuck => exact P
end
end TL
end

section
set_option maxRecDepth 100000
set_option maxHeartbeats 1000000
set_option autoImplicit false
/-! TL: what a body knows; expressions. -/
namespace TL
open PySem PySem.Spec PyProof.Rows L2
/-- what a name of the module stands for -/
inductive GK where
  | fn (f : Nat) | cls (c : Nat) | con (g : Nat) | blt
/-- the text's tables: names, methods, makers, exceptions, how calls bind -/
structure Tb where
  nm : Nat → Str
  fl : List Nat
  meths : List ((Nat × Nat) × Nat)
  inits : List (Nat × Nat)
  flds : List (Nat × List (Nat × Src))
  en : Nat → Nat
  cs : List Nat
  bF : Nat → Nat → List Src → Bool
  bM : Nat → Nat → List Src → Bool
/-- what is checked against: the names of the module, the slots' names, the scope, where a name may be stored, whether calls may be made -/
structure Sk where
  gl : Str → Option GK
  N : List Str
  sc : Scope
  st : Str → Bool
  cold : Bool
  ban : List Nat
  xs : List Nat
  xf : List Nat
  cau : Option Nat
  top : Bool
  tb : Tb

/-- how a call of a def binds: n written values, the keywords ks, by the places b -/
def BindOk (L : Lk) (f n : Nat) (ks : List Str) (b : List Src) : Prop :=
  ∃ g gV, KBn L.K (L.fd f) (L.ps f) n ks g gV ∧ ∀ φ H xs zs vs ws ys, VRs L φ H xs vs → VRs L φ H zs ws → xs.length = n → zs.length = ks.length → bindS (xs ++ zs) b = some ys → VRs L φ H ys (gV vs ws)
/-- of a method: the object first -/
def BindOkM (L : Lk) (f n : Nat) (ks : List Str) (b : List Src) : Prop :=
  ∃ g gV, KBn L.K (L.fd f) (L.ps f) (n + 1) ks g gV ∧ ∀ φ H x v xs zs vs ws ys, VR L φ H x v → VRs L φ H xs vs → VRs L φ H zs ws → xs.length = n → zs.length = ks.length → bindS (xs ++ zs) b = some ys → VRs L φ H (x :: ys) (gV (v :: vs) ws)
/-- what a def promises -/
def spM (L : Lk) (m : List PV → M PV) : Sp := fun vs H Q E => ∃ Y φ st xs, Rl { L with dy := Y, sl := [], xc := [] } φ st H ∧ VRs { L with dy := Y, sl := [], xc := [] } φ H xs vs ∧ PostE { L with dy := Y, sl := [], xc := [] } (fun c d _ H' => E c d H') [] φ H (m xs st) Q
theorem spM_of {L : Lk} {m : List PV → M PV} {φ : List Addr} {st : Sto} {H : Hp} {xs : List PV} {vs : List V} {Q : VK} {E : XK} (R : Rl L φ st H) (hv : VRs L φ H xs vs) (P : PostE L (fun c d _ H' => E c d H') [] φ H (m xs st) Q) : spM L m vs H Q E :=
  ⟨L.dy, φ, st, xs, (Rl.cat (sl := []) (xc := [])).mpr R, (VRs.cat (sl := []) (xc := []) _ _).mpr hv, PostE.cat P⟩

/-- a field's value by the arguments -/
def srcV (ws : List L2.V) : Src → Option L2.V
  | .arg i => ws[i]?
  | .dfl (.str s) => some (.str ⟨s.toArray⟩)
  | .dfl _ => none
def srcVs (L : Lk) (ws : List L2.V) : List (Nat × Src) → Option (List (Str × L2.V))
  | [] => some []
  | (f, b) :: r => match srcV ws b, srcVs L ws r with
    | some v, some l => some ((L.nm f, v) :: l)
    | _, _ => none
/-- what an exception's own __init__ promises: its fields, in their order -/
def spX (L : Lk) (n : Nat) (C : Addr) (fs : List (Nat × Src)) : Sp := fun vs H Q _ => ∃ a ws gs, vs = .ref a :: ws ∧ ws.length = n ∧ H a = some (exo a C none) ∧ srcVs L ws fs = some gs ∧
  ∀ d, H d = none → d ≠ a → Q .non (upd (upd H d (exd d gs.reverse)) a (exo a C (some d)))
/-- what must be known of a class that is raised -/
structure ExF (L : Lk) (k : Nat) (P : Program) (w : World) (K : PySem.W.Frag) (mg : Str → Option Value) (base : Heap) (kk n : Nat) (fs : List (Nat × Src)) (fI : Addr) (fd : FuncData) (ps : List Str) : Prop where
  oex : OexC K (L.cl kk)
  ini : PySem.W.findIn K (.ref (L.cl kk)) "__init__" = some (some (.ref fI))
  ty : PySem.W.typeIn K (.ref fI) = some (.type "function")
  fn : FnOk P w K mg base (L2.CX P w) (2 * k) fI fd ps (spX L n (L.cl kk) fs)
  bd : Binds K fd ps []
  str : (fs.all fun p => match p.2 with | .arg _ => true | .dfl (.str _) => true | .dfl _ => false) = true
  nd : (fs.map (·.1)).Nodup
/-- an except suite: the exception's slot holds it, its fields are known -/
def Caught (c : Ctx) (L : Lk) (X : Cx) (i : Nat) : Prop :=
  ∃ (X0 : Cx) (a : Addr) (oe : Obj) (pn : List (Addr × Obj)) (x : Xc) (dd : Addr), X = X0.suite a ((a, oe) :: pn) ∧ Zc (.ref (L.cl x.cls)) (some dd) oe ∧ (∃ vs, oe.data = .fields vs) ∧ (i, V.ref a) ∈ L.sl ∧ (x, dd) ∈ L.xc ∧ c.cur = some x ∧ (c.subs.lookup x.cls).isSome = true
/-- the tables say what is so -/
structure TbOk (T : Tb) (c : Ctx) (L : Lk) : Prop where
  nm : ∀ f, L.nm f = T.nm f
  meths : c.meths = T.meths
  inits : c.inits = T.inits
  flds : c.flds = T.flds
  en : ∀ k, L.en k = T.en k
  cs : L.cs = T.cs
  bF : ∀ f n b, T.bF f n b = true → BindOk L f n [] b
  bM : ∀ f n b, T.bM f n b = true → BindOkM L f n [] b
  pres : ∀ f vs, Pres (c.fn f vs)
/-- what a body knows of where it runs -/
structure Good (c : Ctx) (k : Nat) (L : Lk) (S : Sk) (X : Cx) : Prop where
  hN : X.N = S.N
  nd : X.N.Nodup
  sc : X.env.scope = S.sc
  st : X.fn = S.st
  hK : X.K = L.K
  tb : TbOk S.tb c L
  hP : X.prog = L.P
  hW : X.w = L.w
  calm : S.cold = true → X.calm = true ∧ Room (2 * k + 1) X.A
  units : X.A.units + 65 < cLine
  gfn : ∀ x f, S.gl x = some (.fn f) → X.mg x = some (.ref (L.fa f))
  gcl : ∀ x f, S.gl x = some (.cls f) → X.mg x = some (.ref (L.cl f))
  gcon : ∀ x g, S.gl x = some (.con g) → ∃ u v p, X.mg x = some u ∧ RelV v u ∧ c.globs[g]? = some p ∧ ∀ φ H, VR L φ H p v
  gblt : ∀ x, S.gl x = some .blt → X.mg x = none
  keep : ∀ x f, S.gl x = some (.fn f) → PySem.W.keepIn X.K (.ref (L.fa f)) = true
  fn : ∀ f, FnOk X.prog X.w X.K X.mg X.base (L2.CX X.prog X.w) (2 * k) (L.fa f) (L.fd f) (L.ps f) (spM L (c.fn f))
  cls : ∀ i ∈ L.cs, Cls X.K (L.cl i)
  noat : ∀ i ∈ L.cs, ∀ f ∈ S.tb.fl, NoAttr X.K (L.cl i) (L.nm f)
  meth : ∀ i m f, lookM c.meths i m = some f → Meth X.K (L.cl i) (L.nm m) (L.fa f)
  nms : L.nm nLen = "__len__" ∧ L.nm nEq = "__eq__" ∧ L.nm nStr = "__str__" ∧ L.nm nRepr = "__repr__"
  spc : ∀ i m f, m ≤ nRepr → lookM c.meths i m = some f → Binds X.K (L.fd f) (L.ps f) []
  mks : ∀ i f, c.inits.lookup i = some f → i ∈ L.cs ∧ Mk X.K (L.cl i) (L.fa f)
  ban : ∀ p ∈ L.sl, p.1 ∈ S.ban
  exc : ∀ kk fs, c.flds.lookup kk = some fs → ∃ fI fd ps, ExF L k X.prog X.w X.K X.mg X.base kk (L.en kk) fs fI fd ps
  exU : ∀ kk l, c.subs.lookup kk = some l → ∀ j ∈ S.xs, PySem.W.exmOne X.K (.ref (L.cl kk)) (.ref (L.cl j)) = some (l.any fun e => Nat.beq j e)
  exA : ∀ kk l, c.subs.lookup kk = some l → XfC X.K (L.cl kk) ∧ ∀ f ∈ S.xf, PySem.W.findIn X.K (.ref (L.cl kk)) (L.nm f) = some none
  cau : ∀ i, S.cau = some i → Caught c L X i
  sta : S.top = true → X.stack = X.env :: X.outer ∧ X.env.frame = some X.env.locals
  isB : ∀ i ∈ L.cs, ∀ T ∈ (["int", "bool", "str", "list", "tuple"] : List String), PySem.W.kitOne X.K (.ref (L.cl i)) (.type T) = some false
  isO : ∀ i ∈ L.cs, ∀ j ∈ L.cs, PySem.W.kitOne X.K (.ref (L.cl i)) (.ref (L.cl j)) = some (Nat.beq j i)
  isC : ∀ i ∈ L.cs, ∀ T ∈ (["NoneType", "int", "bool", "str", "list", "tuple", "dict", "set"] : List String), PySem.W.kitOne X.K (.type T) (.ref (L.cl i)) = some false
  isK : ∀ i ∈ L.cs, PySem.W.findIn X.K (.ref (L.cl i)) "__class__" = some (some (.builtin "object.__class__")) ∧ PySem.W.mroIn X.K (L.cl i) (.type "object") = some true
  isG : PySem.W.specialIn X.K (.builtin "object.__class__") "__get__" = some (some (.builtin "getset_descriptor.__get__")) ∧ PySem.W.takesIn X.K (.builtin "object.__class__") = some true

section
variable {L : Lk} {W W' : WX} {σ : L2.St} {φ : List Addr} {st : Sto} {H : Hp} {Q : VK}
theorem lookF_cons {α : Type} {g f : Nat} {v : α} {r : List (Nat × α)} : lookF ((g, v) :: r) f = if g = f then some v else lookF r f := by
  show (match Nat.beq g f with | true => some v | false => lookF r f) = _
  by_cases h : g = f
  · rw [if_pos h, show Nat.beq g f = true from Nat.beq_eq ▸ (by simpa using h)]
  · rw [if_neg h]
    cases e : Nat.beq g f with
    | true => exact absurd (Nat.eq_of_beq_eq_true e) h
    | false => rfl
theorem storeF_cons {g f : Nat} {v w : PV} {r : List (Nat × PV)} : storeF ((g, w) :: r) f v = if g = f then (g, v) :: r else (g, w) :: storeF r f v := by
  show (match Nat.beq g f with | true => (g, v) :: r | false => (g, w) :: storeF r f v) = _
  by_cases h : g = f
  · rw [if_pos h, show Nat.beq g f = true from Nat.beq_eq ▸ (by simpa using h)]
  · rw [if_neg h]
    cases e : Nat.beq g f with
    | true => exact absurd (Nat.eq_of_beq_eq_true e) h
    | false => rfl
theorem FR.look {f : Nat} : ∀ {fs : List (Nat × PV)} {gs : List (Str × V)}, FR L φ H fs gs → (∀ x, lookF fs f = some x → ∃ v, gs.lookup (L.nm f) = some v ∧ VR L φ H x v) ∧ (lookF fs f = none → gs.lookup (L.nm f) = none)
  | [], gs, h => by
    obtain rfl : gs = [] := h
    exact ⟨fun x e => by simp [lookF] at e, fun _ => rfl⟩
  | (g, y) :: fs, gs, h => by
    obtain ⟨v, r, rfl, h1, h2⟩ := (show ∃ v r, gs = (L.nm g, v) :: r ∧ VR L φ H y v ∧ FR L φ H fs r from h)
    rw [lookF_cons]
    by_cases e : g = f
    · subst e
      rw [if_pos rfl]
      exact ⟨fun x e => by cases e; exact ⟨v, by simp [List.lookup], h1⟩, fun e => by cases e⟩
    · rw [if_neg e]
      have ne : (L.nm f == L.nm g) = false := beq_eq_false_iff_ne.mpr fun z => e (L.inj _ _ z).symm
      have : List.lookup (L.nm f) ((L.nm g, v) :: r) = r.lookup (L.nm f) := by simp only [List.lookup, ne]
      rw [this]
      exact FR.look h2
theorem FR.put {f : Nat} {x : PV} {v : V} (hx : VR L φ H x v) : ∀ {fs : List (Nat × PV)} {gs : List (Str × V)}, FR L φ H fs gs → FR L φ H (storeF fs f x) (putF (L.nm f) v gs)
  | [], gs, h => by
    obtain rfl : gs = [] := h
    exact ⟨v, [], rfl, hx, rfl⟩
  | (g, y) :: fs, gs, h => by
    obtain ⟨w, r, rfl, h1, h2⟩ := (show ∃ v r, gs = (L.nm g, v) :: r ∧ VR L φ H y v ∧ FR L φ H fs r from h)
    rw [storeF_cons, show putF (L.nm f) v ((L.nm g, w) :: r) = (if L.nm g = L.nm f then (L.nm g, v) :: r else (L.nm g, w) :: putF (L.nm f) v r) from rfl]
    by_cases e : g = f
    · subst e
      rw [if_pos rfl, if_pos rfl]
      exact ⟨v, r, rfl, hx, h2⟩
    · rw [if_neg e, if_neg fun z => e (L.inj _ _ z)]
      exact ⟨w, _, rfl, h1, FR.put hx h2⟩
theorem Rl.ins (R : Rl L φ st H) {r i : Nat} {fs : List (Nat × PV)} (e : st.objs[r]? = some (.inst i fs)) : ∃ a dx gs, φ[r]? = some a ∧ H a = some (.ins (L.cl i) dx gs) ∧ FR L φ H fs gs ∧ i ∈ L.cs := by
  obtain ⟨a, ea, h⟩ := R.get e
  obtain ⟨dx, gs, h1, h2, h3⟩ := (show ∃ dx gs, H a = some (.ins (L.cl i) dx gs) ∧ FR L φ H fs gs ∧ i ∈ L.cs from h)
  exact ⟨a, dx, gs, ea, h1, h2, h3⟩
theorem putOb_ok {r : Nat} {o : Ob} (h : st.lk.contains r = false) : putOb r o st = .ok () { st with objs := st.objs.set r o, low := min st.low r } := by unfold putOb; rw [h]
theorem putOb_no {r : Nat} {o : Ob} (h : st.lk.contains r = true) : putOb r o st = .stuck := by unfold putOb; rw [h]
theorem Rl.notF (R : Rl L φ st H) {r : Nat} (h : st.lk.contains r = false) : r ∉ L.F := fun z => by
  have := (R.fr r z).1
  rw [List.contains_iff_mem.mpr this] at h; cases h

/-! ### a value, then what follows -/
theorem tE_then {ma : Env → M PV} {k : PV → Env → M PV} {R : VK} (h : tE L W (fun ρ => ma ρ >>= fun x => k x ρ) σ H Q) (hk : ∀ v H1, tK L W k v σ H1 Q → R v H1) : tE L W ma σ H R := by
  obtain ⟨φ, ρ, st, R0, E, P⟩ := tE_bind h
  exact ⟨φ, ρ, st, R0, E, P.imp fun v H1 q => hk v H1 q⟩
theorem tK_E {k : PV → Env → M PV} {v : V} (h : tK L W k v σ H Q) : ∃ x, ∃ φ, VR L φ H x v ∧ tE L W (k x) σ H Q := by
  obtain ⟨φ, ρ, st, x, R, E, V, P⟩ := h
  exact ⟨x, φ, V, φ, ρ, st, R, E, P⟩
theorem asB_post {x : PV} {v : V} {k : Bool → Env → M PV} {ρ : Env} (V : VR L φ H x v) (P : PostE L W σ φ H ((asB x >>= fun b => k b ρ) st) Q) : ∃ b, v = .bl b ∧ PostE L W σ φ H (k b ρ st) Q := by
  cases x with
  | bl b => exact ⟨b, V, P⟩
  | _ => exact (show False from P).elim
/-- a test first -/
theorem tE_test {ma : Env → M PV} {k : Bool → Env → M PV} (h : tE L W (fun ρ => ma ρ >>= fun x => asB x >>= fun b => k b ρ) σ H Q) : tB (tE L W ma) σ H fun b H1 => tE L W (k b) σ H1 Q := by
  refine tE_then h fun v H1 q => ?_
  obtain ⟨φ, ρ, st, x, R, E, V, P⟩ := q
  obtain ⟨b, e, P⟩ := asB_post V P
  exact ⟨b, e, φ, ρ, st, R, E, P⟩
theorem tE_bool {b : Bool} (h : tE L W (fun _ => M.ret (.bl b)) σ H Q) : Q (.bl b) H := by
  obtain ⟨φ, ρ, st, R, E, P⟩ := h
  exact P.ret R rfl
/-- a test's answer as a value -/
theorem tE_asB {ma : Env → M PV} (h : tE L W (fun ρ => ma ρ >>= fun x => asB x >>= fun b => M.ret (.bl b)) σ H Q) : tE L W ma σ H fun v H1 => ∃ b, v = .bl b ∧ Q (.bl b) H1 := by
  refine tE_then h fun v H1 q => ?_
  obtain ⟨φ, ρ, st, x, R, E, V, P⟩ := q
  obtain ⟨b, e, P⟩ := asB_post (k := fun b _ => M.ret (.bl b)) (ρ := ρ) V P
  exact ⟨b, e, P.ret R rfl⟩
end

section
variable {c : Ctx} {k : Nat} {L : Lk} {S : Sk} {X : Cx} {W : WX} {pos : Pos}
/-! ### names, constants -/
def visB (sc : Scope) (x : Str) : Bool := match sc.names.lookup x with
  | some .local => true
  | some .cell => true
  | some .free => true
  | _ => false
theorem vis_of {sc : Scope} {x : Str} (h : visB sc x = true) : Vis sc x := by
  unfold visB at h
  split at h
  · exact .inl (by assumption)
  · exact .inr (.inl (by assumption))
  · exact .inr (.inr (by assumption))
  · cases h
def plainNm (x : Str) : Bool := !(x == ("__debug__" : Str)) && !(x == ("__classdict__" : Str)) && !(x == ("__name__" : Str))
theorem plainNm_1 {x : Str} (h : plainNm x = true) : (x == ("__debug__" : Str)) = false := by
  unfold plainNm at h; simp only [Bool.and_eq_true, Bool.not_eq_true'] at h; exact h.1.1
theorem plainNm_2 {x : Str} (h : plainNm x = true) : (x == ("__classdict__" : Str)) = false := by
  unfold plainNm at h; simp only [Bool.and_eq_true, Bool.not_eq_true'] at h; exact h.1.2
theorem plainNm_3 {x : Str} (h : plainNm x = true) : x ≠ "__name__" := by
  unfold plainNm at h; simp only [Bool.and_eq_true, Bool.not_eq_true'] at h
  intro e; rw [e] at h; exact absurd h.2 (by decide)
theorem var_ok (G : Good c k L S X) {i : Nat} {x : Str} (hN : S.N[i]? = some x) (hv : visB S.sc x = true) (hp : plainNm x = true) : PE X (.Name x pos) (tE L W fun ρ => evE c ρ (.var i)) :=
  peI (pe_var (i := i) (by rw [G.hN]; exact hN) (by rw [G.sc]; exact vis_of hv) (plainNm_1 hp) (plainNm_2 hp)) fun σ H Q h => by
    obtain ⟨φ, ρ, st, R, E, P⟩ := h
    cases e : ρ[i]? with
    | none => simp only [evE, e] at P; exact (show False from P).elim
    | some o =>
      cases o with
      | none => simp only [evE, e] at P; exact (show False from P).elim
      | some y =>
        simp only [evE, e] at P
        obtain ⟨v, h1, h2⟩ := E.at_ i y e
        exact ⟨v, h1, P.ret R h2⟩
def constV : Const → Option PV
  | .none => some .non
  | .bool b => some (.bl b)
  | .int i => some (.int i)
  | .str x => some (.str x.cps.toList)
  | _ => none
theorem cst_ok {p : PV} {q : Const} {j : Nat} (h : constV q = some p) : PE X (.Constant q j pos) (tE L W fun ρ => evE c ρ (.cst p)) := by
  have go : ∀ {v : V} {e : Expr}, PE X e (tC v) → (∀ φ H, VR L φ H p v) → PE X e (tE L W fun ρ => evE c ρ (.cst p)) := fun {v e} he hv => peI he fun σ H Q h => by
    obtain ⟨φ, ρ, st, R, E, P⟩ := h
    simp only [evE] at P
    exact P.ret R (hv φ H)
  unfold constV at h
  split at h
  · cases h; exact go pe_non fun _ _ => rfl
  · cases h; exact go pe_bl fun _ _ => rfl
  · cases h; exact go pe_int fun _ _ => rfl
  · rename_i x
    cases h; exact go pe_str fun _ _ => (by show V.str x = V.str ⟨x.cps.toList.toArray⟩; simp)
  · cases h
def glB (sc : Scope) (x : Str) : Bool := match sc.names.lookup x with
  | some .globalImplicit => true
  | _ => false
theorem gl_of (G : Good c k L S X) {x : Str} (h : glB S.sc x = true) : Gl X x := by
  show X.env.scope.names.lookup x = _
  rw [G.sc]
  unfold glB at h
  split at h
  · assumption
  · cases h
theorem glob_ok (G : Good c k L S X) {x : Str} {g : Nat} (hx : S.gl x = some (.con g)) (hg : glB S.sc x = true) (hp : plainNm x = true) : PE X (.Name x pos) (tE L W fun ρ => evE c ρ (.glob g)) := by
  obtain ⟨u, v, p, h1, h2, h3, h4⟩ := G.gcon x g hx
  refine peI (pe_glob (gl_of G hg) h1 h2 (plainNm_1 hp)) fun σ H Q h => ?_
  obtain ⟨φ, ρ, st, R, E, P⟩ := h
  simp only [evE, h3] at P
  exact P.ret R (h4 φ H)

/-! ### operators -/
theorem bin_ok' (G : Good c k L S X) {o : BOp} {a b : Ex} {e1 e2 : Expr} (h1 : PE X e1 (tE L W fun ρ => evE c ρ a)) (h2 : PE X e2 (tE L W fun ρ => evE c ρ b)) : PE X (.BinOp e1 (opS o) e2 pos) (tE L W fun ρ => evE c ρ (.bin o a b)) :=
  peI (pe_op (bin_full G.hK o) h1 h2) fun σ H Q h => bin_ok (nox_binop o) (by simp only [evE] at h; exact h)
theorem neg_ok {a : Ex} {e1 : Expr} (h1 : PE X e1 (tE L W fun ρ => evE c ρ a)) : PE X (.UnaryOp .USub e1 pos) (tE L W fun ρ => evE c ρ (.neg a)) :=
  peI (pe_un un_neg h1) fun σ H Q h => tE_then (k := fun x _ => asI x >>= fun i => pure (.int (-i))) (by simp only [evE] at h; exact h) fun v H1 q => by
    obtain ⟨φ, ρ, st, x, R, E, V, P⟩ := q
    cases x with
    | int i => exact ⟨i, V, PostE.ret (x := .int (-i)) P R rfl⟩
    | _ => exact (show False from P).elim
theorem cmpM_compareV {o : COp} {a b : PV} (h : o ≠ .eq) : compareV c o a b = cmpM o a b := by
  unfold compareV cmpM
  cases o <;> first | exact absurd rfl h | rfl
end
end TL
end

section
set_option maxRecDepth 100000
set_option maxHeartbeats 1000000
set_option autoImplicit false
/-! TL: a run whose own objects go: what is below stands by itself. -/
namespace TL
open PySem PySem.Spec PyProof.Rows L2
section
variable {L : Lk} {φ φ' ψ : List Addr} {H H' : Hp} {st t : Sto} {W : WX} {σ : L2.St} {Q : VK}
mutual
theorem VR.below : ∀ {x : PV} {v : V}, VR L φ H x v → TL.below φ.length x = true
  | .non, _, _ => rfl
  | .bl _, _, _ => rfl
  | .int _, _, _ => rfl
  | .str _, _, _ => rfl
  | .tup xs, v, h => by
    obtain ⟨a, vs, e, hs, hv⟩ := (show ∃ (a : Addr) (vs : List V), v = .ref a ∧ SqT L.K H a vs ∧ VRs L φ H xs vs from h)
    simp only [TL.below]
    exact VRs.below hv
  | .ref r, v, h => by
    obtain ⟨a, e, hp⟩ := (show ∃ a : Addr, v = .ref a ∧ φ[r]? = some a from h)
    simp only [TL.below]
    exact Nat.blt_eq.mpr (List.getElem?_eq_some_iff.mp hp).1
theorem VRs.below : ∀ {xs : List PV} {vs : List V}, VRs L φ H xs vs → TL.belows φ.length xs = true
  | [], _, _ => rfl
  | x :: xs, vs, h => by
    obtain ⟨v, r, e, h1, h2⟩ := (show ∃ v r, vs = v :: r ∧ VR L φ H x v ∧ VRs L φ H xs r from h)
    simp only [TL.belows, Bool.and_eq_true]
    exact ⟨VR.below h1, VRs.below h2⟩
end
theorem FR.below : ∀ {fs : List (Nat × PV)} {gs : List (Str × V)}, FR L φ H fs gs → (fs.all fun p => TL.below φ.length p.2) = true
  | [], _, _ => rfl
  | (f, x) :: fs, gs, h => by
    obtain ⟨v, r, e, h1, h2⟩ := (show ∃ v r, gs = (L.nm f, v) :: r ∧ VR L φ H x v ∧ FR L φ H fs r from h)
    rw [List.all_cons, Bool.and_eq_true]
    exact ⟨VR.below h1, FR.below h2⟩
theorem below_key (n : Nat) (k : Key) : TL.below n (keyV k) = true := by cases k <;> rfl
theorem DR.vals {o : Obj} {kvs : List (PV × PV)} (h : DR L φ H o kvs) : ∀ p ∈ kvs, TL.below φ.length p.1 = true ∧ ∃ v, VR L φ H p.2 v := by
  rcases h.2 with ⟨vs, h1, h2⟩ | ⟨xs, es, ep, h1, h2, h3, h4⟩
  · clear h1 h
    induction h2 with
    | nil => intro p hp; cases hp
    | @cons p q ps qs hpq t ih =>
      intro r hr
      rcases List.mem_cons.mp hr with rfl | hr
      · obtain ⟨e, v, g1, g2⟩ := hpq
        exact ⟨by rw [e]; exact below_key _ _, v, g1⟩
      · exact ih r hr
  · clear h1 h2 h3 h
    induction h4 with
    | nil => intro p hp; cases hp
    | @cons p q ps qs hpq t ih =>
      intro r hr
      rcases List.mem_cons.mp hr with rfl | hr
      · obtain ⟨⟨e1, e2, e3, e4⟩, v, g1, g2⟩ := hpq
        exact ⟨VR.below e4, v, g1⟩
      · exact ih r hr
theorem OR.below {i : Nat} {a : Addr} : ∀ {o : Ob}, OR L φ H i a o → TL.belowO φ.length o = true
  | .list xs, h => by
    obtain ⟨vs, h1, h2, h3, h4⟩ := (show ∃ vs, VRs L φ H xs vs ∧ SqL L.K H a vs ∧ (H a).isSome = true ∧ (i ∉ L.F → H a = some (.lst vs)) from h)
    exact VRs.below h1
  | .dict kvs, h => by
    obtain ⟨o, h1, h2, h3, h4⟩ := (show ∃ o, H a = some (dO a o) ∧ (a == sysModules) = false ∧ o.ExactDict ∧ DR L φ H o kvs from h)
    refine List.all_eq_true.mpr fun p hp => ?_
    obtain ⟨g1, g2⟩ := h4.vals p hp
    rw [Bool.and_eq_true]
    exact ⟨g1, let ⟨v, g⟩ := g2; VR.below g⟩
  | .set xs, h => rfl
  | .inst c fs, h => by
    obtain ⟨dx, gs, h1, h2, h3⟩ := (show ∃ dx gs, H a = some (.ins (L.cl c) dx gs) ∧ FR L φ H fs gs ∧ c ∈ L.cs from h)
    exact FR.below h2
/-- two maps that are the same below n -/
def SameTo (n : Nat) (φ ψ : List Addr) : Prop := ∀ i, i < n → φ[i]? = ψ[i]?
mutual
theorem VR.cutTo {n : Nat} (s : SameTo n φ ψ) : ∀ {x : PV} {v : V}, VR L φ H x v → TL.below n x = true → VR L ψ H x v
  | .non, _, h, _ => h
  | .bl _, _, h, _ => h
  | .int _, _, h, _ => h
  | .str _, _, h, _ => h
  | .tup xs, v, h, b => by
    obtain ⟨a, vs, e, hs, hv⟩ := (show ∃ (a : Addr) (vs : List V), v = .ref a ∧ SqT L.K H a vs ∧ VRs L φ H xs vs from h)
    simp only [TL.below] at b
    exact ⟨a, vs, e, hs, VRs.cutTo s hv b⟩
  | .ref r, v, h, b => by
    obtain ⟨a, e, hp⟩ := (show ∃ a : Addr, v = .ref a ∧ φ[r]? = some a from h)
    simp only [TL.below] at b
    exact ⟨a, e, by rw [← s r (Nat.blt_eq.mp b)]; exact hp⟩
theorem VRs.cutTo {n : Nat} (s : SameTo n φ ψ) : ∀ {xs : List PV} {vs : List V}, VRs L φ H xs vs → TL.belows n xs = true → VRs L ψ H xs vs
  | [], _, h, _ => h
  | x :: xs, vs, h, b => by
    obtain ⟨v, r, e, h1, h2⟩ := (show ∃ v r, vs = v :: r ∧ VR L φ H x v ∧ VRs L φ H xs r from h)
    simp only [TL.belows, Bool.and_eq_true] at b
    exact ⟨v, r, e, VR.cutTo s h1 b.1, VRs.cutTo s h2 b.2⟩
end
theorem FR.cutTo {n : Nat} (s : SameTo n φ ψ) : ∀ {fs : List (Nat × PV)} {gs : List (Str × V)}, FR L φ H fs gs → (fs.all fun p => TL.below n p.2) = true → FR L ψ H fs gs
  | [], _, h, _ => h
  | (f, x) :: fs, gs, h, b => by
    obtain ⟨v, r, e, h1, h2⟩ := (show ∃ v r, gs = (L.nm f, v) :: r ∧ VR L φ H x v ∧ FR L φ H fs r from h)
    rw [List.all_cons, Bool.and_eq_true] at b
    exact ⟨v, r, e, VR.cutTo s h1 b.1, FR.cutTo s h2 b.2⟩
theorem OR.cutTo {n i j : Nat} {a : Addr} (s : SameTo n φ ψ) (hij : j ∉ L.F → i ∉ L.F) : ∀ {o : Ob}, OR L φ H i a o → TL.belowO n o = true → OR L ψ H j a o
  | .list xs, h, b => by
    obtain ⟨vs, h1, h2, h3, h4⟩ := (show ∃ vs, VRs L φ H xs vs ∧ SqL L.K H a vs ∧ (H a).isSome = true ∧ (i ∉ L.F → H a = some (.lst vs)) from h)
    exact ⟨vs, VRs.cutTo s h1 b, h2, h3, fun z => h4 (hij z)⟩
  | .dict kvs, h, b => by
    obtain ⟨o, h1, h2, h3, h4⟩ := (show ∃ o, H a = some (dO a o) ∧ (a == sysModules) = false ∧ o.ExactDict ∧ DR L φ H o kvs from h)
    refine ⟨o, h1, h2, h3, h4.imp fun p hp => ?_⟩
    have := List.all_eq_true.mp b p hp
    rw [Bool.and_eq_true] at this
    exact ⟨fun v g => VR.cutTo s g this.1, fun v g => VR.cutTo s g this.2⟩
  | .set xs, h, _ => h
  | .inst c fs, h, b => by
    obtain ⟨dx, gs, h1, h2, h3⟩ := (show ∃ dx gs, H a = some (.ins (L.cl c) dx gs) ∧ FR L φ H fs gs ∧ c ∈ L.cs from h)
    exact ⟨dx, gs, h1, FR.cutTo s h2 b, h3⟩
/-- back to the store as it was -/
theorem Rl.back (R : Rl L φ st H) (S : Step φ H φ' H') (R' : Rl L φ' t H') (he : ∀ i, i < st.objs.length → t.objs[i]? = st.objs[i]?) {u : Sto} (h1 : u.objs = st.objs) (h2 : u.lk = st.lk) : Rl L φ u H' ∧ Step φ H φ H' := by
  have same : SameTo φ.length φ' φ := fun i hi => by
    have e : φ[i]? = some φ[i] := by simp [hi]
    rw [e, S.pre i _ e]
  refine ⟨⟨by rw [h1]; exact R.len, R.nd, fun i o a eo ea => ?_, fun i hi => ⟨by rw [h2]; exact (R.fr i hi).1, (R.fr i hi).2⟩, fun q hq => ⟨by rw [h2]; exact (R.fx q hq).1, (R.fx q hq).2.1, (R'.fx q hq).2.2⟩⟩, ⟨fun _ _ h => h, Nat.le_refl _, S.kp, fun a o n e => ⟨n, (S.out a o n e).2⟩⟩⟩
  rw [h1] at eo
  have hi : i < st.objs.length := (List.getElem?_eq_some_iff.mp eo).1
  exact OR.cutTo same id (R'.ob i o a (by rw [he i hi]; exact eo) (S.pre i a ea)) (OR.below (R.ob i o a eo ea))
/-- the same with one more -/
theorem Rl.back1 (R : Rl L φ st H) (S : Step φ H φ' H') (R' : Rl L φ' t H') (he : ∀ i, i < st.objs.length → t.objs[i]? = st.objs[i]?) {u : Sto} {r : Nat} {o : Ob} {p : Addr} (er : t.objs[r]? = some o) (ep : φ'[r]? = some p) (hr : φ.length ≤ r) (hb : TL.belowO φ.length o = true)
    (h1 : u.objs = st.objs ++ [o]) (h2 : u.lk = st.lk) : Rl L (φ ++ [p]) u H' ∧ Step φ H (φ ++ [p]) H' := by
  have same : SameTo φ.length φ' (φ ++ [p]) := fun i hi => by
    have e : φ[i]? = some φ[i] := by simp [hi]
    rw [S.pre i _ e, List.getElem?_append_left hi, e]
  have np : p ∉ φ := fun hm => by
    obtain ⟨i, hi, e⟩ := List.mem_iff_getElem.mp hm
    have e1 : φ'[i]? = some p := S.pre i p (by rw [← e]; simp [hi])
    obtain ⟨hi', e1⟩ := List.getElem?_eq_some_iff.mp e1
    obtain ⟨hr', e2⟩ := List.getElem?_eq_some_iff.mp ep
    have : i = r := (List.getElem_inj R'.nd).mp (e1.trans e2.symm)
    omega
  refine ⟨⟨by rw [h1]; simp [R.len], ?_, fun i q a eo ea => ?_, fun i hi => ⟨by rw [h2]; exact (R.fr i hi).1, by have := (R.fr i hi).2; simp; omega⟩, fun q hq => ⟨by rw [h2]; exact (R.fx q hq).1, by rw [List.getElem?_append_left (List.getElem?_eq_some_iff.mp (R.fx q hq).2.1).1]; exact (R.fx q hq).2.1, (R'.fx q hq).2.2⟩⟩, ⟨fun i a h => by rw [List.getElem?_append_left (List.getElem?_eq_some_iff.mp h).1]; exact h, by simp, S.kp, fun a q n e => ?_⟩⟩
  · rw [List.nodup_append]
    refine ⟨R.nd, by simp, fun a ha b hb e => ?_⟩
    have : b = p := by simpa using hb
    subst this; subst e
    exact np ha
  · rw [h1] at eo
    by_cases hi : i < st.objs.length
    · have eo' : st.objs[i]? = some q := by rw [← eo]; exact (List.getElem?_append_left hi).symm
      have ea' : φ[i]? = some a := by rw [← ea]; exact (List.getElem?_append_left (by rw [R.len]; exact hi)).symm
      exact OR.cutTo same id (R'.ob i q a (by rw [he i hi]; exact eo') (S.pre i a ea')) (OR.below (R.ob i q a eo' ea'))
    · have hlt := (List.getElem?_eq_some_iff.mp eo).1
      have hlt' : i < st.objs.length + 1 := by simpa using hlt
      have e : i = st.objs.length := by omega
      subst e
      have eo' : some o = some q := by rw [← eo]; simp
      have ea' : some p = some a := by
        rw [← ea]
        have : st.objs.length = φ.length := R.len.symm
        rw [this]; simp
      cases eo'; cases ea'
      refine OR.cutTo same (fun _ z => ?_) (R'.ob r o p er ep) hb
      have := (R.fr r z).2
      omega
  · obtain ⟨n1, e1⟩ := S.out a q n e
    exact ⟨fun z => (List.mem_append.mp z).elim n fun z => n1 (by
      have h : a = p := by simpa using z
      rw [h]; exact List.mem_of_getElem? ep), e1⟩
theorem Rl.setLow {l : Nat} (R : Rl L φ st H) : Rl L φ { st with low := l } H := ⟨R.len, R.nd, R.ob, R.fr, R.fx⟩
/-- what is held fast does not show in values -/
def Lk.hold (L : Lk) (Y : List (Nat × Addr × HO)) : Lk := { L with dy := Y }
mutual
theorem VR.hold {Y : List (Nat × Addr × HO)} : ∀ (x : PV) (v : V), VR (L.hold Y) φ H x v ↔ VR L φ H x v
  | .non, _ => Iff.rfl
  | .bl _, _ => Iff.rfl
  | .int _, _ => Iff.rfl
  | .str _, _ => Iff.rfl
  | .tup xs, v => by
    show (∃ (a : Addr) (vs : List V), v = .ref a ∧ SqT L.K H a vs ∧ VRs (L.hold Y) φ H xs vs) ↔ ∃ (a : Addr) (vs : List V), v = .ref a ∧ SqT L.K H a vs ∧ VRs L φ H xs vs
    exact ⟨fun ⟨a, vs, h1, h2, h3⟩ => ⟨a, vs, h1, h2, (VRs.hold xs vs).mp h3⟩, fun ⟨a, vs, h1, h2, h3⟩ => ⟨a, vs, h1, h2, (VRs.hold xs vs).mpr h3⟩⟩
  | .ref r, v => Iff.rfl
theorem VRs.hold {Y : List (Nat × Addr × HO)} : ∀ (xs : List PV) (vs : List V), VRs (L.hold Y) φ H xs vs ↔ VRs L φ H xs vs
  | [], _ => Iff.rfl
  | x :: xs, vs => by
    show (∃ v r, vs = v :: r ∧ VR (L.hold Y) φ H x v ∧ VRs (L.hold Y) φ H xs r) ↔ ∃ v r, vs = v :: r ∧ VR L φ H x v ∧ VRs L φ H xs r
    exact ⟨fun ⟨v, r, h1, h2, h3⟩ => ⟨v, r, h1, (VR.hold x v).mp h2, (VRs.hold xs r).mp h3⟩, fun ⟨v, r, h1, h2, h3⟩ => ⟨v, r, h1, (VR.hold x v).mpr h2, (VRs.hold xs r).mpr h3⟩⟩
end
theorem FR.hold {Y : List (Nat × Addr × HO)} : ∀ (fs : List (Nat × PV)) (gs : List (Str × V)), FR (L.hold Y) φ H fs gs ↔ FR L φ H fs gs
  | [], _ => Iff.rfl
  | (f, x) :: fs, gs => by
    show (∃ v r, gs = (L.nm f, v) :: r ∧ VR (L.hold Y) φ H x v ∧ FR (L.hold Y) φ H fs r) ↔ ∃ v r, gs = (L.nm f, v) :: r ∧ VR L φ H x v ∧ FR L φ H fs r
    exact ⟨fun ⟨v, r, h1, h2, h3⟩ => ⟨v, r, h1, (VR.hold x v).mp h2, (FR.hold fs r).mp h3⟩, fun ⟨v, r, h1, h2, h3⟩ => ⟨v, r, h1, (VR.hold x v).mpr h2, (FR.hold fs r).mpr h3⟩⟩
theorem OR.hold {Y : List (Nat × Addr × HO)} {i : Nat} {a : Addr} : ∀ (o : Ob), OR (L.hold Y) φ H i a o ↔ OR L φ H i a o
  | .list xs => by
    show (∃ vs, VRs (L.hold Y) φ H xs vs ∧ SqL L.K H a vs ∧ (H a).isSome = true ∧ (i ∉ L.F → H a = some (.lst vs))) ↔ ∃ vs, VRs L φ H xs vs ∧ SqL L.K H a vs ∧ (H a).isSome = true ∧ (i ∉ L.F → H a = some (.lst vs))
    exact ⟨fun ⟨vs, h1, h⟩ => ⟨vs, (VRs.hold xs vs).mp h1, h⟩, fun ⟨vs, h1, h⟩ => ⟨vs, (VRs.hold xs vs).mpr h1, h⟩⟩
  | .dict kvs => by
    show (∃ o, H a = some (dO a o) ∧ (a == sysModules) = false ∧ o.ExactDict ∧ DR (L.hold Y) φ H o kvs) ↔ ∃ o, H a = some (dO a o) ∧ (a == sysModules) = false ∧ o.ExactDict ∧ DR L φ H o kvs
    exact ⟨fun ⟨o, h1, h2, h3, h4⟩ => ⟨o, h1, h2, h3, h4.to (L' := L) (fun x v => (VR.hold (Y := Y) x v).mp) rfl rfl⟩, fun ⟨o, h1, h2, h3, h4⟩ => ⟨o, h1, h2, h3, h4.to (L' := L.hold Y) (fun x v => (VR.hold (Y := Y) x v).mpr) rfl rfl⟩⟩
  | .set xs => Iff.rfl
  | .inst c fs => by
    show (∃ dx gs, H a = some (.ins (L.cl c) dx gs) ∧ FR (L.hold Y) φ H fs gs ∧ c ∈ L.cs) ↔ ∃ dx gs, H a = some (.ins (L.cl c) dx gs) ∧ FR L φ H fs gs ∧ c ∈ L.cs
    exact ⟨fun ⟨dx, gs, h1, h, z⟩ => ⟨dx, gs, h1, (FR.hold fs gs).mp h, z⟩, fun ⟨dx, gs, h1, h, z⟩ => ⟨dx, gs, h1, (FR.hold fs gs).mpr h, z⟩⟩
theorem Rl.hold {Y : List (Nat × Addr × HO)} (R : Rl L φ st H) (h : ∀ p ∈ Y, p.1 ∈ st.lk ∧ φ[p.1]? = some p.2.1 ∧ H p.2.1 = some p.2.2) : Rl (L.hold Y) φ st H :=
  ⟨R.len, R.nd, fun i o a e1 e2 => (OR.hold o).mpr (R.ob i o a e1 e2), R.fr, h⟩
theorem Rl.unhold {Y : List (Nat × Addr × HO)} (R : Rl (L.hold Y) φ st H) (h : ∀ p ∈ L.dy, p ∈ Y) : Rl L φ st H :=
  ⟨R.len, R.nd, fun i o a e1 e2 => (OR.hold o).mp (R.ob i o a e1 e2), R.fr, fun p hp => R.fx p (h p hp)⟩
theorem XDn.hold {Y : List (Nat × Addr × HO)} {x : Xc} {dd : Addr} : XDn (L.hold Y) φ H x dd ↔ XDn L φ H x dd := by
  show (dd ∉ φ ∧ ∃ gs, H dd = some (.xd gs) ∧ ∀ f y, lookF x.fs f = some y → ∃ v, gs.lookup (L.nm f) = some v ∧ VR (L.hold Y) φ H y v) ↔
    (dd ∉ φ ∧ ∃ gs, H dd = some (.xd gs) ∧ ∀ f y, lookF x.fs f = some y → ∃ v, gs.lookup (L.nm f) = some v ∧ VR L φ H y v)
  exact ⟨fun ⟨n, gs, h2, h3⟩ => ⟨n, gs, h2, fun f y e => let ⟨v, g1, g2⟩ := h3 f y e; ⟨v, g1, (VR.hold y v).mp g2⟩⟩, fun ⟨n, gs, h2, h3⟩ => ⟨n, gs, h2, fun f y e => let ⟨v, g1, g2⟩ := h3 f y e; ⟨v, g1, (VR.hold y v).mpr g2⟩⟩⟩
theorem ER.hold {Y : List (Nat × Addr × HO)} {ρ : Env} {σ : L2.St} : ER (L.hold Y) φ H ρ σ ↔ ER L φ H ρ σ :=
  ⟨fun E => ⟨E.len, fun i x e => let ⟨v, h1, h2⟩ := E.at_ i x e; ⟨v, h1, (VR.hold x v).mp h2⟩, E.sl, fun p hp => XDn.hold.mp (E.xc p hp)⟩, fun E => ⟨E.len, fun i x e => let ⟨v, h1, h2⟩ := E.at_ i x e; ⟨v, h1, (VR.hold x v).mpr h2⟩, E.sl, fun p hp => XDn.hold.mpr (E.xc p hp)⟩⟩
theorem XR.hold {Y : List (Nat × Addr × HO)} {x : Xc} {c : Value} {d : Option Addr} : XR (L.hold Y) φ H x c d ↔ XR L φ H x c d := by
  show (c = .ref (L.cl x.cls) ∧ ∃ dd, d = some dd ∧ XDn (L.hold Y) φ H x dd) ↔ (c = .ref (L.cl x.cls) ∧ ∃ dd, d = some dd ∧ XDn L φ H x dd)
  exact ⟨fun ⟨h0, dd, h1, h2⟩ => ⟨h0, dd, h1, XDn.hold.mp h2⟩, fun ⟨h0, dd, h1, h2⟩ => ⟨h0, dd, h1, XDn.hold.mpr h2⟩⟩
/-- a run within a frame: what is wanted behind the frame is wanted of the run -/
theorem frame_post {m : M PV} (hp : Pres m) (R : Rl L φ st H) (P : PostE L W σ φ H (frame m st) Q) : PostE L W σ φ H (m { st with low := st.objs.length }) Q := by
  unfold frame at P
  have hpr := hp { st with low := st.objs.length }
  cases e : m { st with low := st.objs.length } with
  | stuck => rw [e] at P; exact P
  | ok v t =>
    rw [e] at P hpr
    dsimp only at P hpr
    intro φ' H' w S R' V
    cases q : Nat.ble st.objs.length t.low with
    | false =>
      rw [q] at P
      exact P φ' H' w S R'.setLow V
    | true =>
      rw [q] at P
      have he : ∀ i, i < st.objs.length → t.objs[i]? = st.objs[i]? := fun i hi => hpr.at_ i hi (.inl (Nat.lt_of_lt_of_le hi (Nat.le_of_ble_eq_true q)))
      cases qb : TL.below st.objs.length v with
      | true =>
        simp only [qb] at P
        obtain ⟨R2, S2⟩ := R.back S R' he (u := { t with objs := st.objs, low := st.low }) rfl hpr.lk
        have same : SameTo st.objs.length φ' φ := fun i hi => by
          have hi' : i < φ.length := by rw [R.len]; exact hi
          have e : φ[i]? = some φ[i] := by simp [hi']
          rw [e, S.pre i _ e]
        exact P φ H' w S2 R2 (VR.cutTo same V qb)
      | false =>
        simp only [qb] at P
        cases v with
        | ref r =>
          dsimp only at P
          cases er : t.objs[r]? with
          | none => rw [er] at P; exact (show False from P).elim
          | some o =>
            rw [er] at P
            dsimp only at P
            cases qo : TL.belowO st.objs.length o with
            | false =>
              rw [qo] at P
              exact P φ' H' w S R'.setLow V
            | true =>
              rw [qo] at P
              obtain ⟨p, rfl, ep⟩ := (show ∃ a : Addr, w = .ref a ∧ φ'[r]? = some a from V)
              have hr : φ.length ≤ r := by
                rw [R.len]
                simp only [TL.below] at qb
                exact Nat.le_of_not_lt fun z => by rw [Nat.blt_eq.mpr z] at qb; cases qb
              obtain ⟨R2, S2⟩ := R.back1 S R' he er ep hr (by rw [R.len]; exact qo) (u := { t with objs := st.objs ++ [o], low := st.low }) rfl hpr.lk
              refine P (φ ++ [p]) H' (.ref p) S2 R2 ⟨p, rfl, ?_⟩
              rw [← R.len]; simp
        | _ => exact P φ' H' w S R'.setLow V
  | exc x t =>
    rw [e] at P hpr
    dsimp only at P hpr
    intro φ' H' cl d S R' V
    cases q : (Nat.ble st.objs.length t.low && x.fs.all fun p => TL.below st.objs.length p.2) with
    | false =>
      rw [q] at P
      exact P φ' H' cl d S R'.setLow V
    | true =>
      rw [q] at P
      rw [Bool.and_eq_true] at q
      have he : ∀ i, i < st.objs.length → t.objs[i]? = st.objs[i]? := fun i hi => hpr.at_ i hi (.inl (Nat.lt_of_lt_of_le hi (Nat.le_of_ble_eq_true q.1)))
      obtain ⟨R2, S2⟩ := R.back S R' he (u := { t with objs := st.objs, low := st.low }) rfl hpr.lk
      have same : SameTo st.objs.length φ' φ := fun i hi => by
        have hi' : i < φ.length := by rw [R.len]; exact hi
        have e : φ[i]? = some φ[i] := by simp [hi']
        rw [e, S.pre i _ e]
      obtain ⟨h1, dd, h2, hn, gs, h3, h4⟩ := V
      refine P φ H' cl d S2 R2 ⟨h1, dd, h2, fun z => hn ?_, gs, h3, fun f y ef => ?_⟩
      · obtain ⟨i, hi⟩ := List.mem_iff_getElem?.mp z
        exact List.mem_of_getElem? (S.pre i dd hi)
      obtain ⟨w, g1, g2⟩ := h4 f y ef
      refine ⟨w, g1, VR.cutTo same g2 ?_⟩
      have : ∀ l : List (Nat × PV), (l.all fun p => TL.below st.objs.length p.2) = true → lookF l f = some y → TL.below st.objs.length y = true := by
        intro l
        induction l with
        | nil => intro _ e; cases e
        | cons p r ih =>
          obtain ⟨g, z⟩ := p
          intro hl e
          rw [List.all_cons, Bool.and_eq_true] at hl
          rw [lookF_cons] at e
          by_cases hg : g = f
          · rw [if_pos hg] at e; cases e; exact hl.1
          · rw [if_neg hg] at e; exact ih hl.2 e
      exact this x.fs q.2 ef
end
end TL
end

section
set_option maxRecDepth 100000
set_option maxHeartbeats 1000000
set_option autoImplicit false
/-! TL: calls by values; tests; displays; fields; items. -/
namespace TL
open PySem PySem.Spec PyProof.Rows L2
section
variable {c : Ctx} {k : Nat} {L : Lk} {S : Sk} {X : Cx} {W : WX} {pos : Pos} {pins : List (Addr × Obj)} {s : Shared} {σ : L2.St} {H : Hp} {Q : VK}
/-- as a value, as a test -/
def Both (X : Cx) (e : Expr) (t : TE) : Prop := PE X e t ∧ PT X e (tB t)
theorem Both.val {e : Expr} {t : TE} (h : PE X e t) (he : ∀ whole, isTrue e X.env whole = (do let v ← whole; standAt e.pos; holding [v] (truthy v))) : Both X e t := ⟨h, pt_val h he⟩

/-- a def is called with values (A: where) -/
theorem run_fnW {A : Around} {n : Nat} {f : Addr} {fd : FuncData} {ps ks : List Str} {sp : Sp} {us ws gs : List Value} {xs : List V} (F : FnOk X.prog X.w X.K X.mg X.base (L2.CX X.prog X.w) n f fd ps sp) (hr : Room n A) (hA : A.frames = X.A.frames)
    (I : Inv X pins σ H s) (r : Vals xs gs) (hb : (xs.length = ps.length → BindsTo s fd ⟨us, ks.zip ws⟩ (ps.zip gs))) (h : sp xs H Q (fun cl d H' => W cl d σ H')) {E : Value → Shared → Prop} (tk : ∀ u s', XE X W u s' → E u s') :
    wpAny (model X.prog X.w) A (call (.ref f) us (ks.zip ws)) (EP X pins σ Q) E s := by
  have hl := F.len _ _ _ _ h
  have e0 : Env0 X.prog X.w X.K X.mg X.base A X.stack s H := by
    have e := I.env0
    exact ⟨by rw [hA]; exact e.frames, e.mod, e.bs, e.bsz, e.funs, e.frf, e.hok, e.bare⟩
  refine wpAny_call (codeAny_mono (F.run A X.stack s H ⟨us, ks.zip ws⟩ gs xs Q (fun cl d H' => W cl d σ H') hr e0 (hb hl) r h) fun r s' hq => ?_)
  cases r with
  | error e => exact tk e s' (XE.of_call I (fun _ _ _ h => h) hq)
  | ok fl =>
    cases fl with
    | ret u => exact I.after hq
    | next => exact False.elim hq
    | brk => exact False.elim hq
    | cont => exact False.elim hq

/-- a run that raises nothing: quiet -/
theorem quiet_post {m : M PV} {st : Sto} {φ : List Addr} {W' : WX} {σ' : L2.St} (P : PostE L W' σ' φ H (M.quiet m st) Q) : PostE L W σ φ H (m st) Q := by
  unfold M.quiet at P
  cases e : m st with
  | ok a t => rw [e] at P; exact P
  | exc x t => rw [e] at P; exact (show False from P).elim
  | stuck => rw [e] at P; exact P
/-- a method without more arguments, or with one, by a built-in -/
theorem special_run (G : Good c k L S X) {A : Around} (hr : Room (2 * k) A) (hA : A.frames = X.A.frames) {r cl m f : Nat} {a : Addr} {φ : List Addr} {st : Sto} {xs : List PV} {vs : List V} {us : List Value} (hm : m ≤ nRepr) (hf : lookM c.meths cl m = some f)
    (I : Inv X pins σ H s) (R : Rl L φ st H) (ha : φ[r]? = some a) (hv : VRs L φ H xs vs) (rv : Vals vs us) (P : PostE L (fun _ _ _ _ => False) [] φ H (runQ c r cl m xs st) Q) :
    wpAny (model X.prog X.w) A (call (.ref (L.fa f)) (.ref a :: us)) (EP X pins σ Q) X.xe s := by
  unfold runQ runM at P
  rw [hf] at P
  refine run_fnW (ks := []) (ws := []) (gs := .ref a :: us) (xs := .ref a :: vs) (W := fun _ _ _ _ => False) (G.fn f) hr hA I (.cons rfl rv) (fun hl => ?_) (spM_of (xs := .ref r :: xs) R ⟨_, _, rfl, ⟨a, rfl, ha⟩, hv⟩ (quiet_post P)) takes_none5
  have := G.spc cl m f hm hf s (.ref a :: us) I.kIn (by rw [List.append_nil, ← hl, List.length_cons, List.length_cons, rv.length])
  simpa using this
/-- a == b of instances -/
theorem eq_inst (G : Good c k L S X) (hc : S.cold = true) {r q cl : Nat} {fs gs : List (Nat × PV)} {x y : V} {v u : Value} {φ : List Addr} {st : Sto} (e1 : st.objs[r]? = some (.inst cl fs)) (e2 : st.objs[q]? = some (.inst cl gs))
    (I : Inv X pins σ H s) (rx : RelV x v) (ry : RelV y u) (R : Rl L φ st H) (hp : VR L φ H (.ref r) x) (hq : VR L φ H (.ref q) y) (P : PostE L (fun _ _ _ _ => False) [] φ H (runQ c r cl nEq [.ref q] st) Q) :
    wpAny (model X.prog X.w) X.A (compareOp .Eq v u) (EP X pins σ Q) X.xe s := by
  obtain ⟨a, rfl, ha⟩ := (show ∃ a : Addr, x = .ref a ∧ φ[r]? = some a from hp)
  obtain ⟨b, rfl, hb⟩ := (show ∃ a : Addr, y = .ref a ∧ φ[q]? = some a from hq)
  cases rx
  cases ry
  obtain ⟨a', dx, gx, i1, i2, i3, im⟩ := R.ins e1
  obtain ⟨b', dy, gy, j1, j2, j3, jm⟩ := R.ins e2
  rw [ha] at i1; cases i1
  rw [hb] at j1; cases j1
  cases hf : lookM c.meths cl nEq with
  | none => unfold runQ runM at P; rw [hf] at P; exact (show False from P).elim
  | some f =>
    have M := G.meth cl nEq f hf
    rw [G.nms.2.1] at M
    obtain ⟨mA, J, _⟩ := ins_get I.hok i2
    obtain ⟨mB, J', _⟩ := ins_get I.hok j2
    obtain ⟨od, J, _⟩ := J.look
    obtain ⟨od', J', _⟩ := J'.look
    obtain ⟨m, hF⟩ := I.fr
    show wpAny (model X.prog X.w) X.A (richCompare .Eq (.ref a) (.ref b)) (EP X pins σ Q) X.xe s
    have P' := P
    unfold runQ runM at P'
    rw [hf] at P'
    have hr := (G.calm hc).2
    -- the answer is a bool
    refine PySem.W.cmp_K (op := .Eq) (tb := .ref (L.cl cl)) hr.units0 hF I.ok.mod.kin J J'.type (by simp [PySem.W.notFirst]) M.at_ M.fn ?_
    have hq' : VR L φ H (.ref q) (.ref b) := ⟨b, rfl, hb⟩
    have rb : L2.RelV (.ref b) (Value.ref b) := rfl
    refine thn (special_run G (hr.mono (Nat.le_succ _)) rfl (by decide) hf I R ha (VRs.one hq') (.cons rb .nil) P) fun w s' hw => ?_
    obtain ⟨z, H', I', rz, qz⟩ := hw
    cases z with
    | non => cases rz; exact ⟨.non, H', I', rfl, qz⟩
    | bl b => cases rz; exact ⟨.bl b, H', I', rfl, qz⟩
    | int i => obtain ⟨t, rfl⟩ := rz; exact ⟨.int i, H', I', ⟨t, rfl⟩, qz⟩
    | str x => obtain ⟨t, rfl⟩ := rz; exact ⟨.str x, H', I', ⟨t, rfl⟩, qz⟩
    | byt b => obtain ⟨t, rfl⟩ := rz; exact ⟨.byt b, H', I', ⟨t, rfl⟩, qz⟩
    | flt b => obtain ⟨t, rfl⟩ := rz; exact ⟨.flt b, H', I', ⟨t, rfl⟩, qz⟩
    | ref a => cases rz; exact ⟨.ref a, H', I', rfl, qz⟩
    | ty n => cases rz; exact ⟨.ty n, H', I', rfl, qz⟩
def eqI (c : Ctx) (r cl : Nat) (q : PV) (objs : List Ob) : M PV := match q with
  | .ref q' => match objs[q']? with
    | some (.inst d _) => match Nat.beq cl d with
      | true => runQ c r cl nEq [q]
      | false => M.stop
    | _ => M.stop
  | _ => M.stop
theorem compareV_inst {r cl : Nat} {fs : List (Nat × PV)} {q : PV} {st : Sto} (e : st.objs[r]? = some (.inst cl fs)) : compareV c .eq (.ref r) q st = eqI c r cl q st.objs st := by
  show (match st.objs[r]? with | some (.inst cl _) => _ | _ => _ : M PV) st = _
  rw [e]; rfl
theorem nox_runQ (r cl m : Nat) (xs : List PV) : NoX (runQ c r cl m xs) := NoX.quiet
/-- comparisons, instances too -/
theorem cmpC_full (G : Good c k L S X) (hc : S.cold = true) (o : COp) : OpR X (compareOp (cmpS' o)) (rV2 L (compareV c o)) := by
  by_cases ho : o = .eq
  · subst ho
    intro pins s σ H x y v u Q I rx ry h
    obtain ⟨φ, st, p, q, R, hp, hq, P⟩ := h
    have plain : compareV c .eq p q st = cmpM .eq p q st → wpAny (model X.prog X.w) X.A (compareOp .Eq v u) (EP X pins σ Q) X.xe s := fun e => by
      rw [e] at P
      exact cmp_full G.hK G.hP G.hW G.units .eq pins s σ H x y v u Q I rx ry ⟨φ, st, p, q, R, hp, hq, P⟩
    cases p with
    | ref r =>
      cases e : st.objs[r]? with
      | none =>
        refine plain ?_
        show (match st.objs[r]? with | some (.inst cl _) => _ | _ => _ : M PV) st = _
        rw [e]; rfl
      | some ob =>
        cases ob with
        | inst cl fs =>
          rw [compareV_inst e] at P
          have P' := P
          cases q with
          | ref q' =>
            simp only [eqI] at P'
            cases e2 : st.objs[q']? with
            | none => rw [e2] at P'; exact (show False from P').elim
            | some ob2 =>
              rw [e2] at P'
              cases ob2 with
              | inst d gs =>
                dsimp only at P'
                cases eb : Nat.beq cl d with
                | false => rw [eb] at P'; exact (show False from P').elim
                | true =>
                  rw [eb] at P'
                  have := Nat.eq_of_beq_eq_true eb
                  subst this
                  exact eq_inst G hc e e2 I rx ry R hp hq P'
              | _ => exact (show False from P').elim
          | _ => exact (show False from P').elim
        | _ =>
          refine plain ?_
          show (match st.objs[r]? with | some (.inst cl _) => _ | _ => _ : M PV) st = _
          rw [e]; rfl
    | _ => exact plain rfl
  · have e : compareV c o = cmpM o := by funext a b; exact cmpM_compareV ho
    rw [e]
    exact cmp_full G.hK G.hP G.hW G.units o
def notSet : Expr → Bool
  | .Set .. => false
  | _ => true
theorem notSet_ok {e : Expr} (h : notSet e = true) (op : CmpOp) : behindInMarks op e = false := by
  cases e <;> first | rfl | cases h
theorem notSet_last {e1 e2 : Expr} (h : notSet e2 = true) (op op' : CmpOp) : lastMarks [op, op'] [e1, e2] = false := notSet_ok h op'
theorem cmp_ok (G : Good c k L S X) (hc : S.cold = true) {o : COp} {a b : Ex} {e1 e2 : Expr} (h1 : PE X e1 (tE L W fun ρ => evE c ρ a)) (h2 : PE X e2 (tE L W fun ρ => evE c ρ b)) (hm : notSet e2 = true) :
    Both X (.Compare e1 [cmpS' o] [e2] pos) (tE L W fun ρ => evE c ρ (.cmp o a b)) := by
  have go : ∀ σ H Q, tE L W (fun ρ => evE c ρ (.cmp o a b)) σ H Q → tOp (rV2 L (compareV c o)) (tE L W fun ρ => evE c ρ a) (tE L W fun ρ => evE c ρ b) σ H Q := fun σ H Q h => bin_ok (nox_compareV c o) (by simp only [evE] at h; exact h)
  exact ⟨peI (pe_cmpR (cmpC_full G hc o) h1 h2 (notSet_ok hm _)) go, ptI (pt_cmpR (cmpC_full G hc o) h1 h2 (notSet_ok hm _)) fun σ H Q h => go σ H _ h⟩
end
end TL
end

section
set_option maxRecDepth 100000
set_option maxHeartbeats 1000000
set_option autoImplicit false
/-! TL: not, and, or, if, chains; displays; fields; items; slices. -/
namespace TL
open PySem PySem.Spec PyProof.Rows L2
section
variable {c : Ctx} {k : Nat} {L : Lk} {S : Sk} {X : Cx} {W : WX} {pos : Pos} {a b d : Ex} {e1 e2 e3 : Expr}
theorem not_ok (h : Both X e1 (tE L W fun ρ => evE c ρ a)) : Both X (.UnaryOp .Not e1 pos) (tE L W fun ρ => evE c ρ (.notE a)) := by
  have go : ∀ σ H Q, tE L W (fun ρ => evE c ρ (.notE a)) σ H Q → tE L W (fun ρ => evE c ρ a) σ H fun v H1 => ∃ b, v = .bl b ∧ Q (.bl (!b)) H1 := fun σ H Q h => by
    have h' : tE L W (fun ρ => evE c ρ a >>= fun x => asB x >>= fun b => M.ret (.bl (!b))) σ H Q := by simp only [evE] at h; exact h
    obtain ⟨φ, ρ, st, R, E, P⟩ := tE_test (k := fun b _ => M.ret (.bl (!b))) h'
    exact ⟨φ, ρ, st, R, E, P.imp fun v H1 ⟨b, e, q⟩ => ⟨b, e, tE_bool q⟩⟩
  refine ⟨peI (pe_not h.1) go, ptI (pt_not h.2) fun σ H Q h => ?_⟩
  obtain ⟨φ, ρ, st, R, E, P⟩ := go σ H _ h
  exact ⟨φ, ρ, st, R, E, P.imp fun v H1 ⟨b, e, b', e', q⟩ => ⟨b, e, by cases e'; exact q⟩⟩
/-- and, or as values: what the tree asks is a bool -/
theorem and_go {σ : L2.St} {H : Hp} {Q : VK} (h : tE L W (fun ρ => evE c ρ (.andE a b)) σ H Q) : tB (tE L W fun ρ => evE c ρ a) σ H fun k H1 => if k = true then tE L W (fun ρ => evE c ρ b) σ H1 (fun v H2 => ∃ j, v = .bl j ∧ Q (.bl j) H2) else Q (.bl false) H1 := by
  have h' : tE L W (fun ρ => evE c ρ a >>= fun x => asB x >>= fun k => match k with
    | true => evE c ρ b >>= fun y => asB y >>= fun j => M.ret (.bl j)
    | false => M.ret (.bl false)) σ H Q := by simp only [evE] at h; exact h
  obtain ⟨φ, ρ, st, R, E, P⟩ := tE_test (k := fun k ρ => match k with
    | true => evE c ρ b >>= fun y => asB y >>= fun j => M.ret (.bl j)
    | false => M.ret (.bl false)) h'
  refine ⟨φ, ρ, st, R, E, P.imp fun v H1 ⟨k, e, q⟩ => ⟨k, e, ?_⟩⟩
  cases k with
  | true => exact tE_asB q
  | false => exact tE_bool q
theorem or_go {σ : L2.St} {H : Hp} {Q : VK} (h : tE L W (fun ρ => evE c ρ (.orE a b)) σ H Q) : tB (tE L W fun ρ => evE c ρ a) σ H fun k H1 => if k = true then Q (.bl true) H1 else tE L W (fun ρ => evE c ρ b) σ H1 (fun v H2 => ∃ j, v = .bl j ∧ Q (.bl j) H2) := by
  have h' : tE L W (fun ρ => evE c ρ a >>= fun x => asB x >>= fun k => match k with
    | true => M.ret (.bl true)
    | false => evE c ρ b >>= fun y => asB y >>= fun j => M.ret (.bl j)) σ H Q := by simp only [evE] at h; exact h
  obtain ⟨φ, ρ, st, R, E, P⟩ := tE_test (k := fun k ρ => match k with
    | true => M.ret (.bl true)
    | false => evE c ρ b >>= fun y => asB y >>= fun j => M.ret (.bl j)) h'
  refine ⟨φ, ρ, st, R, E, P.imp fun v H1 ⟨k, e, q⟩ => ⟨k, e, ?_⟩⟩
  cases k with
  | true => exact tE_bool q
  | false => exact tE_asB q
/-- a chain of and (or): as a value; as a test, whatever its whole is -/
def BothB (X : Cx) (e : Expr) (t : TE) : Prop := PE X e t ∧ PW X e (tB t)
theorem BothB.both {e : Expr} {t : TE} (h : BothB X e t) : Both X e t := ⟨h.1, h.2.pt⟩
theorem and_one (h : Both X e1 (tE L W fun ρ => evE c ρ a)) : BothB X (.BoolOp .And [e1] pos) (tE L W fun ρ => evE c ρ a) := ⟨pe_one h.1, pw_and1 h.2⟩
theorem or_one (h : Both X e1 (tE L W fun ρ => evE c ρ a)) : BothB X (.BoolOp .Or [e1] pos) (tE L W fun ρ => evE c ρ a) := ⟨pe_one h.1, pw_or1 h.2⟩
theorem pwI {X : Cx} {e : Expr} {t t' : TT} (h : PW X e t) (i : ∀ σ H Q, t' σ H Q → t σ H Q) : PW X e t' := ⟨fun wh pins s σ H Q I q => h.run wh pins s σ H Q I (i σ H Q q)⟩
theorem tE_imp {m : Env → M PV} {σ : L2.St} {H : Hp} {Q Q' : VK} (h : tE L W m σ H Q) (i : ∀ v H', Q v H' → Q' v H') : tE L W m σ H Q' := by
  obtain ⟨φ, ρ, st, R, E, P⟩ := h
  exact ⟨φ, ρ, st, R, E, P.imp i⟩
theorem and_ok {rest : List Expr} (h1 : Both X e1 (tE L W fun ρ => evE c ρ a)) (h2 : BothB X (.BoolOp .And (e2 :: rest) pos) (tE L W fun ρ => evE c ρ b)) : BothB X (.BoolOp .And (e1 :: e2 :: rest) pos) (tE L W fun ρ => evE c ρ (.andE a b)) := by
  refine ⟨peI (pe_and h1.1 h2.1) fun σ H Q h => tE_imp (and_go h) fun v H1 ⟨k, e, q⟩ => ⟨k, e, ?_⟩, pwI (pw_and h1.2 h2.2) fun σ H Q h => tE_imp (and_go h) fun v H1 ⟨k, e, q⟩ => ⟨k, e, ?_⟩⟩
  · cases k with
    | true => exact tE_imp q fun v H2 ⟨j, e, q⟩ => by rw [e]; exact q
    | false => exact q
  · cases k with
    | true => exact tE_imp q fun v H2 ⟨j, e, j', e', q⟩ => ⟨j, e, by cases e'; exact q⟩
    | false => obtain ⟨j, e, q⟩ := q; cases e; exact q
theorem or_ok {rest : List Expr} (h1 : Both X e1 (tE L W fun ρ => evE c ρ a)) (h2 : BothB X (.BoolOp .Or (e2 :: rest) pos) (tE L W fun ρ => evE c ρ b)) : BothB X (.BoolOp .Or (e1 :: e2 :: rest) pos) (tE L W fun ρ => evE c ρ (.orE a b)) := by
  refine ⟨peI (pe_or h1.1 h2.1) fun σ H Q h => tE_imp (or_go h) fun v H1 ⟨k, e, q⟩ => ⟨k, e, ?_⟩, pwI (pw_or h1.2 h2.2) fun σ H Q h => tE_imp (or_go h) fun v H1 ⟨k, e, q⟩ => ⟨k, e, ?_⟩⟩
  · cases k with
    | true => exact q
    | false => exact tE_imp q fun v H2 ⟨j, e, q⟩ => by rw [e]; exact q
  · cases k with
    | true => obtain ⟨j, e, q⟩ := q; cases e; exact q
    | false => exact tE_imp q fun v H2 ⟨j, e, j', e', q⟩ => ⟨j, e, by cases e'; exact q⟩
theorem ite_ok (h1 : Both X e1 (tE L W fun ρ => evE c ρ a)) (h2 : Both X e2 (tE L W fun ρ => evE c ρ b)) (h3 : Both X e3 (tE L W fun ρ => evE c ρ d)) : PE X (.IfExp e1 e2 e3 pos) (tE L W fun ρ => evE c ρ (.ite a b d)) :=
  peI (pe_ifExp h1.2 h2.1 h3.1) fun σ H Q h => by
    have h' : tE L W (fun ρ => evE c ρ a >>= fun x => asB x >>= fun k => match k with
      | true => evE c ρ b
      | false => evE c ρ d) σ H Q := by simp only [evE] at h; exact h
    refine tE_imp (tE_test (k := fun k ρ => match k with
      | true => evE c ρ b
      | false => evE c ρ d) h') fun v H1 ⟨k, e, q⟩ => ⟨k, e, ?_⟩
    cases k with
    | true => exact q
    | false => exact q
/-- a op b op' d -/
theorem chn_ok (G : Good c k L S X) (hc : S.cold = true) {o p : COp} (h1 : PE X e1 (tE L W fun ρ => evE c ρ a)) (h2 : PE X e2 (tE L W fun ρ => evE c ρ b)) (h3 : PE X e3 (tE L W fun ρ => evE c ρ d)) (hm : notSet e3 = true) :
    Both X (.Compare e1 [cmpS' o, cmpS' p] [e2, e3] pos) (tE L W fun ρ => evE c ρ (.chn o p a b d)) := by
  have go : ∀ σ H Q, tE L W (fun ρ => evE c ρ (.chn o p a b d)) σ H Q → tChain (rV2 L (compareV c o)) (rV2 L (compareV c p)) (tE L W fun ρ => evE c ρ a) (tE L W fun ρ => evE c ρ b) (tE L W fun ρ => evE c ρ d) σ H Q := fun σ H Q h => by
    have h' : tE L W (fun ρ => evE c ρ a >>= fun x => evE c ρ b >>= fun y => compareV c o x y >>= fun r => asB r >>= fun k => match k with
      | true => evE c ρ d >>= fun z => compareV c p y z
      | false => M.ret (.bl false)) σ H Q := by simp only [evE] at h; exact h
    refine tE_then (k := fun x ρ => evE c ρ b >>= fun y => compareV c o x y >>= fun r => asB r >>= fun k => match k with
      | true => evE c ρ d >>= fun z => compareV c p y z
      | false => M.ret (.bl false)) h' fun v H1 q => ?_
    refine tE_imp (tK_bind (k := fun x y ρ => compareV c o x y >>= fun r => asB r >>= fun k => match k with
      | true => evE c ρ d >>= fun z => compareV c p y z
      | false => M.ret (.bl false)) q) fun w H2 q2 => ?_
    obtain ⟨φ, ρ, st, x, y, R, E, V, V', P⟩ := q2
    refine ⟨φ, st, x, y, R, V, V', postE_nox (W := W) (σ := σ) (fun z t => nox_compareV c o x y st z t) ((PostE.bind P).imp fun r H3 q3 => ?_)⟩
    obtain ⟨φ1, t, r', S1, R1, V1, P1⟩ := q3
    obtain ⟨k, e3, P2⟩ := asB_post (k := fun k ρ => match k with
      | true => evE c ρ d >>= fun z => compareV c p y z
      | false => M.ret (.bl false)) (ρ := ρ) V1 P1
    refine ⟨k, e3, ?_⟩
    cases k with
    | false => exact PostE.ret (x := .bl false) P2 R1 rfl
    | true =>
      refine ⟨φ1, ρ, t, R1, E.mono S1, (PostE.bind P2).imp fun z H4 q4 => ?_⟩
      obtain ⟨φ2, t2, z', S2, R2, V2, P3⟩ := q4
      exact ⟨φ2, t2, y, z', R2, V'.mono (S1.trans S2), V2, postE_nox (fun a b => nox_compareV c p y z' t2 a b) P3⟩
  exact ⟨peI (pe_chain (cmpC_full G hc o) (cmpC_full G hc p) h1 h2 h3 (notSet_last hm _ _)) go, ptI (pt_chain (cmpC_full G hc o) (cmpC_full G hc p) h1 h2 h3 (notSet_last hm _ _)) fun σ H Q h => go σ H _ h⟩

/-! ### argument lists, displays -/
def noStar : Expr → Bool
  | .Starred .. => false
  | _ => true
theorem star_ok {e : Expr} {es : List Expr} {env : PySem.Env} (h : noStar e = true) : starEach (e :: es) env = (false, eval e env) :: starEach es env := by
  cases e <;> first | rfl | cases h
theorem anil_ok : PA X [] (tA L W fun ρ => evEs c ρ []) := paI pa_nil fun σ H Q h => args_nil (by simp only [evEs] at h; exact h)
theorem acons_ok {es : List Ex} {xs : List Expr} (h1 : PE X e1 (tE L W fun ρ => evE c ρ a)) (h2 : PA X xs (tA L W fun ρ => evEs c ρ es)) (hs : noStar e1 = true) : PA X (e1 :: xs) (tA L W fun ρ => evEs c ρ (a :: es)) :=
  paI (pa_cons h1 h2 (star_ok hs)) fun σ H Q h => args_cons (by simp only [evEs] at h; exact h)
theorem tup_ok {es : List Ex} {xs : List Expr} {j : Nat} (h : PA X xs (tA L W fun ρ => evEs c ρ es)) : PE X (.Tuple xs j pos) (tE L W fun ρ => evE c ρ (.tup es)) :=
  peI (pe_tup h) fun σ H Q h => by
    have h' : tE L W (fun ρ => evEs c ρ es >>= fun xs => M.guard (xs.length ≤ lineN) >>= fun _ => M.ret (.tup xs)) σ H Q := by simp only [evE] at h; exact h
    obtain ⟨φ, ρ, st, R, E, P⟩ := tA_bind (k := fun xs _ => M.guard (xs.length ≤ lineN) >>= fun _ => M.ret (.tup xs)) h'
    refine ⟨φ, ρ, st, R, E, PostA.imp P fun vs H1 q => ?_⟩
    obtain ⟨φ1, ρ1, t, ys, R1, E1, V1, P1⟩ := q
    dsimp only at P1
    by_cases hl : ys.length ≤ lineN
    · rw [guard_ok (by simpa using hl)] at P1
      exact ⟨by rw [V1.length]; exact Nat.le_trans hl lineN_le, fun p hp => P1.tup R1 V1 hp⟩
    · rw [guard_no (by simpa using hl)] at P1; exact (show False from P1).elim
theorem lst_ok {es : List Ex} {xs : List Expr} (h : PA X xs (tA L W fun ρ => evEs c ρ es)) : PE X (.List xs pos) (tE L W fun ρ => evE c ρ (.lst es)) :=
  peI (pe_lst h) fun σ H Q h => by
    have h' : tE L W (fun ρ => evEs c ρ es >>= fun xs => M.guard (xs.length ≤ lineN) >>= fun _ => alloc (.list xs)) σ H Q := by simp only [evE] at h; exact h
    obtain ⟨φ, ρ, st, R, E, P⟩ := tA_bind (k := fun xs _ => M.guard (xs.length ≤ lineN) >>= fun _ => alloc (.list xs)) h'
    refine ⟨φ, ρ, st, R, E, PostA.imp P fun vs H1 q => ?_⟩
    obtain ⟨φ1, ρ1, t, ys, R1, E1, V1, P1⟩ := q
    dsimp only at P1
    by_cases hl : ys.length ≤ lineN
    · rw [guard_ok (by simpa using hl)] at P1
      exact ⟨by rw [V1.length]; exact Nat.le_trans hl lineN_le, fun p hp => P1.list R1 V1 hp⟩
    · rw [guard_no (by simpa using hl)] at P1; exact (show False from P1).elim

/-! ### fields -/
def noCall : Expr → Bool
  | .Call .. => false
  | _ => true
theorem base_ok {e : Expr} {f : Str} {env : PySem.Env} (h : noCall e = true) : attributeBase e f env (eval e env) = eval e env := by
  cases e <;> first | rfl | cases h
theorem fld_ok (G : Good c k L S X) {f : Nat} (h : PE X e1 (tE L W fun ρ => evE c ρ a)) (hb : noCall e1 = true) (hf : S.tb.fl.contains f = true) : PE X (.Attribute e1 (L.nm f) pos) (tE L W fun ρ => evE c ρ (.fld f a)) :=
  peI (pe_fld h (base_ok hb)) fun σ H Q h => tE_then (k := fun x _ => getFld x f) (by simp only [evE] at h; exact h) fun v H1 q => by
    obtain ⟨φ, ρ, st, x, R, E, V, P⟩ := q
    cases x with
    | ref r =>
      obtain ⟨a', rfl, ha⟩ := (show ∃ a : Addr, v = .ref a ∧ φ[r]? = some a from V)
      have P' : PostE L W σ φ H1 ((getOb r >>= fun o => match o with | .inst _ fs => M.opt (lookF fs f) | _ => M.stop) st) Q := P
      cases e : st.objs[r]? with
      | none => rw [getOb_no e] at P'; exact (show False from P').elim
      | some ob =>
        rw [getOb_bind e] at P'
        cases ob with
        | inst i fs =>
          dsimp only at P'
          obtain ⟨a2, dx, gs, i1, i2, i3, im⟩ := R.ins e
          rw [ha] at i1; cases i1
          cases el : lookF fs f with
          | none => rw [el] at P'; exact (show False from P').elim
          | some y =>
            rw [el] at P'
            obtain ⟨w, g1, g2⟩ := (FR.look i3).1 y el
            refine ⟨a', L.cl i, dx, gs, w, rfl, i2, G.cls i im, ?_, g1, P'.ret R g2⟩
            exact G.noat i im f (List.contains_iff_mem.mp hf)
        | _ => exact (show False from P').elim
    | _ => exact (show False from P).elim

/-! ### items, slices -/
def notSl : Expr → Bool
  | .Slice .. => false
  | _ => true
theorem plainIx_ok {e : Expr} (h : notSl e = true) : PlainIx e := fun o i => by cases e <;> first | rfl | cases h
theorem atO_atI {α : Type} (xs : List α) (i : Int) : atO xs i = atI xs i := by
  unfold atO atI
  show (match ixO xs.length i with | some j => xs[j]? | none => none) = (ixO xs.length i).bind fun j => xs[j]?
  cases ixO xs.length i <;> rfl
theorem VRs.atI {φ : List Addr} {H : Hp} {xs : List PV} {vs : List V} {i : Int} {x : PV} (h : VRs L φ H xs vs) (e : atO xs i = some x) : ∃ v, L2.atI vs i = some v ∧ VR L φ H x v := by
  rw [← atO_atI]
  unfold atO at e ⊢
  rw [h.length]
  cases q : ixO xs.length i with
  | none => rw [q] at e; cases e
  | some j => rw [q] at e; exact h.get e
theorem ix_full (G : Good c k L S X) : IxR X (rV2 L getItem) := by
  intro value slice pins s σ H x y v u Q I rx ry h hs
  obtain ⟨φ, st, p, q, R, hp, hq, P⟩ := h
  cases p with
  | tup xs =>
    cases q with
    | int i =>
      obtain ⟨a, vs, rfl, ha, hv⟩ := (show ∃ (a : Addr) (vs : List V), x = .ref a ∧ SqT L.K H a vs ∧ VRs L φ H xs vs from hp)
      obtain rfl : y = .int i := hq
      have P' : PostE L (fun _ _ _ _ => False) [] φ H (M.opt (atO xs i) st) Q := P
      cases e : atO xs i with
      | none => rw [e] at P'; exact (show False from P').elim
      | some z =>
        rw [e] at P'
        obtain ⟨w, g1, g2⟩ := hv.atI e
        exact ix_tup value slice pins s σ H _ _ v u Q I rx ry ⟨a, vs, i, w, rfl, rfl, by rw [G.hK]; exact ha, g1, P'.ret R g2⟩ hs
    | _ => exact (show False from P).elim
  | str z =>
    cases q with
    | int i =>
      obtain rfl : x = .str ⟨z.toArray⟩ := hp
      obtain rfl : y = .int i := hq
      have P' : PostE L (fun _ _ _ _ => False) [] φ H ((M.guard (z.length ≤ lineN) >>= fun _ => M.opt (atO z i) >>= fun ch => M.ret (.str [ch])) st) Q := P
      by_cases hl : z.length ≤ lineN
      · rw [guard_ok (by simpa using hl)] at P'
        cases e : atO z i with
        | none => rw [opt_none e] at P'; exact (show False from P').elim
        | some ch =>
          rw [opt_bind e] at P'
          refine ix_str value slice pins s σ H _ _ v u Q I rx ry ⟨⟨z.toArray⟩, i, ch, rfl, rfl, ?_, by rw [← atO_atI]; simpa using e, P'.ret R rfl⟩ hs
          show z.toArray.size ≤ sizeLine
          rw [List.size_toArray]
          exact Nat.le_trans hl lineN_le
      · rw [guard_no (by simpa using hl)] at P'; exact (show False from P').elim
    | _ => exact (show False from P).elim
  | ref r =>
    obtain ⟨a', rfl, ha⟩ := (show ∃ a : Addr, x = .ref a ∧ φ[r]? = some a from hp)
    have P' : PostE L (fun _ _ _ _ => False) [] φ H ((getOb r >>= fun o => match o with
      | .list xs => match q with
        | .int j => M.opt (atO xs j)
        | _ => M.stop
      | .dict kvs => M.guard (keyOk kvs q) >>= fun _ => M.opt (lookD kvs q)
      | _ => M.stop) st) Q := P
    cases e : st.objs[r]? with
    | none => rw [getOb_no e] at P'; exact (show False from P').elim
    | some ob =>
      rw [getOb_bind e] at P'
      cases ob with
      | list xs =>
        dsimp only at P'
        cases q with
        | int i =>
          obtain rfl : y = .int i := hq
          obtain ⟨a2, vs, i1, i2, i3, i4, i5⟩ := R.lst e
          rw [ha] at i1; cases i1
          dsimp only at P'
          cases e2 : atO xs i with
          | none => rw [e2] at P'; exact (show False from P').elim
          | some z =>
            rw [e2] at P'
            obtain ⟨w, g1, g2⟩ := i2.atI e2
            exact ix_list value slice pins s σ H _ _ v u Q I rx ry ⟨a', vs, i, w, rfl, rfl, by rw [G.hK]; exact i3, g1, P'.ret R g2⟩ hs
        | _ => exact (show False from P').elim
      | dict kvs =>
        dsimp only at P'
        cases hk : keyOk kvs q with
        | false => rw [guard_no hk] at P'; exact (show False from P').elim
        | true =>
          rw [guard_ok hk] at P'
          cases e2 : lookD kvs q with
          | none => rw [e2] at P'; exact (show False from P').elim
          | some z =>
            rw [e2] at P'
            obtain ⟨a2, o, i1, i2, i3, i4, i5⟩ := R.dic e
            rw [ha] at i1; cases i1
            obtain rfl : v = .ref a' := rx
            have hT : s.TypeIs (.ref a') "dict" := ⟨o, hp_obj I i2, i4.1⟩
            exact tail_any hT slot_dict_getitem.lookup (dk_getItem G.hK G.hP G.hW G.units I i2 i3 i4 i5 hk hq ry e2 fun w u' s' I' V' r' => ⟨w, H, I', r', P'.ret R V'⟩) hs
      | _ => exact (show False from P').elim
  | _ => cases q <;> exact (show False from P).elim
theorem idx_ok (G : Good c k L S X) (h1 : PE X e1 (tE L W fun ρ => evE c ρ a)) (h2 : PE X e2 (tE L W fun ρ => evE c ρ b)) (hs : notSl e2 = true) : PE X (.Subscript e1 e2 pos) (tE L W fun ρ => evE c ρ (.idx a b)) :=
  peI (pe_ix (ix_full G) h1 h2 (plainIx_ok hs)) fun σ H Q h => bin_ok nox_getItem (by simp only [evE] at h; exact h)
end
end TL
end

section
set_option maxRecDepth 100000
set_option maxHeartbeats 1000000
set_option autoImplicit false
/-! TL: slices; calls. -/
namespace TL
open PySem PySem.Spec PyProof.Rows L2
section
variable {c : Ctx} {k : Nat} {L : Lk} {S : Sk} {X : Cx} {W : WX} {pos : Pos} {a b d : Ex} {e1 e2 e3 : Expr}
/-! ### slices -/
theorem clip_sIx (n d : Nat) (o : Option Int) : clip n d o = HT.sIx n d o := by
  cases o with
  | none => rfl
  | some i =>
    show (if 0 ≤ i then min i.toNat n else (i + n).toNat) = (if i < 0 then (i + (n : Int)).toNat else min i.toNat n)
    by_cases h : 0 ≤ i
    · rw [if_pos h, if_neg (by omega)]
    · rw [if_neg h, if_pos (by omega)]
theorem VRs.cut {φ : List Addr} {H : Hp} {xs : List PV} {vs : List V} (h : VRs L φ H xs vs) (lo hi : Option Int) : VRs L φ H (cutL xs lo hi) (cutV vs lo hi) := by
  unfold cutL cutV
  rw [clip_sIx, clip_sIx, h.length]
  exact (h.drop _).take _
def rSl (L : Lk) : V → Option Int → Option Int → Hp → VK → Prop := fun x lo hi H Q => ∃ φ st p, Rl L φ st H ∧ VR L φ H p x ∧ PostE L (fun _ _ _ _ => False) [] φ H (sliceV p lo hi st) Q
theorem sl_full (G : Good c k L S X) : SlR X (rSl L) := by
  intro pins s σ H x v vl vu lo hi sl Q I rx hs pl pu h
  obtain ⟨φ, st, p, R, hp, P⟩ := h
  cases p with
  | tup xs =>
    obtain ⟨a, vs, rfl, ha, hv⟩ := (show ∃ (a : Addr) (vs : List V), x = .ref a ∧ SqT L.K H a vs ∧ VRs L φ H xs vs from hp)
    refine sl_tupA pins s σ H _ v vl vu lo hi sl Q I rx hs pl pu ⟨a, vs, rfl, by rw [G.hK]; exact ha, fun hw => ?_, fun _ p hp' => ?_⟩
    · have : cutL xs lo hi = xs := by
        unfold cutL
        rw [clip_sIx, clip_sIx, ← hv.length, hw.1, hw.2]
        simp [hv.length]
      have P' : PostE L (fun _ _ _ _ => False) [] φ H (.ok (.tup (cutL xs lo hi)) st) Q := P
      rw [this] at P'
      exact P'.ret R hp
    · exact PostE.tup P R (hv.cut lo hi) hp'
  | str z =>
    obtain rfl : x = .str ⟨z.toArray⟩ := hp
    have P' : PostE L (fun _ _ _ _ => False) [] φ H ((M.guard (z.length ≤ lineN) >>= fun _ => M.ret (.str (cutL z lo hi))) st) Q := P
    by_cases hl : z.length ≤ lineN
    · rw [guard_ok (by simpa using hl)] at P'
      refine sl_str pins s σ H _ v vl vu lo hi sl Q I rx hs pl pu ⟨⟨z.toArray⟩, rfl, ?_, ?_⟩
      · show z.toArray.size ≤ sizeLine
        rw [List.size_toArray]; exact Nat.le_trans hl lineN_le
      · have e : cutS ⟨z.toArray⟩ lo hi = ⟨(cutL z lo hi).toArray⟩ := by
          unfold cutS cutL
          have h1 : (Str.mk z.toArray).length = z.length := by show z.toArray.size = _; simp
          rw [clip_sIx, clip_sIx, h1]
        rw [e]
        exact P'.ret R rfl
    · rw [guard_no (by simpa using hl)] at P'; exact (show False from P').elim
  | ref r =>
    obtain ⟨a', rfl, ha⟩ := (show ∃ a : Addr, x = .ref a ∧ φ[r]? = some a from hp)
    have P' : PostE L (fun _ _ _ _ => False) [] φ H ((getOb r >>= fun o => match o with
      | .list xs => alloc (.list (cutL xs lo hi))
      | _ => M.stop) st) Q := P
    cases e : st.objs[r]? with
    | none => rw [getOb_no e] at P'; exact (show False from P').elim
    | some ob =>
      rw [getOb_bind e] at P'
      cases ob with
      | list xs =>
        dsimp only at P'
        obtain ⟨a2, vs, i1, i2, i3, i4, i5⟩ := R.lst e
        rw [ha] at i1; cases i1
        exact sl_list pins s σ H _ v vl vu lo hi sl Q I rx hs pl pu ⟨a', vs, rfl, by rw [G.hK]; exact i3, fun p hp => P'.list R (i2.cut lo hi) hp⟩
      | _ => exact (show False from P').elim
  | _ => exact (show False from P).elim
/-- a slice's part -/
def PostO (L : Lk) (W : WX) (σ : L2.St) (φ : List Addr) (H : Hp) (r : Res (Option Int)) (Q : Option Int → Hp → Prop) : Prop := match r with
  | .ok o t => ∀ φ' H', Step φ H φ' H' → Rl L φ' t H' → Q o H'
  | .exc x t => ∀ φ' H' c d, Step φ H φ' H' → Rl L φ' t H' → XR L φ' H' x c d → W c d σ H'
  | .stuck => False
def tO (L : Lk) (W : WX) (m : Env → M (Option Int)) : TO := fun σ H Q => ∃ φ ρ st, Rl L φ st H ∧ ER L φ H ρ σ ∧ PostO L W σ φ H (m ρ st) Q
theorem poI {e : Option Expr} {t t' : TO} (h : PO X e t) (i : ∀ σ H Q, t' σ H Q → t σ H Q) : PO X e t' := ⟨fun pins s σ H Q I q => h.run pins s σ H Q I (i σ H Q q)⟩
theorem PostO.bind {m : M (Option Int)} {q : Option Int → M PV} {st : Sto} {σ : L2.St} {φ : List Addr} {H : Hp} {Q : VK} (P : PostE L W σ φ H ((m >>= q) st) Q) : PostO L W σ φ H (m st) fun o H1 => ∃ φ1 t, Step φ H φ1 H1 ∧ Rl L φ1 t H1 ∧ PostE L W σ φ1 H1 (q o t) Q := by
  cases e : m st with
  | stuck => rw [bind_stuck e] at P; exact P
  | exc x t => rw [bind_exc e] at P; exact P
  | ok x t =>
    rw [bind_ok e] at P
    exact fun φ1 H1 S1 R1 => ⟨φ1, t, S1, R1, PostE.step P S1⟩
theorem PostO.imp {r : Res (Option Int)} {σ : L2.St} {φ : List Addr} {H : Hp} {Q Q' : Option Int → Hp → Prop} (P : PostO L W σ φ H r Q) (h : ∀ v H', Q v H' → Q' v H') : PostO L W σ φ H r Q' := by
  cases r with
  | ok x t => exact fun φ2 H2 s2 R => h _ _ (P φ2 H2 s2 R)
  | exc x t => exact P
  | stuck => exact P
theorem onone_ok : PO X none (tO L W fun ρ => evO c ρ none) := poI po_none fun σ H Q h => by
  obtain ⟨φ, ρ, st, R, E, P⟩ := h
  simp only [evO] at P
  exact P φ H Step.refl R
theorem osome_ok (h1 : PE X e1 (tE L W fun ρ => evE c ρ a)) : PO X (some e1) (tO L W fun ρ => evO c ρ (some a)) := poI (po_some h1) fun σ H Q h => by
  obtain ⟨φ, ρ, st, R, E, P⟩ := h
  refine ⟨φ, ρ, st, R, E, ?_⟩
  simp only [evO] at P
  show PostE L W σ φ H (evE c ρ a st) _
  cases e : evE c ρ a st with
  | stuck => rw [bind_stuck e] at P; exact P
  | exc x t => rw [bind_exc e] at P; exact P
  | ok x t =>
    rw [bind_ok e] at P
    intro φ1 H1 v S1 R1 V1
    cases x with
    | int i => exact ⟨i, V1, P φ1 H1 S1 R1⟩
    | _ => exact (show False from P).elim
theorem slc_ok (G : Good c k L S X) {l u : Option Ex} {lo hi : Option Expr} {p2 : Pos} (h1 : PE X e1 (tE L W fun ρ => evE c ρ a)) (h2 : PO X lo (tO L W fun ρ => evO c ρ l)) (h3 : PO X hi (tO L W fun ρ => evO c ρ u)) :
    PE X (.Subscript e1 (.Slice lo hi none p2) pos) (tE L W fun ρ => evE c ρ (.slc a l u)) :=
  peI (pe_slice (sl_full G) h1 h2 h3) fun σ H Q h => by
    obtain ⟨φ, ρ, st, R, E, P⟩ := h
    have P' : PostE L W σ φ H ((evE c ρ a >>= fun x => evO c ρ l >>= fun lo => evO c ρ u >>= fun hi => sliceV x lo hi) st) Q := by simp only [evE] at P; exact P
    refine ⟨φ, ρ, st, R, E, P'.bind.imp fun v H1 ⟨φ1, t, x, S1, R1, V1, P1⟩ => ?_⟩
    refine ⟨φ1, ρ, t, R1, E.mono S1, (PostO.bind P1).imp fun o H2 ⟨φ2, t2, S2, R2, P2⟩ => ?_⟩
    refine ⟨φ2, ρ, t2, R2, (E.mono S1).mono S2, (PostO.bind P2).imp fun o2 H3 ⟨φ3, t3, S3, R3, P3⟩ => ?_⟩
    exact ⟨φ3, t3, x, R3, V1.mono (S2.trans S3), postE_nox (fun z w => nox_sliceV x o o2 t3 z w) P3⟩

/-! ### calls -/
theorem tA_then {ma : Env → M (List PV)} {m : List PV → Env → M PV} {σ : L2.St} {H : Hp} {Q : VK} {R : List V → Hp → Prop} (h : tE L W (fun ρ => ma ρ >>= fun xs => m xs ρ) σ H Q) (hk : ∀ vs H1, tKA L W m vs σ H1 Q → R vs H1) : tA L W ma σ H R := by
  obtain ⟨φ, ρ, st, R0, E, P⟩ := tA_bind h
  exact ⟨φ, ρ, st, R0, E, PostA.imp P fun v H1 q => hk v H1 q⟩
theorem opt_post {o : Option (List PV)} {m : List PV → M PV} {st : Sto} {σ : L2.St} {φ : List Addr} {H : Hp} {Q : VK} (P : PostE L W σ φ H ((M.opt o >>= m) st) Q) : ∃ ys, o = some ys ∧ PostE L W σ φ H (m ys st) Q := by
  cases o with
  | none => exact (show False from P).elim
  | some ys => exact ⟨ys, rfl, P⟩
theorem bind_inv {α β : Type} {m : M α} {q : α → M β} {s t : Sto} {b : β} (e : (m >>= q) s = .ok b t) : ∃ a u, m s = .ok a u ∧ q a u = .ok b t := by
  cases e1 : m s with
  | ok a u => rw [bind_ok e1] at e; exact ⟨a, u, rfl, e⟩
  | exc x u => rw [bind_exc e1] at e; cases e
  | stuck => rw [bind_stuck e1] at e; cases e
theorem evEs_len {ρ : Env} : ∀ {es : List Ex} {s t : Sto} {xs : List PV}, evEs c ρ es s = .ok xs t → xs.length = es.length
  | [], s, t, xs, e => by simp only [evEs] at e; cases e; rfl
  | a :: es, s, t, xs, e => by
    simp only [evEs] at e
    obtain ⟨v, u, e1, e2⟩ := bind_inv e
    obtain ⟨vs, u2, e3, e4⟩ := bind_inv e2
    cases e4
    rw [List.length_cons, List.length_cons, evEs_len e3]
theorem tA_len {es : List Ex} {σ : L2.St} {H : Hp} {Q : List V → Hp → Prop} (h : tA L W (fun ρ => evEs c ρ es) σ H Q) : tA L W (fun ρ => evEs c ρ es) σ H fun vs H1 => vs.length = es.length ∧ Q vs H1 := by
  obtain ⟨φ, ρ, st, R, E, P⟩ := h
  refine ⟨φ, ρ, st, R, E, ?_⟩
  show PostA L W σ φ H (evEs c ρ es st) _
  have P' : PostA L W σ φ H (evEs c ρ es st) Q := P
  cases e : evEs c ρ es st with
  | stuck => rw [e] at P'; exact P'
  | exc x t => rw [e] at P'; exact P'
  | ok xs t =>
    rw [e] at P'
    exact fun φ1 H1 vs S1 R1 V1 => ⟨by rw [V1.length, evEs_len e], P' φ1 H1 vs S1 R1 V1⟩
theorem noStars {es : List Expr} {env : PySem.Env} {pos : Pos} (h : es.all noStar = true) : (backTo pos (starEach es env)).any (·.1) = false := by
  induction es with
  | nil => rfl
  | cons e es ih =>
    rw [List.all_cons, Bool.and_eq_true] at h
    rw [star_ok h.1]
    show (backTo pos ((false, eval e env) :: starEach es env)).any (·.1) = false
    unfold backTo
    rw [List.map_cons, List.any_cons]
    exact ih h.2
/-- f(e, ..) -/
theorem call_ok (G : Good c k L S X) (hc : S.cold = true) (tk : Takes X W) {x : Str} {p : Pos} {f : Nat} {es : List Ex} {xs : List Expr} {bs : List Src} (hx : S.gl x = some (.fn f)) (hg : glB S.sc x = true) (hp : plainNm x = true)
    (ha : PA X xs (tA L W fun ρ => evEs c ρ es)) (hst : xs.all noStar = true) (hlen : xs.length = es.length) (hb : BindOk L f es.length [] bs) : PE X (.Call (.Name x p) xs [] pos) (tE L W fun ρ => evE c ρ (.call f es bs)) := by
  have body : ∀ (pins : List (Addr × Obj)) (s : Shared) (σ : L2.St) (H : Hp) (Q : VK) (us : List Value) (vs : List V), Inv X pins σ H s → Vals vs us → us.length = es.length → tKA L W (fun xs _ => M.opt (bindS xs bs) >>= fun ys => c.fn f ys) vs σ H Q →
      wpAny (model X.prog X.w) X.A (call (.ref (L.fa f)) us) (EP X pins σ Q) X.xe s := by
    intro pins s σ H Q us vs I r hl q
    obtain ⟨φ, ρ, st, ys, R, E, V, P⟩ := q
    obtain ⟨zs, e, P⟩ := opt_post P
    obtain ⟨g, gV, KB, hV⟩ := hb
    have hlv : ys.length = es.length := by rw [← V.length, r.length, hl]
    have V2 := hV φ H ys [] vs [] zs V rfl hlv rfl (by rw [List.append_nil]; exact e)
    refine run_fnW (ks := []) (ws := []) (gs := g us []) (xs := gV vs []) (W := W) (G.fn f) ((G.calm hc).2.mono (Nat.le_succ _)) rfl I (KB.rel r .nil) (fun _ => ?_) (spM_of R V2 ?_) fun u s' h => tk u s' h
    · exact KB.to s us [] (by rw [← G.hK]; exact I.kIn) hl rfl
    · cases e : c.fn f zs st with
      | ok a t => rw [e] at P; exact P
      | exc y t => rw [e] at P; exact P
      | stuck => rw [e] at P; exact P
  refine ⟨fun pins s σ H Q I h => ?_⟩
  have h' : tE L W (fun ρ => evEs c ρ es >>= fun xs => M.opt (bindS xs bs) >>= fun ys => c.fn f ys) σ H Q := by simp only [evE] at h; exact h
  refine wpAny_Call_Name_kw (ld_glob I (gl_of G hg) (G.gfn x f hx) ?_ (plainNm_1 hp))
  have t := tA_len (tA_bind (k := fun xs _ => M.opt (bindS xs bs) >>= fun ys => c.fn f ys) h')
  cases xs with
  | nil =>
    have hn : es = [] := List.eq_nil_of_length_eq_zero hlen.symm
    subst hn
    have q0 : tKA L W (fun xs _ => M.opt (bindS xs bs) >>= fun ys => c.fn f ys) [] σ H Q := by
      obtain ⟨φ, ρ, st, R, E, P⟩ := h'
      simp only [evEs] at P
      exact ⟨φ, ρ, st, [], R, E, rfl, P⟩
    exact PySem.W.callWith_K0 I.kIn (G.keep x f hx) (body pins s σ H Q [] [] I .nil rfl q0)
  | cons e xs =>
    rw [List.all_cons, Bool.and_eq_true] at hst
    refine PySem.W.callWith_K (h₀ := X.base) I.ok.mod.kin (G.keep x f hx) (thn (ha.run pos pins s σ H _ I t) fun us s1 ⟨vs, H1, I1, r, hl, q⟩ => ⟨I1.kIn, ?_⟩) (star_ok hst.1) (noStars hst.2)
    exact body pins s1 σ H1 Q us vs I1 r (by rw [← r.length]; exact hl) q
/-- the tree of a method's call -/
theorem meth_eval {o : Expr} {m : Str} {apos : Pos} {xs : List Expr} {env : PySem.Env} (hb : noCall o = true) (hst : xs.all noStar = true) (hlen : xs.length < 30) (hl : (apos.endLine == pos.line) = true) :
    eval (.Call (.Attribute o m apos) xs [] pos) env = (do
      let ov ← eval o env
      standAt apos.atName
      let (f, first) ← holding [ov] (getMethod ov m (do return (← importBound o env).getD true))
      callWith pos f first (backTo pos (starEach xs env)) (backToKw pos (keywordEach [] env))) := by
  have hf : methodCallForm (xs.length + ([] : List Keyword).length) (backTo pos (starEach xs env)) (backToKw pos (keywordEach [] env)) = true := by
    unfold methodCallForm
    have h1 : (backTo pos (starEach xs env)).all (!·.1) = true := by
      have := noStars (env := env) (pos := pos) hst
      rw [List.any_eq_false] at this
      rw [List.all_eq_true]
      intro p hp
      have := this p hp
      simpa using this
    rw [h1]
    show (true && true && decide (xs.length + 0 + 0 < 30)) = true
    simpa using hlen
  rw [arm_eval_Call, base_ok hb]
  unfold methodCall methodCallPos calleeOf
  rw [hf]
  simp only [hl, Bool.not_true, Bool.false_or, if_true]
  rfl
theorem meth_ok (G : Good c k L S X) (hc : S.cold = true) (tk : Takes X W) {apos : Pos} {m : Nat} {es : List Ex} {xs : List Expr} {bs : List Src} (h1 : PE X e1 (tE L W fun ρ => evE c ρ a)) (hn : noCall e1 = true) (ha : PA X xs (tA L W fun ρ => evEs c ρ es))
    (hst : xs.all noStar = true) (hlen : xs.length = es.length) (h30 : xs.length < 30) (hl : (apos.endLine == pos.line) = true) (hb : ∀ f i, lookM c.meths i m = some f → BindOkM L f es.length [] bs) :
    PE X (.Call (.Attribute e1 (L.nm m) apos) xs [] pos) (tE L W fun ρ => evE c ρ (.meth m a es bs)) := by
  refine ⟨fun pins s σ H Q I h => ?_⟩
  obtain ⟨φ, ρ, st, R, E, P⟩ := h
  have P' : PostE L W σ φ H ((evE c ρ a >>= fun x => methM c x m >>= fun f => evEs c ρ es >>= fun vs => M.opt (bindS vs bs) >>= fun ws => c.fn f (x :: ws)) st) Q := by simp only [evE] at P; exact P
  refine PySem.W.methodCall_KW (thn (h1.run pins s σ H _ I ⟨φ, ρ, st, R, E, P'.bind⟩) fun u s1 ⟨x, H1, I1, rx, φ1, t, px, S1, R1, V1, P1⟩ => ?_) (meth_eval hn hst h30 hl)
  -- the method
  cases px with
  | ref r =>
    obtain ⟨a', rfl, ha'⟩ := (show ∃ a : Addr, x = .ref a ∧ φ1[r]? = some a from V1)
    cases rx
    have P2 : PostE L W σ φ1 H1 ((methM c (.ref r) m >>= fun f => evEs c ρ es >>= fun vs => M.opt (bindS vs bs) >>= fun ws => c.fn f (.ref r :: ws)) t) Q := P1
    cases eo : t.objs[r]? with
    | none =>
      have : methM c (.ref r) m t = .stuck := getOb_no eo
      rw [bind_stuck this] at P2; exact (show False from P2).elim
    | some ob =>
      cases ob with
      | inst cl fs =>
        have em : methM c (.ref r) m t = (M.guard (lookF fs m).isNone >>= fun _ => M.opt (lookM c.meths cl m)) t := getOb_bind eo
        obtain ⟨a2, dx, gs, i1, i2, i3, im⟩ := R1.ins eo
        rw [ha'] at i1; cases i1
        cases eg : (lookF fs m).isNone with
        | false =>
          rw [guard_no eg] at em
          rw [bind_stuck em] at P2; exact (show False from P2).elim
        | true =>
          rw [guard_ok eg] at em
          have hno : gs.lookup (L.nm m) = none := (FR.look i3).2 (by simpa using eg)
          cases ef : lookM c.meths cl m with
          | none =>
            rw [ef] at em
            rw [bind_stuck em] at P2; exact (show False from P2).elim
          | some f =>
            rw [ef] at em
            rw [bind_ok em] at P2
            have MM := G.meth cl m f ef
            obtain ⟨g, gV, KB, hV⟩ := hb f cl ef
            refine getmeth_ok I1 i2 (G.cls cl im) MM hno ?_
            have E1 := E.mono S1
            have body : ∀ (s2 : Shared) (H2 : Hp) (us : List Value) (vs : List V), Inv X pins σ H2 s2 → Vals vs us → vs.length = es.length →
                (∃ φ2 t2 ys, Step φ1 H1 φ2 H2 ∧ Rl L φ2 t2 H2 ∧ VRs L φ2 H2 ys vs ∧ PostE L W σ φ2 H2 ((M.opt (bindS ys bs) >>= fun ws => c.fn f (.ref r :: ws)) t2) Q) →
                wpAny (model X.prog X.w) X.A (call (.ref (L.fa f)) (.ref a' :: us)) (EP X pins σ Q) X.xe s2 := by
              intro s2 H2 us vs I2 rr hl2 ⟨φ2, t2, ys, S2, R2, V2, P3⟩
              obtain ⟨zs, ez, P4⟩ := opt_post P3
              have hly : ys.length = es.length := by rw [← V2.length, hl2]
              have vx : VR L φ2 H2 (.ref r) (.ref a') := ⟨a', rfl, S2.pre r a' ha'⟩
              have V3 := hV φ2 H2 (.ref r) (.ref a') ys [] vs [] zs vx V2 rfl hly rfl (by rw [List.append_nil]; exact ez)
              have rv : L2.RelV (L2.V.ref a') (Value.ref a') := rfl
              refine run_fnW (ks := []) (ws := []) (gs := g (.ref a' :: us) []) (xs := gV (.ref a' :: vs) []) (W := W) (G.fn f) ((G.calm hc).2.mono (Nat.le_succ _)) rfl I2 (KB.rel (.cons rv rr) .nil) (fun _ => ?_) (spM_of (xs := .ref r :: zs) R2 V3 ?_) fun u s' h => tk u s' h
              · exact KB.to s2 (.ref a' :: us) [] (by rw [← G.hK]; exact I2.kIn) (by rw [List.length_cons, ← rr.length, hl2]) rfl
              · cases e : c.fn f (.ref r :: zs) t2 with
                | ok a t => rw [e] at P4; exact P4
                | exc y t => rw [e] at P4; exact P4
                | stuck => rw [e] at P4; exact P4
            have PA' : PostA L W σ φ1 H1 (evEs c ρ es t) fun vs H2 => ∃ φ2 t2 ys, Step φ1 H1 φ2 H2 ∧ Rl L φ2 t2 H2 ∧ VRs L φ2 H2 ys vs ∧ PostE L W σ φ2 H2 ((M.opt (bindS ys bs) >>= fun ws => c.fn f (.ref r :: ws)) t2) Q := by
              cases e : evEs c ρ es t with
              | stuck => rw [bind_stuck e] at P2; exact P2
              | exc y t2 => rw [bind_exc e] at P2; exact P2
              | ok ys t2 =>
                rw [bind_ok e] at P2
                exact fun φ2 H2 vs S2 R2 V2 => ⟨φ2, t2, ys, S2, R2, V2, PostE.step P2 S2⟩
            cases xs with
            | nil =>
              have hn : es = [] := List.eq_nil_of_length_eq_zero hlen.symm
              subst hn
              simp only [evEs] at PA'
              exact PySem.W.callWith_K0 (first := [.ref a']) I1.kIn MM.kp (body s1 H1 [] [] I1 .nil rfl (PA' φ1 H1 [] Step.refl R1 rfl))
            | cons e xs =>
              rw [List.all_cons, Bool.and_eq_true] at hst
              have t0 := tA_len (W := W) (σ := σ) (H := H1) (c := c) (es := es) ⟨φ1, ρ, t, R1, E1, PA'⟩
              refine PySem.W.callWith_K (first := [.ref a']) (h₀ := X.base) I1.ok.mod.kin MM.kp (thn (ha.run pos pins s1 σ H1 _ I1 t0) fun us s2 ⟨vs, H2, I2, r, hl, q⟩ => ⟨I2.kIn, ?_⟩) (star_ok hst.1) (noStars hst.2)
              exact body s2 H2 us vs I2 r hl q
      | _ =>
        have : methM c (.ref r) m t = .stuck := by
          show (getOb r >>= _) t = _
          rw [getOb_bind eo]; rfl
        rw [bind_stuck this] at P2; exact (show False from P2).elim
  | _ => exact (show False from P1).elim
/-- a class called: a new instance, then its __init__ -/
theorem new_ok (G : Good c k L S X) (hc : S.cold = true) (tk : Takes X W) (hpf : ∀ f vs, Pres (c.fn f vs)) {x : Str} {p : Pos} {i f : Nat} {es : List Ex} {xs : List Expr} {bs : List Src} (hx : S.gl x = some (.cls i)) (hg : glB S.sc x = true) (hp : plainNm x = true)
    (hf : c.inits.lookup i = some f) (ha : PA X xs (tA L W fun ρ => evEs c ρ es)) (hst : xs.all noStar = true) (hlen : xs.length = es.length) (hb : BindOkM L f es.length [] bs) : PE X (.Call (.Name x p) xs [] pos) (tE L W fun ρ => evE c ρ (.new i es bs)) := by
  obtain ⟨im, Mk'⟩ := G.mks i f hf
  have hr := (G.calm hc).2
  obtain ⟨g, gV, KB, hV⟩ := hb
  have body : ∀ (pins : List (Addr × Obj)) (s : Shared) (σ : L2.St) (H : Hp) (Q : VK) (us : List Value) (vs : List V), Inv X pins σ H s → Vals vs us → vs.length = es.length →
      tKA L W (fun xs _ => M.opt (bindS xs bs) >>= fun ws => frame (alloc (.inst i []) >>= fun r => c.fn f (r :: ws) >>= fun z => match z with | .non => pure r | _ => M.stop)) vs σ H Q →
      wpAny (model X.prog X.w) X.A (call (.ref (L.cl i)) us) (EP X pins σ Q) X.xe s := by
    intro pins s σ H Q us vs I r hl q
    obtain ⟨φ, ρ, st, ys, R, E, V, P⟩ := q
    dsimp only at P
    obtain ⟨zs, e, P⟩ := opt_post P
    have hlv : ys.length = es.length := by rw [← V.length, hl]
    have P := frame_post (Pres.bind Pres.alloc fun r => Pres.bind (hpf _ _) fun z => by cases z <;> first | exact Pres.pure | exact Pres.stop) R P
    -- the instance
    have hx0 : H (s.heap.objs.size + 1) = none := I.hok.fresh (Nat.le_succ _)
    have hd0 : H s.heap.objs.size = none := I.hok.fresh (Nat.le_refl _)
    have hne : s.heap.objs.size ≠ s.heap.objs.size + 1 := Nat.ne_of_lt (Nat.lt_succ_self _)
    have I2 := Inv.made (C := L.cl i) I
    generalize hxx : s.heap.objs.size + 1 = xx at *
    generalize hdd : s.heap.objs.size = dd at *
    have S1 : Step φ H φ (upd H dd (.own xx)) := Step.side hd0
    have R1 : Rl L φ { st with low := st.objs.length } (upd H dd (.own xx)) := (R.side hd0).setLow
    have hx1 : (upd H dd (.own xx)) xx = none := by rw [upd_ne (Ne.symm hne)]; exact hx0
    have S2 : Step φ (upd H dd (.own xx)) (φ ++ [xx]) (upd (upd H dd (.own xx)) xx (.ins (L.cl i) dd [])) := Step.new hx1
    have R2 := R1.alloc (ob := .inst i []) (u := .ins (L.cl i) dd []) hx1 ⟨dd, [], upd_same, rfl, im⟩
    have vx : VR L (φ ++ [xx]) (upd (upd H dd (.own xx)) xx (.ins (L.cl i) dd [])) (.ref st.objs.length) (.ref xx) := ⟨xx, rfl, by rw [← R.len]; simp⟩
    have V2 := V.mono (S1.trans S2)
    have V3 := hV _ _ _ _ ys [] vs [] zs vx V2 rfl hlv rfl (by rw [List.append_nil]; exact e)
    have rv : L2.RelV (L2.V.ref xx) (Value.ref xx) := rfl
    have rr : Vals (gV (.ref xx :: vs) []) (g (.ref xx :: us) []) := KB.rel (.cons rv r) .nil
    have P3 : PostE L W σ φ H ((c.fn f (.ref st.objs.length :: zs) >>= fun z => match z with | .non => pure (.ref st.objs.length) | _ => M.stop) { st with low := st.objs.length, objs := st.objs ++ [.inst i []] }) Q := P
    have P4 := (PostE.step P3 (S1.trans S2)).bind
    have hsp : spM L (c.fn f) (gV (.ref xx :: vs) []) (upd (upd H dd (.own xx)) xx (.ins (L.cl i) dd [])) (fun v H2 => v = .non ∧ Q (.ref xx) H2) (fun cl d H' => W cl d σ H') := by
      refine spM_of (st := { st with low := st.objs.length, objs := st.objs ++ [.inst i []] }) (xs := .ref st.objs.length :: zs) R2 V3 ?_
      cases e5 : c.fn f (.ref st.objs.length :: zs) { st with low := st.objs.length, objs := st.objs ++ [.inst i []] } with
      | stuck => rw [e5] at P4; exact P4
      | exc y t => rw [e5] at P4; exact P4
      | ok z t =>
        rw [e5] at P4
        intro φ3 H3 v3 S3 R3 W3
        obtain ⟨φ4, t4, z4, S4, R4, W4, P5⟩ := P4 φ3 H3 v3 S3 R3 W3
        cases z4 with
        | non =>
          obtain rfl : v3 = .non := W4
          refine ⟨rfl, PostE.ret (x := .ref st.objs.length) P5 R4 ⟨xx, rfl, S4.pre _ _ ?_⟩⟩
          rw [← R.len]; simp
        | _ => exact (show False from P5).elim
    have hl3 := (G.fn f).len _ _ _ _ hsp
    have hkin : X.K.In ({ s with heap := (s.heap.push PySem.W.emptyDict).push (PySem.W.instObj (L.cl i) dd) } : Shared).heap := I2.kIn
    refine wpAny_call (make_map (f := L.fa f) I.kIn Mk'.makes Mk'.init (beq_iff_eq.mp Mk'.fn) ?_)
    rw [hdd, hxx]
    refine codeAny_mono ((G.fn f).run _ X.stack _ _ ⟨Value.ref xx :: us, []⟩ (g (.ref xx :: us) []) _ _ (fun cl d H' => W cl d σ H') (hr.make (L.cl i) us []) (I2.env0.make (L.cl i) us []) (KB.to _ (.ref xx :: us) [] (by rw [← G.hK]; exact hkin) (by rw [List.length_cons, ← r.length, hl]) rfl) rr hsp) fun r s' hq => ?_
    cases r with
    | error e => exact tk e s' (XE.of_call I2 (fun _ _ _ h => h) hq)
    | ok fl =>
      cases fl with
      | ret u =>
        obtain ⟨v, H', I3, rv, ev, q3⟩ := I2.after hq
        subst ev
        exact ⟨rv, ⟨L2.V.ref xx, H', I3, rfl, q3⟩⟩
      | next => exact False.elim hq
      | brk => exact False.elim hq
      | cont => exact False.elim hq
  refine ⟨fun pins s σ H Q I h => ?_⟩
  have h' : tE L W (fun ρ => evEs c ρ es >>= fun xs => M.opt (bindS xs bs) >>= fun ws => frame (alloc (.inst i []) >>= fun r => c.fn f (r :: ws) >>= fun z => match z with | .non => pure r | _ => M.stop)) σ H Q := by simp only [evE, hf] at h; exact h
  refine wpAny_Call_Name_kw (ld_glob I (gl_of G hg) (G.gcl x i hx) ?_ (plainNm_1 hp))
  have t := tA_len (tA_bind (k := fun xs _ => M.opt (bindS xs bs) >>= fun ws => frame (alloc (.inst i []) >>= fun r => c.fn f (r :: ws) >>= fun z => match z with | .non => pure r | _ => M.stop)) h')
  cases xs with
  | nil =>
    have hn : es = [] := List.eq_nil_of_length_eq_zero hlen.symm
    subst hn
    have q0 : tKA L W (fun xs _ => M.opt (bindS xs bs) >>= fun ws => frame (alloc (.inst i []) >>= fun r => c.fn f (r :: ws) >>= fun z => match z with | .non => pure r | _ => M.stop)) [] σ H Q := by
      obtain ⟨φ, ρ, st, R, E, P⟩ := h'
      simp only [evEs] at P
      exact ⟨φ, ρ, st, [], R, E, rfl, P⟩
    exact PySem.W.callWith_K0 I.kIn Mk'.kp (body pins s σ H Q [] [] I .nil rfl q0)
  | cons e xs =>
    rw [List.all_cons, Bool.and_eq_true] at hst
    refine PySem.W.callWith_K (h₀ := X.base) I.ok.mod.kin Mk'.kp (thn (ha.run pos pins s σ H _ I t) fun us s1 ⟨vs, H1, I1, r, hl, q⟩ => ⟨I1.kIn, ?_⟩) (star_ok hst.1) (noStars hst.2)
    exact body pins s1 σ H1 Q us vs I1 r hl q
end
end TL
end

section
set_option maxRecDepth 100000
set_option maxHeartbeats 1000000
set_option autoImplicit false
/-! TL: o[::-1]. -/
namespace TL
open PySem PySem.Spec PyProof.Rows L2
section
variable {prog : Program} {w : World} {A : Around} {E : Value → Shared → Prop} {s : Shared}
theorem applied_back {sl : Addr} {tk : Tok} {n : Nat} {Q : Int × Int × Nat → Shared → Prop} (hs : s.heap.IsSliceOf sl .none .none (.int (-1) tk)) (h : Q ((n : Int) - 1, -1, n) s) :
    wpAny (model prog w) A (Builtin.Slice.sliceApplied (.ref sl) (pure (n : Int))) Q E s := by
  obtain ⟨os, e1, e2, e3⟩ := id hs
  unfold Builtin.Slice.sliceApplied Builtin.Slice.sliceFields
  refine wpAny_bind (wpAny_bind (wpAny_field e1 e3 (x := Value.none) rfl (wpAny_bind (wpAny_field e1 e3 (x := Value.none) rfl (wpAny_bind (wpAny_field e1 e3 (x := Value.int (-1) tk) rfl (wpAny_pure ?_)))))))
  refine wpAny_bind (HT.slicePart_ (.int (-1) tk) ?_)
  show wpAny _ _ (if ((-1 : Int) == 0) = true then _ else _) _ _ s
  rw [if_neg (by decide)]
  refine wpAny_bind (HT.slicePart_ .none (wpAny_bind (HT.slicePart_ .none (wpAny_bind (wpAny_pure ?_)))))
  have e : Builtin.Slice.slicePlaces ((n : Int) - 1) (-1) (-1) = n := by
    unfold Builtin.Slice.slicePlaces
    rw [if_neg (by decide)]
    split
    · rw [show (-(-1) : Int) = 1 from rfl, Int.ediv_one]; omega
    · omega
  show wpAny _ _ (pure ((n : Int) - 1, (-1 : Int), Builtin.Slice.slicePlaces ((n : Int) - 1) (-1) (-1))) _ _ s
  rw [e]
  exact wpAny_pure h
theorem filterMap_some {α β : Type} {f : α → Option β} {g : α → β} : ∀ {l : List α}, (∀ m ∈ l, f m = some (g m)) → l.filterMap f = l.map g
  | [], _ => rfl
  | m :: l, h => by
    rw [List.filterMap_cons, h m (List.mem_cons_self ..), List.map_cons, filterMap_some fun x hx => h x (List.mem_cons_of_mem _ hx)]
theorem pick_back (xs : Array Value) : ((List.range xs.size).filterMap fun (m : Nat) => xs[((xs.size : Int) - 1 + (m : Int) * -1).toNat]?) = xs.toList.reverse := by
  rw [filterMap_some (g := fun m => (xs.toList.reverse[m]?).getD Value.none) fun m hm => ?_]
  · apply List.ext_getElem?
    intro i
    rw [List.getElem?_map]
    by_cases hi : i < xs.size
    · rw [List.getElem?_range hi]
      have : i < xs.toList.reverse.length := by simpa using hi
      rw [Option.map_some, List.getElem?_eq_getElem this]
      rfl
    · rw [List.getElem?_eq_none (by simpa using hi), List.getElem?_eq_none (by simpa using hi)]
      rfl
  · have hm' : m < xs.size := List.mem_range.mp hm
    have e : ((xs.size : Int) - 1 + (m : Int) * -1).toNat = xs.size - 1 - m := by omega
    have e2 : xs.toList.reverse[m]? = xs[xs.size - 1 - m]? := by
      rw [List.getElem?_reverse (by simpa using hm')]
      simp
    rw [e, e2, Array.getElem?_eq_getElem (by omega)]
    rfl
theorem getItem_tuple_back {t sl : Addr} {items : Array Value} {tk : Tok} {Q : Value → Shared → Prop} (ht : IsTup s.heap t items) (hs : s.heap.IsSliceOf sl .none .none (.int (-1) tk)) (hz : items.size ≤ sizeLine)
    (h : Q (.ref s.heap.objs.size) { s with heap := s.heap.push { cls := .type "tuple", data := .seq items.toList.reverse.toArray } }) : wpAny (model prog w) A (PySem.getItem (.ref t) (.ref sl)) Q E s := by
  have fit : sizeOk (.seq items.toList.reverse.toArray) := by
    show items.toList.reverse.toArray.size ≤ sizeLine
    rw [List.size_toArray, List.length_reverse, Array.length_toList]
    exact hz
  obtain ⟨os, e1, e2, e3⟩ := id hs
  have hTs : s.TypeIs (.ref sl) "slice" := ⟨os, e1, e2⟩
  unfold PySem.getItem
  try with_reducible refine wpAny_holding ?_
  first | refine wpAny_bind (wpAny_pure ?_) | skip
  refine wpAny_bind (wpAny_sequenceKey ht.typeIs (by decide) ?_)
  refine wpAny_bind (wpAny_callSpecial?_slot (name := Str.ofString "__getitem__") ht.typeIs PyProof.Rows.slot_tuple_getitem (wpAny_call_entry PyProof.Rows.slot_tuple_getitem ht.typeIs entry_tuple_getitem ?_ (args_tuple_getitem _ _)))
  show wpAny _ _ (Builtin.Tuple.tupleItemsOf (.ref t) >>= _) _ _ s
  refine wpAny_bind (PyProof.Rows.tupleItemsOf_ ht ?_)
  refine wpAny_bind (wpAny_typeOf hTs ?_)
  rw [if_pos (by decide)]
  refine wpAny_bind (applied_back (n := items.size) hs ?_)
  show wpAny _ _ (if (((items.size : Int) - 1) == 0 && (-1 : Int) == 1 && items.size == items.size) = true then _ else _) _ _ s
  rw [if_neg (by simp), pick_back]
  first
    | exact wpAny_bind (m := Builtin.Tuple.tupleExact _) (wpAny_newObj_type (wpAny_pure ⟨_, rfl, wpAny_pure h⟩) fit)
    | exact wpAny_bind (m := Builtin.Tuple.tupleExact _) (wpAny_newObj_type (wpAny_bind (wpAny_pure (wpAny_pure ⟨_, rfl, wpAny_pure h⟩))) fit)
    | exact wpAny_bind (wpAny_bind (m := Builtin.Tuple.tupleExact _) (wpAny_newObj_type (wpAny_pure (wpAny_pure ⟨_, rfl, wpAny_pure h⟩)) fit))
    | exact wpAny_bind (wpAny_bind (m := Builtin.Tuple.tupleExact _) (wpAny_newObj_type (wpAny_pure ⟨_, rfl, wpAny_pure h⟩) fit))
end
section
variable {c : Ctx} {k : Nat} {L : Lk} {S : Sk} {X : Cx} {W : WX} {pos : Pos} {a : Ex} {e1 : Expr}
theorem Vals.rev : ∀ {xs : List V} {us : List Value}, Vals xs us → Vals xs.reverse us.reverse
  | _, _, .nil => .nil
  | _, _, .cons r t => by rw [List.reverse_cons, List.reverse_cons]; exact (Vals.rev t).append (.cons r .nil)
theorem rev_ok (G : Good c k L S X) {j : Nat} {p1 p2 p3 : Pos} (h1 : PE X e1 (tE L W fun ρ => evE c ρ a)) : PE X (.Subscript e1 (.Slice none none (some (.UnaryOp .USub (.Constant (.int 1) j p1) p2)) p3) pos) (tE L W fun ρ => evE c ρ (.rev a)) := by
  refine ⟨fun pins s σ H Q I h => ?_⟩
  have h' : tE L W (fun ρ => evE c ρ a >>= fun x => revV x) σ H Q := by simp only [evE] at h; exact h
  refine Subscript_ (thn (h1.run pins s σ H _ I (tE_then (k := fun x _ => revV x) h' fun v H1 q => q)) fun v sA ⟨x, HA, IA, rA, φ, ρ, st, px, R, E, VV, P⟩ => ?_)
  have hst : PO X (some (.UnaryOp .USub (.Constant (.int 1) j p1) p2)) (tPart (tUn (rU fun i => .int (-i)) (tC (.int 1)))) := po_some (pe_un un_neg pe_int)
  refine wpAny_Slice (thn (po_none.run pins sA σ HA (fun o Hq => o = none ∧ Hq = HA) IA ⟨rfl, rfl⟩) fun vl sB ⟨l, HB, IB, pl, el, eB⟩ => ?_)
  subst el eB
  refine thn (po_none.run pins sB σ HB (fun o Hq => o = none ∧ Hq = HB) IB ⟨rfl, rfl⟩) fun vu sC ⟨u, HC, IC, pu, eu, eC⟩ => ?_
  subst eu eC
  refine thn (hst.run pins sC σ HC (fun o Hq => o = some (-1) ∧ Hq = HC) IC ⟨1, rfl, -1, rfl, rfl, rfl⟩) fun vs sD ⟨o, HD, ID, ps, eo, eD⟩ => ?_
  subst eo eD
  cases pl
  cases pu
  cases ps with
  | int _ tk =>
  have IS : Inv X pins σ HD { sD with heap := sD.heap.push { cls := .type "slice", data := .fields #[Value.none, Value.none, .int (-1) tk] } } := ID.kept (t' := sD.toks) fun b ob q => Heap.get?_push_of_some _ q
  cases px with
  | tup xs =>
    obtain ⟨b, ws, rfl, hb, hw⟩ := (show ∃ (a : Addr) (vs : List V), x = .ref a ∧ SqT L.K HD a vs ∧ VRs L φ HD xs vs from VV)
    cases rA
    obtain ⟨its, rv, ht, hz⟩ := IS.tuple (by rw [G.hK]; exact hb)
    show wpAny (model X.prog X.w) X.A (subscriptTail e1 (.Slice none none (some (.UnaryOp .USub (.Constant (.int 1) j p1) p2)) p3) (.ref b) (.ref sD.heap.objs.size)) (EP X pins σ Q) X.xe { sD with heap := sD.heap.push { cls := .type "slice", data := .fields #[Value.none, Value.none, .int (-1) tk] } }
    refine tail_any (ops := [.ref b, .ref sD.heap.objs.size]) ht.typeIs PyProof.Rows.slot_tuple_getitem.lookup ?_ (by with_unfolding_all rfl)
    refine getItem_tuple_back ht (Heap.IsSliceOf.new _ _ _ _) (by rw [List.size_toArray, ← rv.length]; exact hz) ?_
    have ht' : IsTup (({ sD with heap := sD.heap.push { cls := .type "slice", data := .fields #[Value.none, Value.none, .int (-1) tk] } } : Shared).heap.push { cls := .type "tuple", data := .seq its.reverse.toArray }) _ its.reverse.toArray := IsTup.new _ _
    refine ⟨.ref _, _, IS.laid (t' := sD.toks) (o := .tup ws.reverse) (fun b ob q => Heap.get?_push_of_some _ q) (Nat.le_refl _) ?_, rfl, PostE.tup (show PostE L W σ φ HD (.ok (.tup xs.reverse) st) Q from P) R hw.rev (IS.hok.fresh (Nat.le_refl _))⟩
    exact ⟨by rw [List.length_reverse]; exact hz, its.reverse, Vals.rev rv, ht'⟩
  | ref r =>
    obtain ⟨b, rfl, ha⟩ := (show ∃ a : Addr, x = .ref a ∧ φ[r]? = some a from VV)
    cases rA
    cases eo : st.objs[r]? with
    | none =>
      have : revV (.ref r) st = .stuck := getOb_no eo
      exact (show False from by have P' : PostE L W σ φ HD (revV (.ref r) st) Q := P; rw [this] at P'; exact P').elim
    | some ob =>
      cases ob with
      | list xs =>
        have em : revV (.ref r) st = alloc (.list xs.reverse) st := getOb_bind eo
        have P' : PostE L W σ φ HD (alloc (.list xs.reverse) st) Q := (by have P' : PostE L W σ φ HD (revV (.ref r) st) Q := P; rw [em] at P'; exact P')
        obtain ⟨a2, ws, i1, i2, i3, i4, i5⟩ := R.lst eo
        rw [ha] at i1; cases i1
        obtain ⟨its, rv, ht, hz⟩ := IS.list (by rw [G.hK]; exact i3)
        show wpAny (model X.prog X.w) X.A (subscriptTail e1 (.Slice none none (some (.UnaryOp .USub (.Constant (.int 1) j p1) p2)) p3) (.ref b) (.ref sD.heap.objs.size)) (EP X pins σ Q) X.xe { sD with heap := sD.heap.push { cls := .type "slice", data := .fields #[Value.none, Value.none, .int (-1) tk] } }
        refine tail_any (ops := [.ref b, .ref sD.heap.objs.size]) ht.isList.typeIs PySem.slot_list_getitem.lookup ?_ (by with_unfolding_all rfl)
        refine wpAny_getItem_list_slice ht.isList (Heap.IsSliceOf.new _ _ _ _) .none .none (.int (-1) tk) (by decide) ?_ (by rw [List.size_toArray, ← rv.length]; exact hz)
        rw [PySem.W.krv_pick]
        refine ⟨.ref _, _, IS.laid (t' := sD.toks) (o := .lst ws.reverse) (fun b ob q => Heap.get?_push_of_some _ q) (Nat.le_refl _) ?_, rfl, PostE.list P' R i2.rev (IS.hok.fresh (Nat.le_refl _))⟩
        exact ⟨by rw [List.length_reverse]; exact hz, _, 0, Vals.rev rv, Heap.get?_push_size _ rfl⟩
      | _ =>
        have : revV (.ref r) st = .stuck := by show (getOb r >>= _) st = _; rw [getOb_bind eo]; rfl
        exact (show False from by have P' : PostE L W σ φ HD (revV (.ref r) st) Q := P; rw [this] at P'; exact P').elim
  | _ => exact (show False from P).elim
end
end TL
end

section
set_option maxRecDepth 100000
set_option maxHeartbeats 1000000
set_option autoImplicit false
/-! TL: what is walked. -/
namespace TL
open PySem PySem.Spec PyProof.Rows L2
section
variable {c : Ctx} {k : Nat} {L : Lk} {S : Sk} {X : Cx} {W : WX} {pos : Pos} {a b d : Ex} {e1 e2 e3 : Expr} {tg : Expr}
/-- J walks w from here on -/
def WJ (L : Lk) (φ0 : List Addr) (t0 : Sto) (H0 : Hp) (w : Walk) (J : It) : Prop :=
  ∃ Y, (∀ p ∈ L.dy, p ∈ Y) ∧ (∀ lk, (∀ i ∈ t0.lk, i ∈ lk) → (∀ i ∈ w.held, i ∈ lk) → Rl (L.hold Y) φ0 { t0 with lk := lk } H0) ∧
    ∀ φ st H i, StepK φ0 H0 φ H → Rl (L.hold Y) φ st H → (∀ r ∈ w.held, r < t0.objs.length → st.objs[r]? = t0.objs[r]?) →
      (∀ x, w.items[i]? = some x → J.go i H ∧ ∀ v H', J.yld i H v H' → Step φ H φ H' ∧ Rl (L.hold Y) φ st H' ∧ VR L φ H' x v) ∧ (w.items.length ≤ i → J.stop i H)
def PostW (L : Lk) (W : WX) (σ : L2.St) (φ : List Addr) (H : Hp) (r : Res Walk) (R : It → Hp → Prop) : Prop := match r with
  | .ok w t => ∀ φ' H' J, Step φ H φ' H' → Rl L φ' t H' → WJ L φ' t H' w J → R J H'
  | .exc x t => ∀ φ' H' c d, Step φ H φ' H' → Rl L φ' t H' → XR L φ' H' x c d → W c d σ H'
  | .stuck => False
def tI (L : Lk) (W : WX) (m : Env → M Walk) : TI := fun σ H R => ∃ φ ρ st, Rl L φ st H ∧ ER L φ H ρ σ ∧ PostW L W σ φ H (m ρ st) R
theorem piI {iter : Expr} {t t' : TI} (h : PI X tg iter t) (i : ∀ σ H Q, t' σ H Q → t σ H Q) : PI X tg iter t' := ⟨fun pins s σ H Q I q => h.run pins s σ H Q I (i σ H Q q)⟩
theorem PostW.step {r : Res Walk} {σ : L2.St} {φ φ' : List Addr} {H H' : Hp} {R : It → Hp → Prop} (P : PostW L W σ φ H r R) (s : Step φ H φ' H') : PostW L W σ φ' H' r R := by
  cases r with
  | ok x t => exact fun φ2 H2 v s2 => P φ2 H2 v (s.trans s2)
  | exc x t => exact fun φ2 H2 c d s2 => P φ2 H2 c d (s.trans s2)
  | stuck => exact P
theorem PostW.bind {m : M PV} {q : PV → M Walk} {st : Sto} {σ : L2.St} {φ : List Addr} {H : Hp} {R : It → Hp → Prop} (P : PostW L W σ φ H ((m >>= q) st) R) :
    PostE L W σ φ H (m st) fun v H1 => ∃ φ1 t x, Step φ H φ1 H1 ∧ Rl L φ1 t H1 ∧ VR L φ1 H1 x v ∧ PostW L W σ φ1 H1 (q x t) R := by
  cases e : m st with
  | stuck => rw [bind_stuck e] at P; exact P
  | exc x t => rw [bind_exc e] at P; exact P
  | ok x t =>
    rw [bind_ok e] at P
    exact fun φ1 H1 v S1 R1 V1 => ⟨φ1, t, x, S1, R1, V1, P.step S1⟩

/-! ### a dict by its very object -/
/-- the keys of the object o at a, as ks -/
def Itx (a : Addr) (o : Obj) (ks : List V) : It := ⟨fun i H => H a = some (dO a o) ∧ i < ks.length, fun i H x H' => H' = H ∧ ks[i]? = some x, fun i H => H a = some (dO a o) ∧ ks.length ≤ i⟩
theorem dO_get {pins : List (Addr × Obj)} {s : Shared} {σ : L2.St} {H : Hp} {a : Addr} {o : Obj} (I : Inv X pins σ H s) (h : H a = some (dO a o)) : s.heap.get? a = some o := (I.hok a _ h).1
theorem turn_x {P : Program} {w : World} {K : PySem.W.Frag} {a it : Addr} {o : Obj} {es : Array DictEntry} {ep : Nat} {ks : List V} (hd : o.data = .dict es ep) (hl : es.size = ks.length)
    (hk : ∀ (i : Nat) (x : V), ks[i]? = some x → ∃ en : DictEntry, es[i]? = some en ∧ L2.RelV x en.key) : Turn P w K tg (Itx a o ks) [it] it (fun i h => h.IsKeyIter it a i ks.length ep) where
  mem := by simp
  obj := fun i h st b hb => by
    obtain rfl : b = it := by simpa using hb
    obtain ⟨oi, e, _, dd⟩ := st
    exact ⟨oi, e, fun v z => by rw [dd] at z; cases z⟩
  keep := fun i h h' st kk => st.at fun oi e => kk it (by simp) oi e
  item := by
    intro X hP hw hK hc i pins s σ H E I hf st hg
    subst hP hw hK
    obtain ⟨ha, hi⟩ := hg
    obtain ⟨f0, f1, f2, f3, f4, f5⟩ := hf it (by simp)
    obtain ⟨x, hx⟩ : ∃ x, ks[i]? = some x := ⟨ks[i], List.getElem?_eq_getElem hi⟩
    obtain ⟨en, hen, rx⟩ := hk i x hx
    refine next_key_item st (dO_get I ha) hd hl hen fun h' st' sb => ?_
    have I1 : Inv X pins σ H { s with heap := h' } := I.turned (t' := s.toks) (fun b ob hb e => (sb.2 b hb).trans e) f0 f1 f3 f4 f5
    obtain ⟨oi, e, hcl, dd⟩ := id st'
    exact ⟨en.key, rfl, go_of (s := { s with heap := h' }) e hcl dd (by decide) ⟨x, H, I1, rx, ⟨rfl, hx⟩, st', fun b hb => (hf b hb).1⟩⟩
  done := by
    intro X hP hw hK hc i pins s σ H E I hf st hg
    subst hP hw hK
    obtain ⟨ha, hi⟩ := hg
    obtain ⟨f0, f1, f2, f3, f4, f5⟩ := hf it (by simp)
    exact next_key_end (I.ok.hd hc) st (dO_get I ha) hd hl hi fun h' eb => ⟨rfl, I.turned (t' := s.toks) (fun b ob hb e => eb b ob hb e) f0 f1 f3 f4 f5⟩
  self := fun A i s Q E st h => by
    obtain ⟨oi, e, hcl, dd⟩ := st
    exact wpAny_pyIter_keyiter ⟨oi, e, hcl, dd⟩ h
theorem WJ.plain {φ0 : List Addr} {t0 : Sto} {H0 : Hp} {w : Walk} {J : It} (R : Rl L φ0 t0 H0) (h : ∀ φ st H i, StepK φ0 H0 φ H → Rl L φ st H → (∀ r ∈ w.held, r < t0.objs.length → st.objs[r]? = t0.objs[r]?) →
      (∀ x, w.items[i]? = some x → J.go i H ∧ ∀ v H', J.yld i H v H' → Step φ H φ H' ∧ Rl L φ st H' ∧ VR L φ H' x v) ∧ (w.items.length ≤ i → J.stop i H)) : WJ L φ0 t0 H0 w J :=
  ⟨L.dy, fun _ h => h, fun lk h1 _ => R.sto rfl h1, h⟩
theorem VRs.get2 {φ : List Addr} {H : Hp} {xs : List PV} {vs : List V} (h : VRs L φ H xs vs) {i : Nat} (hi : xs.length ≤ i) : vs.length ≤ i := by rw [h.length]; exact hi
theorem wj_tup {φ0 : List Addr} {t0 : Sto} {H0 : Hp} {a : Addr} {xs : List PV} {vs : List V} (R : Rl L φ0 t0 H0) (hs : SqT L.K H0 a vs) (hv : VRs L φ0 H0 xs vs) (hin : ∀ H ys, SqT L.K H a ys → ys = ys) : WJ L φ0 t0 H0 ⟨xs, []⟩ (Itt L.K a) := by
  refine WJ.plain R fun φ st H i S R' _ => ⟨fun x hx => ?_, fun hi => ⟨vs, S.kp.sqT hs, hv.get2 hi⟩⟩
  obtain ⟨v, h1, h2⟩ := (VRs.mono0 S.pre S.kp _ _ hv).get hx
  refine ⟨⟨vs, v, S.kp.sqT hs, h1⟩, fun u H' ⟨e, hu⟩ => ?_⟩
  subst e
  have := hu vs (S.kp.sqT hs)
  rw [h1] at this; cases this
  exact ⟨Step.refl, R', h2⟩
theorem wj_str {φ0 : List Addr} {t0 : Sto} {H0 : Hp} {z : List Nat} (R : Rl L φ0 t0 H0) : WJ L φ0 t0 H0 ⟨z.map fun c => .str [c], []⟩ (Its ⟨z.toArray⟩) := by
  refine WJ.plain R fun φ st H i S R' _ => ⟨fun x hx => ?_, fun hi => ?_⟩
  · rw [List.getElem?_map] at hx
    obtain ⟨ch, hc, rfl⟩ := Option.map_eq_some_iff.mp hx
    have hlt := (List.getElem?_eq_some_iff.mp hc).1
    refine ⟨by show i < z.toArray.size; simpa using hlt, fun u H' ⟨e, ch', h1, h2⟩ => ?_⟩
    subst e
    have : ch' = ch := by
      have h1' : z[i]? = some ch' := by simpa using h1
      rw [hc] at h1'; exact (Option.some.inj h1').symm
    subst this
    exact ⟨Step.refl, R', h2⟩
  · show z.toArray.size ≤ i
    have : (z.map fun c => PV.str [c]).length ≤ i := hi
    simpa using this
theorem wj_rng {φ0 : List Addr} {t0 : Sto} {H0 : Hp} {lo : Int} {n : Nat} (R : Rl L φ0 t0 H0) : WJ L φ0 t0 H0 ⟨intsFrom lo 1 n, []⟩ (L2.Itr lo n) := by
  have get : ∀ (n : Nat) (lo : Int) (i : Nat) (x : PV), (intsFrom lo 1 n)[i]? = some x → i < n ∧ x = .int (lo + i) := by
    intro n
    induction n with
    | zero => intro lo i x e; simp [intsFrom] at e
    | succ n ih =>
      intro lo i x e
      cases i with
      | zero => simp [intsFrom] at e; exact ⟨Nat.succ_pos _, by rw [← e]; simp⟩
      | succ i =>
        simp only [intsFrom, List.getElem?_cons_succ] at e
        obtain ⟨h1, h2⟩ := ih (lo + 1) i x e
        exact ⟨Nat.succ_lt_succ h1, by rw [h2]; congr 1; push_cast; omega⟩
  have len : ∀ (n : Nat) (lo : Int), (intsFrom lo 1 n).length = n := by
    intro n
    induction n with
    | zero => intro lo; rfl
    | succ n ih => intro lo; simp only [intsFrom, List.length_cons, ih]
  refine WJ.plain R fun φ st H i S R' _ => ⟨fun x hx => ?_, fun hi => ?_⟩
  · obtain ⟨h1, h2⟩ := get n lo i x hx
    refine ⟨h1, fun u H' ⟨e, e2⟩ => ?_⟩
    subst e e2
    exact ⟨Step.refl, R', by rw [h2]; rfl⟩
  · have : (intsFrom lo 1 n).length ≤ i := hi
    rw [len] at this
    exact this
theorem wj_list {φ0 : List Addr} {t0 : Sto} {H0 : Hp} {r : Nat} {a : Addr} {xs : List PV} (R : Rl L φ0 t0 H0) (ea : φ0[r]? = some a) (eo : t0.objs[r]? = some (.list xs)) : WJ L φ0 t0 H0 ⟨xs, [r]⟩ (Itl L.K a) := by
  refine WJ.plain R fun φ st H i S R' hh => ?_
  have eo' : st.objs[r]? = some (.list xs) := by rw [hh r (List.mem_singleton.mpr rfl) (List.getElem?_eq_some_iff.mp eo).1]; exact eo
  obtain ⟨a2, vs, i1, i2, i3, i4, i5⟩ := R'.lst eo'
  rw [S.pre r a ea] at i1; cases i1
  refine ⟨fun x hx => ?_, fun hi => ⟨vs, i3, i2.get2 hi⟩⟩
  obtain ⟨v, h1, h2⟩ := i2.get hx
  refine ⟨⟨vs, v, i3, h1⟩, fun u H' ⟨e, hu⟩ => ?_⟩
  subst e
  have := hu vs i3
  rw [h1] at this; cases this
  exact ⟨Step.refl, R', h2⟩
theorem wj_dict {φ0 : List Addr} {t0 : Sto} {H0 : Hp} {r : Nat} {a : Addr} {o : Obj} {kvs : List (PV × PV)} {ks : List V} (R : Rl L φ0 t0 H0) (ea : φ0[r]? = some a) (ho : H0 a = some (dO a o)) (hv : VRs L φ0 H0 (kvs.map (·.1)) ks) :
    WJ L φ0 t0 H0 ⟨kvs.map (·.1), [r]⟩ (Itx a o ks) := by
  refine ⟨(r, a, dO a o) :: L.dy, fun _ h => List.mem_cons_of_mem _ h, fun lk h1 h2 => Rl.hold (R.sto rfl h1) fun p hp => ?_, fun φ st H i S R' _ => ?_⟩
  · rcases List.mem_cons.mp hp with rfl | hp
    · exact ⟨h2 r (List.mem_singleton.mpr rfl), ea, ho⟩
    · exact ⟨h1 _ (R.fx p hp).1, (R.fx p hp).2⟩
  · have h := (R'.fx (r, a, dO a o) (List.mem_cons_self ..)).2.2
    have hv' := VRs.mono0 S.pre S.kp _ _ hv
    refine ⟨fun x hx => ?_, fun hi => ⟨h, hv.get2 hi⟩⟩
    obtain ⟨v, h1, h2⟩ := hv'.get hx
    refine ⟨⟨h, (List.getElem?_eq_some_iff.mp h1).1⟩, fun u H' ⟨e, hu⟩ => ?_⟩
    subst e
    rw [h1] at hu; cases hu
    exact ⟨Step.refl, R', h2⟩
/-- for x in e, whatever e is -/
theorem any_ok (G : Good c k L S X) {m : Env → M PV} (h : PE X e1 (tE L W m)) : PI X tg e1 (tI L W fun ρ => m ρ >>= walkV) := by
  refine ⟨fun pins s σ H R I hw => ?_⟩
  obtain ⟨φ, ρ, st, R0, E, P⟩ := hw
  refine thn (h.run pins s σ H _ I ⟨φ, ρ, st, R0, E, PostW.bind P⟩) fun u s1 ⟨x, H1, I1, rx, φ1, t, px, S1, R1, V1, P1⟩ => ?_
  cases px with
  | tup xs =>
    obtain ⟨a, vs, rfl, ha, hv⟩ := (show ∃ (a : Addr) (vs : List V), x = .ref a ∧ SqT L.K H1 a vs ∧ VRs L φ1 H1 xs vs from V1)
    have h2 : PE X e1 (fun _ _ Q => True → Q (.ref a) H1) ∨ True := .inr trivial
    cases rx
    obtain ⟨its, rv, p, hz⟩ := I1.tuple (by rw [G.hK]; exact ha)
    have q : R (Itt X.K a) H1 := by
      rw [G.hK]
      exact P1 φ1 H1 _ Step.refl R1 (wj_tup R1 ha hv fun _ _ _ => rfl)
    refine wpAny_pyIter_tuple (show s1.heap.IsTuple a its.toArray from p) ?_
    exact pi_one (tk := s1.toks) I1 _ (turn_tuple a _) ⟨_, Heap.get?_push_size _ rfl, rfl, rfl⟩ q
  | str z =>
    obtain rfl : x = .str ⟨z.toArray⟩ := V1
    obtain ⟨tok, rfl⟩ := rx
    have q : R (Its ⟨z.toArray⟩) H1 := P1 φ1 H1 _ Step.refl R1 (wj_str R1)
    cases ha : (Str.mk z.toArray).cps.all (· < 128)
    · exact wpAny_pyIter_wide ha (pi_one (tk := s1.toks) I1 _ (turn_str _ ⟨z.toArray⟩ tok "str_iterator" (.inr rfl)) ⟨_, Heap.get?_push_size _ rfl, rfl, rfl⟩ q)
    · exact wpAny_pyIter_ascii ha (pi_one (tk := s1.toks) I1 _ (turn_str _ ⟨z.toArray⟩ tok "str_ascii_iterator" (.inl rfl)) ⟨_, Heap.get?_push_size _ rfl, rfl, rfl⟩ q)
  | ref r =>
    obtain ⟨a, rfl, ha⟩ := (show ∃ a : Addr, x = .ref a ∧ φ1[r]? = some a from V1)
    cases rx
    cases e : t.objs[r]? with
    | none =>
      have : walkV (.ref r) t = .stuck := getOb_no e
      rw [this] at P1; exact (show False from P1).elim
    | some ob =>
      cases ob with
      | list xs =>
        have ew : walkV (.ref r) t = .ok ⟨xs, [r]⟩ t := getOb_bind e
        rw [ew] at P1
        obtain ⟨a2, vs, i1, i2, i3, i4, i5⟩ := R1.lst e
        rw [ha] at i1; cases i1
        obtain ⟨its, rv, p, hz⟩ := I1.list (by rw [G.hK]; exact i3)
        have q : R (Itl X.K a) H1 := by
          rw [G.hK]
          exact P1 φ1 H1 _ Step.refl R1 (wj_list R1 ha e)
        refine wpAny_pyIter_list p.isList ?_
        exact pi_one (tk := s1.toks) I1 _ (turn_list a _) ⟨_, Heap.get?_push_size _ rfl, rfl, rfl⟩ q
      | dict kvs =>
        have ew : walkV (.ref r) t = .ok ⟨kvs.map (·.1), [r]⟩ t := getOb_bind e
        rw [ew] at P1
        obtain ⟨a2, o, i1, i2, i3, i4, i5⟩ := R1.dic e
        rw [ha] at i1; cases i1
        obtain ⟨es, ep, ks, j1, j2, j3, j4⟩ := i5.walk
        have q : R (Itx a o ks) H1 := P1 φ1 H1 _ Step.refl R1 (wj_dict R1 ha i2 j3)
        refine iter_keys i3 (dO_get I1 i2) i4 j1 (pi_one (tk := s1.toks) I1 _ (turn_x j1 j2 j4) ⟨_, Heap.get?_push_size _ rfl, rfl, by rw [j2]; rfl⟩ q)
      | _ =>
        have : walkV (.ref r) t = .stuck := by
          show (getOb r >>= _) t = _
          rw [getOb_bind e]; rfl
        rw [this] at P1; exact (show False from P1).elim
  | _ => exact (show False from P1).elim
/-- range(a), range(a, b) -/
theorem ranged {lo hi : Int} {t : Sto} {σ : L2.St} {φ : List Addr} {H : Hp} {R : It → Hp → Prop} (P : PostW L W σ φ H (rangeW lo hi t) R) (R0 : Rl L φ t H) : (-(2 ^ 62) ≤ lo ∧ lo < 2 ^ 62 ∧ -(2 ^ 62) ≤ hi ∧ hi < 2 ^ 62) ∧ R (L2.Itr lo (hi - lo).toNat) H := by
  unfold rangeW at P
  cases e : (decide (lo.natAbs < 4611686018427387904) && decide (hi.natAbs < 4611686018427387904) && decide ((hi - lo).toNat ≤ 16000000)) with
  | false => rw [guard_no e] at P; exact (show False from P).elim
  | true =>
    rw [guard_ok e] at P
    simp only [Bool.and_eq_true, decide_eq_true_eq] at e
    exact ⟨by omega, P φ H _ Step.refl R0 (wj_rng R0)⟩
theorem asI_post {α : Type} {x : PV} {v : V} {q : Int → M α} {t : Sto} (h : (asI x >>= q) t ≠ .stuck) {φ : List Addr} {H : Hp} (V : VR L φ H x v) : ∃ i, x = .int i ∧ v = .int i ∧ (asI x >>= q) t = q i t := by
  cases x with
  | int i => exact ⟨i, rfl, V, rfl⟩
  | _ => exact absurd rfl h
theorem PostW.alive {r : Res Walk} {σ : L2.St} {φ : List Addr} {H : Hp} {R : It → Hp → Prop} (P : PostW L W σ φ H r R) : r ≠ .stuck := fun e => by rw [e] at P; exact P
theorem rng1_ok (G : Good c k L S X) {x : Expr} {p : Pos} (hg : glB S.sc "range" = true) (hx : S.gl "range" = some .blt) (h : PE X e1 (tE L W fun ρ => evE c ρ a)) (hs : noStar e1 = true) : PI X tg (.Call (.Name "range" p) [e1] [] pos) (tI L W fun ρ => evIt c ρ (.rng1 a)) :=
  piI (pi_range1 (gl_of G hg) (G.gblt _ hx) (pa_cons h pa_nil (star_ok hs)) (by rw [star_ok hs]; rfl)) fun σ H R hw => by
    obtain ⟨φ, ρ, st, R0, E, P⟩ := hw
    have P' : PostW L W σ φ H ((evE c ρ a >>= fun x => asI x >>= fun i => rangeW 0 i) st) R := by simp only [evIt] at P; exact P
    refine ⟨φ, ρ, st, R0, E, (PostW.bind P').imp fun v H1 ⟨φ1, t, y, S1, R1, V1, P1⟩ => ?_⟩
    obtain ⟨i, rfl, rfl, e⟩ := asI_post P1.alive V1
    rw [e] at P1
    obtain ⟨⟨h1, h2, h3, h4⟩, q⟩ := ranged P1 R1
    exact ⟨i, rfl, h3, h4, by simpa using q⟩
theorem rng2_ok (G : Good c k L S X) {p : Pos} (hg : glB S.sc "range" = true) (hx : S.gl "range" = some .blt) (h1 : PE X e1 (tE L W fun ρ => evE c ρ a)) (h2 : PE X e2 (tE L W fun ρ => evE c ρ b)) (hs1 : noStar e1 = true) (hs2 : noStar e2 = true) :
    PI X tg (.Call (.Name "range" p) [e1, e2] [] pos) (tI L W fun ρ => evIt c ρ (.rng2 a b)) :=
  piI (pi_range2 (gl_of G hg) (G.gblt _ hx) (pa_cons h1 (pa_cons h2 pa_nil (star_ok hs2)) (star_ok hs1)) (by rw [star_ok hs1, star_ok hs2]; rfl) (by rw [star_ok hs2]; rfl)) fun σ H R hw => by
    obtain ⟨φ, ρ, st, R0, E, P⟩ := hw
    have P' : PostW L W σ φ H ((evE c ρ a >>= fun x => asI x >>= fun i => evE c ρ b >>= fun y => asI y >>= fun j => rangeW i j) st) R := by simp only [evIt] at P; exact P
    refine ⟨φ, ρ, st, R0, E, (PostW.bind P').imp fun v H1 ⟨φ1, t, y, S1, R1, V1, P1⟩ => ?_⟩
    obtain ⟨i, rfl, rfl, e⟩ := asI_post P1.alive V1
    rw [e] at P1
    refine ⟨φ1, ρ, t, R1, E.mono S1, (PostW.bind P1).imp fun w H2 ⟨φ2, t2, z, S2, R2, V2, P2⟩ => ?_⟩
    obtain ⟨j, rfl, rfl, e⟩ := asI_post P2.alive V2
    rw [e] at P2
    obtain ⟨⟨h1, h2, h3, h4⟩, q⟩ := ranged P2 R2
    exact ⟨i, j, rfl, ⟨h1, h2, h3, h4⟩, q⟩
end
end TL
end

section
set_option maxRecDepth 100000
set_option maxHeartbeats 1000000
set_option autoImplicit false
/-! TL: targets. -/
namespace TL
open PySem PySem.Spec PyProof.Rows L2
/-- no exception is wished for -/
abbrev WF : WX := fun _ _ _ _ => False
mutual
/-- the names of a target -/
def tgN : Tg → List Nat
  | .nm i => [i]
  | .tp ts => tgsN ts
  | .star pre mid post => tgsN pre ++ tgN mid ++ tgsN post
  | .fld _ _ => []
  | .sub _ _ => []
def tgsN : List Tg → List Nat
  | [] => []
  | t :: ts => tgN t ++ tgsN ts
end
/-- only these slots differ -/
def OnlyN (ns : List Nat) (σ σ' : L2.St) : Prop := σ'.length = σ.length ∧ ∀ j, j ∉ ns → σ'[j]? = σ[j]?
theorem OnlyN.refl {ns : List Nat} {σ : L2.St} : OnlyN ns σ σ := ⟨rfl, fun _ _ => rfl⟩
theorem OnlyN.trans {ns ms : List Nat} {σ σ1 σ2 : L2.St} (a : OnlyN ns σ σ1) (b : OnlyN ms σ1 σ2) : OnlyN (ns ++ ms) σ σ2 :=
  ⟨b.1.trans a.1, fun j hj => (b.2 j fun z => hj (List.mem_append_right _ z)).trans (a.2 j fun z => hj (List.mem_append_left _ z))⟩
def PostG (L : Lk) (σ : L2.St) (φ : List Addr) (H : Hp) (ns : List Nat) (r : Res Env) (Q : L2.St → Hp → Prop) : Prop := match r with
  | .ok ρ' t => ∀ φ' H' σ', Step φ H φ' H' → Rl L φ' t H' → ER L φ' H' ρ' σ' → OnlyN ns σ σ' → Q σ' H'
  | _ => False
def tG (L : Lk) (ns : List Nat) (m : Env → PV → M Env) : TG := fun v σ H Q => ∃ φ ρ st x, Rl L φ st H ∧ ER L φ H ρ σ ∧ VR L φ H x v ∧ PostG L σ φ H ns (m ρ x st) Q
def tGs (L : Lk) (ns : List Nat) (m : Env → List PV → M Env) : TGs := fun vs σ H Q => ∃ φ ρ st xs, Rl L φ st H ∧ ER L φ H ρ σ ∧ VRs L φ H xs vs ∧ PostG L σ φ H ns (m ρ xs st) Q
theorem pgI {X : Cx} {e : Expr} {t t' : TG} (h : PG X e t) (i : ∀ v σ H Q, t' v σ H Q → t v σ H Q) : PG X e t' := ⟨fun pins s σ H v u Q I r q => h.run pins s σ H v u Q I r (i v σ H Q q)⟩
theorem pgsI {X : Cx} {e : List Expr} {t t' : TGs} (h : PGs X e t) (i : ∀ v σ H Q, t' v σ H Q → t v σ H Q) : PGs X e t' := ⟨fun pins s σ H v u Q I r q => h.run pins s σ H v u Q I r (i v σ H Q q)⟩
section
variable {c : Ctx} {k : Nat} {L : Lk} {S : Sk} {X : Cx} {pos : Pos} {a b d : Ex} {e1 e2 e3 : Expr}
def locB (sc : Scope) (x : Str) : Bool := match sc.names.lookup x with
  | some .local => true
  | _ => false
/-- a name may be stored -/
def stoB (S : Sk) (x : Str) : Bool := match S.sc.names.lookup x with
  | some .local => true
  | some .cell => S.st x
  | _ => false
theorem sto_of (G : Good c k L S X) {x : Str} (h : stoB S x = true) : Loc X.env.scope x ∧ (X.fn x = true ∨ X.env.scope.names.lookup x = some .local) := by
  unfold stoB at h
  rw [G.sc, G.st]
  split at h
  · exact ⟨.inl (by assumption), .inr (by assumption)⟩
  · exact ⟨.inr (by assumption), .inl h⟩
  · cases h
theorem ER.set {φ : List Addr} {H : Hp} {ρ : Env} {σ : L2.St} (E : ER L φ H ρ σ) {i : Nat} {x : PV} {v : V} (hb : ∀ p ∈ L.sl, p.1 ≠ i) (hx : VR L φ H x v) : ER L φ H (ρ.set i (some x)) (σ.set i (some v)) := by
  refine ⟨by simp [E.len], fun j y e => ?_, fun p hp => by rw [List.getElem?_set_ne (Ne.symm (hb p hp))]; exact E.sl p hp, E.xc⟩
  by_cases hj : j = i
  · subst hj
    have hlt : j < ρ.length := by simpa using (List.getElem?_eq_some_iff.mp e).1
    rw [List.getElem?_set_self hlt] at e
    cases e
    exact ⟨v, List.getElem?_set_self (by rw [← E.len]; exact hlt), hx⟩
  · rw [List.getElem?_set_ne (Ne.symm hj)] at e ⊢
    exact E.at_ j y e
theorem ER.none {φ : List Addr} {H : Hp} {ρ : Env} {σ : L2.St} (E : ER L φ H ρ σ) {i : Nat} {o : Option V} (hb : ∀ p ∈ L.sl, p.1 ≠ i) : ER L φ H (ρ.set i none) (σ.set i o) := by
  refine ⟨by simp [E.len], fun j y e => ?_, fun p hp => by rw [List.getElem?_set_ne (Ne.symm (hb p hp))]; exact E.sl p hp, E.xc⟩
  by_cases hj : j = i
  · subst hj
    have hlt : j < ρ.length := by simpa using (List.getElem?_eq_some_iff.mp e).1
    rw [List.getElem?_set_self hlt] at e
    cases e
  · rw [List.getElem?_set_ne (Ne.symm hj)] at e ⊢
    exact E.at_ j y e
theorem OnlyN.set {σ : L2.St} {i : Nat} {o : Option V} : OnlyN [i] σ (σ.set i o) := ⟨by simp, fun j hj => List.getElem?_set_ne fun z => hj (by rw [z]; exact List.mem_singleton.mpr rfl)⟩
theorem ban_of (G : Good c k L S X) {i : Nat} (hb : S.ban.contains i = false) : ∀ p ∈ L.sl, p.1 ≠ i := fun p hp z => by
  have := G.ban p hp
  rw [z] at this
  rw [List.contains_iff_mem.mpr this] at hb; cases hb
theorem nm_ok (G : Good c k L S X) {i : Nat} {x : Str} (hN : S.N[i]? = some x) (hs : stoB S x = true) (hb : S.ban.contains i = false) : PG X (.Name x pos) (tG L (tgN (.nm i)) fun ρ v => M.quiet (asgT c ρ (.nm i) v)) := by
  obtain ⟨h1, h2⟩ := sto_of G hs
  refine pgI (pg_name (i := i) G.nd (by rw [G.hN]; exact hN) h1 h2) fun v σ H Q h => ?_
  obtain ⟨φ, ρ, st, y, R, E, V, P⟩ := h
  have P' : PostG L σ φ H [i] (M.quiet (setE ρ i y) st) Q := by simp only [asgT] at P; exact P
  unfold M.quiet setE at P'
  cases e : Nat.blt i ρ.length with
  | false => rw [e] at P'; exact (show False from P').elim
  | true =>
    rw [e] at P'
    exact P' φ H _ Step.refl R (E.set (ban_of G hb) V) OnlyN.set
theorem PostG.step {r : Res Env} {σ : L2.St} {φ φ' : List Addr} {H H' : Hp} {ns : List Nat} {Q : L2.St → Hp → Prop} (P : PostG L σ φ H ns r Q) (s : Step φ H φ' H') : PostG L σ φ' H' ns r Q := by
  cases r with
  | ok x t => exact fun φ2 H2 v s2 => P φ2 H2 v (s.trans s2)
  | exc x t => exact P
  | stuck => exact P
theorem quiet_ok {α : Type} {m : M α} {st t : Sto} {x : α} (e : m st = .ok x t) : M.quiet m st = .ok x t := by unfold M.quiet; rw [e]
theorem quiet_exc {α : Type} {m : M α} {st t : Sto} {x : Xc} (e : m st = .exc x t) : M.quiet m st = .stuck := by unfold M.quiet; rw [e]
theorem quiet_stuck {α : Type} {m : M α} {st : Sto} (e : m st = .stuck) : M.quiet m st = .stuck := by unfold M.quiet; rw [e]
theorem quiet_bind {α β : Type} {m : M α} {q : α → M β} {st : Sto} : M.quiet (m >>= q) st = (M.quiet m >>= fun x => M.quiet (q x)) st := by
  cases e : m st with
  | ok x t =>
    rw [bind_ok (quiet_ok e)]
    cases e2 : q x t with
    | ok y u => rw [quiet_ok e2]; exact quiet_ok (by rw [bind_ok e]; exact e2)
    | exc y u => rw [quiet_exc e2]; exact quiet_exc (x := y) (t := u) (by rw [bind_ok e]; exact e2)
    | stuck => rw [quiet_stuck e2]; exact quiet_stuck (by rw [bind_ok e]; exact e2)
  | exc y t => rw [bind_stuck (quiet_exc e)]; exact quiet_exc (bind_exc e)
  | stuck => rw [bind_stuck (quiet_stuck e)]; exact quiet_stuck (bind_stuck e)
theorem gnil_ok : PGs X [] (tGs L (tgsN []) fun ρ vs => M.quiet (asgTs c ρ [] vs)) := pgsI pgs_nil fun v σ H Q h => by
  obtain ⟨φ, ρ, st, xs, R, E, V, P⟩ := h
  cases xs with
  | nil =>
    obtain rfl : v = [] := V
    have P' : PostG L σ φ H (tgsN []) (.ok ρ st) Q := by simp only [asgTs] at P; exact P
    exact ⟨rfl, P' φ H σ Step.refl R E OnlyN.refl⟩
  | cons x xs => simp only [asgTs] at P; exact (show False from P).elim
theorem asgE_cons {e : Expr} {es : List Expr} {env : PySem.Env} (h : noStar e = true) : (assignEach (e :: es) env).map (·.2) = assign e env :: (assignEach es env).map (·.2) := by
  cases e <;> first | rfl | cases h
theorem gcons_ok {t : Tg} {ts : List Tg} {es : List Expr} (h1 : PG X e1 (tG L (tgN t) fun ρ v => M.quiet (asgT c ρ t v))) (h2 : PGs X es (tGs L (tgsN ts) fun ρ vs => M.quiet (asgTs c ρ ts vs))) (hs : noStar e1 = true) :
    PGs X (e1 :: es) (tGs L (tgsN (t :: ts)) fun ρ vs => M.quiet (asgTs c ρ (t :: ts) vs)) :=
  pgsI (pgs_cons h1 h2 (asgE_cons hs)) fun v σ H Q h => by
    obtain ⟨φ, ρ, st, xs, R, E, V, P⟩ := h
    cases xs with
    | nil => simp only [asgTs] at P; exact (show False from P).elim
    | cons x xs =>
      obtain ⟨w, r, rfl, V1, V2⟩ := (show ∃ w r, v = w :: r ∧ VR L φ H x w ∧ VRs L φ H xs r from V)
      refine ⟨w, r, rfl, φ, ρ, st, x, R, E, V1, ?_⟩
      have P' : PostG L σ φ H (tgN t ++ tgsN ts) (M.quiet (asgT c ρ t x >>= fun ρ' => asgTs c ρ' ts xs) st) Q := by simp only [asgTs] at P; exact P
      rw [quiet_bind] at P'
      show PostG L σ φ H (tgN t) (M.quiet (asgT c ρ t x) st) _
      cases e : M.quiet (asgT c ρ t x) st with
      | stuck => rw [bind_stuck e] at P'; exact P'
      | exc y t' => rw [bind_exc e] at P'; exact P'
      | ok ρ' t' =>
        rw [bind_ok e] at P'
        intro φ1 H1 σ1 S1 R1 E1 O1
        refine ⟨φ1, ρ', t', xs, R1, E1, V2.mono S1, ?_⟩
        show PostG L σ1 φ1 H1 (tgsN ts) (M.quiet (asgTs c ρ' ts xs) t') _
        cases e2 : M.quiet (asgTs c ρ' ts xs) t' with
        | ok ρ2 t2 => rw [e2] at P'; exact fun φ2 H2 σ2 S2 R2 E2 O2 => P' φ2 H2 σ2 (S1.trans S2) R2 E2 (O1.trans O2)
        | exc y t2 => rw [e2] at P'; exact P'
        | stuck => rw [e2] at P'; exact P'
theorem asgE_len {env : PySem.Env} : ∀ {es : List Expr}, (assignEach es env).length = es.length
  | [] => rfl
  | e :: es => by cases e <;> (show _ + 1 = _ + 1; rw [asgE_len])
theorem asgE_plain {env : PySem.Env} : ∀ {es : List Expr}, es.all noStar = true → (assignEach es env).findIdx? (·.1) = none
  | [], _ => rfl
  | e :: es, h => by
    rw [List.all_cons, Bool.and_eq_true] at h
    have ih := asgE_plain (env := env) h.2
    have : assignEach (e :: es) env = (false, assign e env) :: assignEach es env := by cases e <;> first | rfl | (have := h.1; cases this)
    rw [this, List.findIdx?_cons]
    simp [ih]
theorem asgTs_len {ρ' : Env} : ∀ {ts : List Tg} {xs : List PV} {st t : Sto} {ρ : Env}, asgTs c ρ ts xs st = .ok ρ' t → xs.length = ts.length
  | [], [], _, _, _, _ => rfl
  | [], _ :: _, _, _, _, e => by simp only [asgTs] at e; cases e
  | _ :: _, [], _, _, _, e => by simp only [asgTs] at e; cases e
  | t :: ts, x :: xs, st, u, ρ, e => by
    simp only [asgTs] at e
    obtain ⟨r, s, e1, e2⟩ := bind_inv e
    rw [List.length_cons, List.length_cons, asgTs_len e2]
theorem tp_ok (G : Good c k L S X) (hc : S.cold = true) {ts : List Tg} {es : List Expr} {j : Nat} (h : PGs X es (tGs L (tgsN ts) fun ρ vs => M.quiet (asgTs c ρ ts vs))) (hst : es.all noStar = true) (hl : es.length = ts.length) :
    PG X (.Tuple es j pos) (tG L (tgN (.tp ts)) fun ρ v => M.quiet (asgT c ρ (.tp ts) v)) :=
  pgI (pg_tup (G.calm hc).1 h asgE_len (asgE_plain hst)) fun v σ H Q h => by
    obtain ⟨φ, ρ, st, x, R, E, VV, P⟩ := h
    cases x with
    | tup xs =>
      obtain ⟨a, vs, rfl, ha, hv⟩ := (show ∃ (a : Addr) (vs : List V), v = .ref a ∧ SqT L.K H a vs ∧ VRs L φ H xs vs from VV)
      have P' : PostG L σ φ H (tgsN ts) (M.quiet (asgTs c ρ ts xs) st) Q := by simp only [asgT] at P; exact P
      refine ⟨a, vs, rfl, by rw [G.hK]; exact ha, ?_, φ, ρ, st, xs, R, E, hv, P'⟩
      cases e : asgTs c ρ ts xs st with
      | ok ρ' t => rw [hv.length, asgTs_len (ρ' := ρ') (ρ := ρ) e, hl]
      | exc y t => unfold M.quiet at P'; rw [e] at P'; exact (show False from P').elim
      | stuck => unfold M.quiet at P'; rw [e] at P'; exact (show False from P').elim
    | _ => simp only [asgT] at P; exact (show False from P).elim
theorem PostG.bindE {m : M PV} {q : PV → M Env} {ns : List Nat} {st : Sto} {σ : L2.St} {φ : List Addr} {H : Hp} {Q : L2.St → Hp → Prop} (P : PostG L σ φ H ns (M.quiet (m >>= q) st) Q) :
    PostE L WF σ φ H (m st) fun v H1 => ∃ φ1 t x, Step φ H φ1 H1 ∧ Rl L φ1 t H1 ∧ VR L φ1 H1 x v ∧ PostG L σ φ1 H1 ns (M.quiet (q x) t) Q := by
  rw [quiet_bind] at P
  cases e : m st with
  | stuck => rw [bind_stuck (quiet_stuck e)] at P; exact P
  | exc x t => rw [bind_stuck (quiet_exc e)] at P; exact (show False from P).elim
  | ok x t =>
    rw [bind_ok (quiet_ok e)] at P
    exact fun φ1 H1 v S1 R1 V1 => ⟨φ1, t, x, S1, R1, V1, P.step S1⟩
theorem noat_of (G : Good c k L S X) {f i : Nat} (im : i ∈ L.cs) (hf : S.tb.fl.contains f = true) : NoAttr X.K (L.cl i) (L.nm f) := G.noat i im f (List.contains_iff_mem.mp hf)
/-- a field is written -/
theorem setFld_run (G : Good c k L S X) {f : Nat} (hf : S.tb.fl.contains f = true) {pins : List (Addr × Obj)} {s : Shared} {σ : L2.St} {H : Hp} {x v : PV} {ov y : V} {u w : Value} {φ : List Addr} {st : Sto} {A : Around} {E : Value → Shared → Prop} (I : Inv X pins σ H s)
    (rx : L2.RelV ov u) (ry : L2.RelV y w) (R : Rl L φ st H) (hx : VR L φ H x ov) (hv : VR L φ H v y) {Q : Unit → Shared → Prop}
    (hs : setFld x f v st ≠ .stuck) (hq : ∀ t H' s', setFld x f v st = .ok () t → Step φ H φ H' → Rl L φ t H' → Inv X pins σ H' s' → Q () s') : wpAny (model X.prog X.w) A (setAttr u (L.nm f) w) Q E s := by
  cases x with
  | ref r =>
    obtain ⟨a', rfl, ha⟩ := (show ∃ a : Addr, ov = .ref a ∧ φ[r]? = some a from hx)
    cases rx
    have em : setFld (.ref r) f v st = (getOb r >>= fun o => match o with
      | .inst c fs => M.guard (fs.length < 100) >>= fun _ => putOb r (.inst c (storeF fs f v))
      | _ => M.stop) st := rfl
    cases e : st.objs[r]? with
    | none => rw [getOb_no e] at em; exact absurd em hs
    | some ob =>
      rw [getOb_bind e] at em
      cases ob with
      | inst i fs =>
        dsimp only at em
        obtain ⟨a2, dx, gs, i1, i2, i3, im⟩ := R.ins e
        rw [ha] at i1; cases i1
        by_cases hl : fs.length < 100
        · rw [guard_ok (by simpa using hl)] at em
          cases hr : st.lk.contains r with
          | true => rw [putOb_no hr] at em; exact absurd em hs
          | false =>
            rw [putOb_ok hr] at em
            have hgl : gs.length < 1000 := by rw [i3.length]; omega
            refine setattr_ok I i2 (G.cls i im) (noat_of G im hf) hgl ry fun s3 I3 => ?_
            have S1 : Step φ H φ (upd H a' (.ins (L.cl i) dx (putF (L.nm f) y gs))) := Step.put (List.mem_of_getElem? ha) i2 (by trivial)
            refine hq _ _ s3 em S1 (R.put (ob := .inst i (storeF fs f v)) ha i2 (by trivial) rfl rfl hr ⟨dx, _, upd_same, ?_⟩) I3
            exact ⟨FR.put (hv.mono S1) (FR.mono S1 fs gs i3), im⟩
        · rw [guard_no (by simpa using hl)] at em; exact absurd em hs
      | _ => exact absurd em hs
  | _ => exact absurd rfl hs
theorem tfld_ok (G : Good c k L S X) {f : Nat} (h : PE X e1 (tE L WF fun ρ => evE c ρ a)) (hf : S.tb.fl.contains f = true) : PG X (.Attribute e1 (L.nm f) pos) (tG L (tgN (.fld f a)) fun ρ v => M.quiet (asgT c ρ (.fld f a) v)) := by
  refine ⟨fun pins s σ H v u Q I r hw => ?_⟩
  obtain ⟨φ, ρ, st, x, R, E, VV, P⟩ := hw
  have P' : PostG L σ φ H [] (M.quiet (evE c ρ a >>= fun y => setFld y f x >>= fun _ => M.ret ρ) st) Q := by simp only [asgT] at P; exact P
  have P2 := PostG.bindE P'
  show wpAny (model X.prog X.w) X.A (do
    let ov ← holding [u] (eval e1 X.env)
    standAt pos.atName
    holding [u, ov] (setAttr ov (L.nm f) u)
    release [u, ov] []) _ _ s
  refine wpAny_bind (wpAny_holding (thn (h.run pins s σ H _ I ⟨φ, ρ, st, R, E, P2⟩) fun ov s1 ⟨y, H1, I1, r1, φ1, t, py, S1, R1, V1, P3⟩ => ?_))
  have hns : setFld py f x t ≠ .stuck := fun e => by
    rw [quiet_stuck (bind_stuck e)] at P3; exact P3
  refine wpAny_bind (wpAny_standAt (wpAny_bind (wpAny_holding (setFld_run G hf I1 r1 r R1 V1 (VV.mono S1) hns fun t2 H2 s2 e2 S2 R2 I2 => ?_))))
  rw [quiet_ok (show (setFld py f x >>= fun _ => M.ret ρ) t = .ok ρ t2 from by rw [bind_ok e2]; rfl)] at P3
  exact wpAny_release ⟨σ, H2, I2, P3 φ1 H2 σ S2 R2 ((E.mono S1).mono S2) OnlyN.refl⟩
/-- an item of a list is written -/
theorem setItem_set (G : Good c k L S X) : PSet X (fun o i v H Q => ∃ φ st po pi pv, Rl L φ st H ∧ VR L φ H po o ∧ VR L φ H pi i ∧ VR L φ H pv v ∧ setItem po pi pv st ≠ .stuck ∧ ∀ t H', setItem po pi pv st = .ok () t → Step φ H φ H' → Rl L φ t H' → Q H') := by
  intro pins s σ H o i v ov iv u Q I ro ri rv h
  obtain ⟨φ, st, po, pi, pv, R, ho, hi, hv, hns, hq⟩ := h
  cases po with
  | ref r =>
    obtain ⟨a', rfl, ha⟩ := (show ∃ a : Addr, o = .ref a ∧ φ[r]? = some a from ho)
    have em : setItem (.ref r) pi pv st = (getOb r >>= fun o => match o with
      | .list xs => match pi with
        | .int k => match ixO xs.length k with
          | some j => putOb r (.list (xs.set j pv))
          | none => M.stop
        | _ => M.stop
      | .dict kvs => M.guard (keyOk kvs pi && decide (kvs.length < lineN)) >>= fun _ => putOb r (.dict (storeD kvs pi pv))
      | _ => M.stop) st := rfl
    cases e : st.objs[r]? with
    | none => rw [getOb_no e] at em; exact absurd em hns
    | some ob =>
      rw [getOb_bind e] at em
      cases ob with
      | list xs =>
        cases pi with
        | int n =>
          dsimp only at em
          obtain rfl : i = .int n := hi
          obtain ⟨a2, vs, i1, i2, i3, i4, i5⟩ := R.lst e
          rw [ha] at i1; cases i1
          cases ej : ixO xs.length n with
          | none => rw [ej] at em; exact absurd em hns
          | some j =>
            rw [ej] at em
            dsimp only at em
            cases hr : st.lk.contains r with
            | true => rw [putOb_no hr] at em; exact absurd em hns
            | false =>
              rw [putOb_ok hr] at em
              have hl := i5 (R.notF hr)
              have hj : ixN vs.length n = some j := by rw [i2.length]; exact ej
              refine set_list pins s σ H _ _ v ov iv u Q I ro ri rv ⟨a', vs, n, j, rfl, rfl, hl, hj, ?_⟩
              have S1 : Step φ H φ (upd H a' (.lst (vs.set j v))) := Step.put (List.mem_of_getElem? ha) hl (by trivial)
              refine hq _ _ em S1 (R.put (ob := .list (xs.set j pv)) ha hl (by trivial) rfl rfl hr ⟨vs.set j v, (i2.set j hv).mono S1, SqL.of upd_same, by rw [upd_same]; rfl, fun _ => upd_same⟩)
        | _ => exact absurd em hns
      | dict kvs =>
        dsimp only at em
        cases hg : (keyOk kvs pi && decide (kvs.length < lineN)) with
        | false => rw [guard_no hg] at em; exact absurd em hns
        | true =>
          rw [guard_ok hg] at em
          rw [Bool.and_eq_true, decide_eq_true_eq] at hg
          cases hr : st.lk.contains r with
          | true => rw [putOb_no hr] at em; exact absurd em hns
          | false =>
            rw [putOb_ok hr] at em
            obtain ⟨a2, o', i1, i2, i3, i4, i5⟩ := R.dic e
            rw [ha] at i1; cases i1
            obtain rfl : ov = .ref a' := ro
            refine dk_setItem G.hK G.hP G.hW G.units I i2 i3 i4 i5 hg.1 hi ri hg.2 hv rv fun o2 s' hx' D' I' => ⟨_, I', ?_⟩
            have S1 : Step φ H φ (upd H a' (dO a' o2)) := Step.put (List.mem_of_getElem? ha) i2 dO_mut
            exact hq _ _ em S1 (R.put (ob := .dict (storeD kvs pi pv)) ha i2 dO_mut rfl rfl hr ⟨o2, upd_same, i3, hx', D'⟩)
      | _ => exact absurd em hns
  | _ => exact absurd rfl hns
end
end TL
end

section
set_option maxRecDepth 100000
set_option maxHeartbeats 1000000
set_option autoImplicit false
/-! TL: comprehensions. -/
namespace TL
open PySem PySem.Spec PyProof.Rows L2
def Sk.blk (S : Sk) (scope : Scope) : Sk := { S with sc := relS scope S.sc, st := fun x => scope.names.lookup x == some .cell, cau := none, top := false }
section
variable {c : Ctx} {k : Nat} {L : Lk} {S : Sk} {X : Cx} {W : WX} {pos : Pos} {a b d : Ex} {e1 e2 e3 : Expr} {tg : Expr}
theorem Good.blk (G : Good c k L S X) (s : Shared) (H : Hp) (scope : Scope) (C : Addr) (cl : List (Str × Addr)) (fp : List Addr) : Good c k L (S.blk scope) (X.blk s H scope (compEnvC scope cl C X.env) fp) where
  hN := G.hN
  nd := G.nd
  sc := by show relS scope X.env.scope = _; rw [G.sc]; rfl
  st := rfl
  hK := G.hK
  tb := G.tb
  hP := G.hP
  hW := G.hW
  calm := G.calm
  units := G.units
  gfn := G.gfn
  gcl := G.gcl
  gcon := G.gcon
  gblt := G.gblt
  keep := G.keep
  fn := G.fn
  cls := G.cls
  noat := G.noat
  meth := G.meth
  nms := G.nms
  spc := G.spc
  mks := G.mks
  ban := G.ban
  exc := G.exc
  exU := G.exU
  exA := G.exA
  cau := fun i h => nomatch h
  sta := fun h => nomatch h
  isB := G.isB
  isO := G.isO
  isC := G.isC
  isK := G.isK
  isG := G.isG
theorem spM_hold {Y : List (Nat × Addr × HO)} {m : List PV → M PV} : spM (L.hold Y) m = spM L m := rfl
theorem srcVs_hold {Y : List (Nat × Addr × HO)} {ws : List L2.V} : ∀ {fs : List (Nat × Src)}, srcVs (L.hold Y) ws fs = srcVs L ws fs
  | [] => rfl
  | (f, b) :: fs => by
    simp only [srcVs, srcVs_hold (fs := fs)]
    rfl
theorem ExF.hold {Y : List (Nat × Addr × HO)} {P : Program} {w : World} {K : PySem.W.Frag} {mg : Str → Option Value} {base : Heap} {kk n : Nat} {fs : List (Nat × Src)} {fI : Addr} {fd : FuncData} {ps : List Str} (T : ExF L k P w K mg base kk n fs fI fd ps) : ExF (L.hold Y) k P w K mg base kk n fs fI fd ps :=
  ⟨T.oex, T.ini, T.ty, T.fn.imp fun vs H Q E ⟨a, ws, gs, h1, h2, h3, h4, h5⟩ => ⟨a, ws, gs, h1, h2, h3, by rw [← srcVs_hold (Y := Y)]; exact h4, h5⟩, T.bd, T.str, T.nd⟩
theorem TbOk.hold {T : Tb} (t : TbOk T c L) {Y : List (Nat × Addr × HO)} : TbOk T c (L.hold Y) :=
  ⟨t.nm, t.meths, t.inits, t.flds, t.en, t.cs, fun f n b h => let ⟨g, gV, KB, q⟩ := t.bF f n b h; ⟨g, gV, KB, fun φ H xs zs vs ws ys h1 h2 h3 h4 h5 => (VRs.hold _ _).mpr (q φ H xs zs vs ws ys ((VRs.hold _ _).mp h1) ((VRs.hold _ _).mp h2) h3 h4 h5)⟩,
    fun f n b h => let ⟨g, gV, KB, q⟩ := t.bM f n b h; ⟨g, gV, KB, fun φ H x v xs zs vs ws ys h0 h1 h2 h3 h4 h5 => (VRs.hold _ _).mpr (q φ H x v xs zs vs ws ys ((VR.hold _ _).mp h0) ((VRs.hold _ _).mp h1) ((VRs.hold _ _).mp h2) h3 h4 h5)⟩, t.pres⟩
theorem Good.hold (G : Good c k L S X) (Y : List (Nat × Addr × HO)) : Good c k (L.hold Y) S X where
  hN := G.hN
  nd := G.nd
  sc := G.sc
  st := G.st
  hK := G.hK
  tb := G.tb.hold
  hP := G.hP
  hW := G.hW
  calm := G.calm
  units := G.units
  gfn := G.gfn
  gcl := G.gcl
  gcon := fun x g h => let ⟨u, v, p, h1, h2, h3, h4⟩ := G.gcon x g h; ⟨u, v, p, h1, h2, h3, fun φ H => (VR.hold p v).mpr (h4 φ H)⟩
  gblt := G.gblt
  keep := G.keep
  fn := G.fn
  cls := G.cls
  noat := G.noat
  meth := G.meth
  nms := G.nms
  spc := G.spc
  mks := G.mks
  ban := G.ban
  exc := fun kk fs h => let ⟨fI, fd, ps, T⟩ := G.exc kk fs h; ⟨fI, fd, ps, T.hold⟩
  exU := G.exU
  exA := G.exA
  cau := G.cau
  sta := G.sta
  isB := G.isB
  isO := G.isO
  isC := G.isC
  isK := G.isK
  isG := G.isG

/-! ### the names of a block -/
theorem wipe_get (σ : L2.St) : ∀ (vs : List Nat) (j : Nat), (wipe σ vs)[j]? = if j ∈ vs then (if j < σ.length then some none else none) else σ[j]?
  | [], j => by simp [wipe]
  | v :: vs, j => by
    show ((wipe σ vs).set v none)[j]? = _
    by_cases h : j = v
    · subst h
      rw [if_pos (List.mem_cons_self ..)]
      by_cases hl : j < σ.length
      · rw [if_pos hl, List.getElem?_set_self (by rw [wipe_length]; exact hl)]
      · rw [if_neg hl, List.getElem?_eq_none]
        rw [List.length_set, wipe_length]; omega
    · rw [List.getElem?_set_ne (Ne.symm h), wipe_get σ vs j]
      by_cases hm : j ∈ vs
      · rw [if_pos hm, if_pos (List.mem_cons_of_mem _ hm)]
      · rw [if_neg hm, if_neg (by simp [h, hm])]
theorem wipe_only {σ σ2 : L2.St} {vs ns : List Nat} (h : OnlyN ns (wipe σ vs) σ2) (hs : ∀ j ∈ ns, j ∈ vs) : wipe σ2 vs = wipe σ vs := by
  have hl : σ2.length = σ.length := by rw [h.1, wipe_length]
  apply List.ext_getElem?
  intro j
  rw [wipe_get, wipe_get, hl]
  by_cases hm : j ∈ vs
  · rw [if_pos hm, if_pos hm]
  · rw [if_neg hm, if_neg hm, h.2 j fun z => hm (hs j z), wipe_get, if_neg hm]
theorem ER.wipe {φ : List Addr} {H : Hp} {ρ : Env} {σ : L2.St} (E : ER L φ H ρ σ) : ∀ vs : List Nat, (∀ i ∈ vs, ∀ p ∈ L.sl, p.1 ≠ i) → ER L φ H (wipeE ρ vs) (L2.wipe σ vs)
  | [], _ => E
  | v :: vs, hb => (ER.wipe E vs fun i hi => hb i (List.mem_cons_of_mem _ hi)).none (hb v (List.mem_cons_self ..))

/-! ### tests in a row -/
theorem notFold_ok {e : Expr} {env : PySem.Env} {x : Value} (h : notSet e = true) : foldedSetIterable e env x = pure x := by
  cases e <;> first | rfl | cases h
/-- the tests of a clause -/
def tTs (L : Lk) (m : Env → M Bool) : TT := fun σ H Q => ∃ φ ρ st, Rl L φ st H ∧ ER L φ H ρ σ ∧ (match m ρ st with
  | .ok b t => ∀ φ' H', Step φ H φ' H' → Rl L φ' t H' → Q b H'
  | _ => False)
theorem ptsI {X : Cx} {e : List Expr} {t t' : TT} (h : PTs X e t) (i : ∀ σ H Q, t' σ H Q → t σ H Q) : PTs X e t' := ⟨fun pins s σ H Q I q => h.run pins s σ H Q I (i σ H Q q)⟩
theorem tsnil_ok : PTs X [] (tTs L fun ρ => evTs c ρ []) := ptsI pts_nil fun σ H Q h => by
  obtain ⟨φ, ρ, st, R, E, P⟩ := h
  simp only [evTs] at P
  exact P φ H Step.refl R
theorem tsone_ok (h : Both X e1 (tE L WF fun ρ => evE c ρ a)) : PTs X [e1] (tTs L fun ρ => evTs c ρ [a]) := ptsI (pts_one h.2) fun σ H Q h => by
  obtain ⟨φ, ρ, st, R, E, P⟩ := h
  have P' : (match (evE c ρ a >>= fun x => asB x >>= fun k => match k with | true => M.ret true | false => M.ret false) st with
    | .ok b t => ∀ φ' H', Step φ H φ' H' → Rl L φ' t H' → Q b H'
    | _ => False) := by simp only [evTs] at P; exact P
  refine ⟨φ, ρ, st, R, E, ?_⟩
  show PostE L WF σ φ H (evE c ρ a st) _
  cases e : evE c ρ a st with
  | stuck => rw [bind_stuck e] at P'; exact P'
  | exc x t => rw [bind_exc e] at P'; exact (show False from P').elim
  | ok x t =>
    rw [bind_ok e] at P'
    intro φ1 H1 v S1 R1 V1
    cases x with
    | bl b =>
      refine ⟨b, V1, ?_⟩
      cases b with
      | true => exact P' φ1 H1 S1 R1
      | false => exact P' φ1 H1 S1 R1
    | _ => exact (show False from P').elim

/-! ### beside the store -/
theorem Rl.beside {φ : List Addr} {st : Sto} {H : Hp} {D : Addr} {u o : HO} (R : Rl L φ st H) (hD : D ∉ φ) (hu : H D = some u) (mu : Mut (some u)) : Rl L φ st (upd H D o) :=
  ⟨R.len, R.nd, fun i ob a eo ea => OR.mono0 (fun _ _ h => h) (Kept.put hu mu) (upd_ne fun z => hD (by rw [← z]; exact List.mem_of_getElem? ea)) (R.ob i ob a eo ea), R.fr,
    fun q hq => ⟨(R.fx q hq).1, (R.fx q hq).2.1, by rw [upd_ne fun z => hD (by rw [← z]; exact List.mem_of_getElem? (R.fx q hq).2.1)]; exact (R.fx q hq).2.2⟩⟩
/-- a step from H1 on, D free at H1 -/
theorem Step.beside {φ1 φ : List Addr} {H1 H : Hp} {D : Addr} {u o : HO} (s : Step φ1 H1 φ H) (h0 : H1 D = none) (hu : H D = some u) (mu : Mut (some u)) : Step φ1 H1 φ (upd H D o) :=
  ⟨s.pre, s.len, s.kp.trans (Kept.put hu mu), fun a q n e => ⟨(s.out a q n e).1, by rw [upd_ne (ne_of_none e h0)]; exact (s.out a q n e).2⟩⟩
theorem Rl.relk {φ : List Addr} {st : Sto} {H : Hp} {lk : List Nat} (R : Rl L φ st H) (h1 : ∀ i ∈ L.F, i ∈ lk) (h2 : ∀ p ∈ L.dy, p.1 ∈ lk) : Rl L φ { st with lk := lk } H :=
  ⟨R.len, R.nd, R.ob, fun i hi => ⟨h1 i hi, (R.fr i hi).2⟩, fun p hp => ⟨h2 p hp, (R.fx p hp).2⟩⟩
/-- a thing beside the store comes into it -/
theorem Rl.adopt {φ : List Addr} {st : Sto} {H : Hp} {D : Addr} {ob : Ob} (R : Rl L φ st H) (hD : D ∉ φ) (new : OR L (φ ++ [D]) H st.objs.length D ob) : Rl L (φ ++ [D]) { st with objs := st.objs ++ [ob] } H where
  len := by simp [R.len]
  nd := by
    rw [List.nodup_append]
    refine ⟨R.nd, by simp, fun a ha b hb e => ?_⟩
    have : b = D := by simpa using hb
    subst this; subst e
    exact hD ha
  ob := fun i o a eo ea => by
    by_cases hi : i < st.objs.length
    · have eo' : st.objs[i]? = some o := by rw [← eo]; exact (List.getElem?_append_left hi).symm
      have ea' : φ[i]? = some a := by rw [← ea]; exact (List.getElem?_append_left (by rw [R.len]; exact hi)).symm
      exact OR.mono0 (fun r x h => by rw [List.getElem?_append_left (List.getElem?_eq_some_iff.mp h).1]; exact h) Kept.refl rfl (R.ob i o a eo' ea')
    · have hlt := (List.getElem?_eq_some_iff.mp eo).1
      have hlt' : i < st.objs.length + 1 := by simpa using hlt
      have e : i = st.objs.length := by omega
      subst e
      have eo' : some ob = some o := by
        rw [← eo]
        show _ = (st.objs ++ [ob])[st.objs.length]?
        simp
      have ea' : some D = some a := by
        rw [← ea]
        have : st.objs.length = φ.length := R.len.symm
        rw [this]; simp
      cases eo'; cases ea'
      exact new
  fr := fun i hi => ⟨(R.fr i hi).1, by have := (R.fr i hi).2; simp; omega⟩
  fx := fun q hq => ⟨(R.fx q hq).1, by rw [List.getElem?_append_left (List.getElem?_eq_some_iff.mp (R.fx q hq).2.1).1]; exact (R.fx q hq).2.1, (R.fx q hq).2.2⟩
theorem Step.adopt {φ1 φ : List Addr} {H1 H : Hp} {D : Addr} (s : Step φ1 H1 φ H) (h0 : H1 D = none) : Step φ1 H1 (φ ++ [D]) H :=
  ⟨fun r x h => by have := s.pre r x h; rw [List.getElem?_append_left (List.getElem?_eq_some_iff.mp this).1]; exact this, by have := s.len; simp; omega, s.kp,
    fun a q n e => ⟨fun z => (List.mem_append.mp z).elim (s.out a q n e).1 fun z => ne_of_none e h0 (by simpa using z), (s.out a q n e).2⟩⟩

/-! ### [e for tg in it if ..] -/
/-- a turn of a comprehension -/
def turnF (c : Ctx) (e : Ex) (own : List Nat) (tg : Tg) (ifs : List Ex) (ρ : Env) (x : PV) : M (Option PV) := do
  let ρ' ← asgT c (wipeE ρ own) tg x
  match ← evTs c ρ' ifs with
  | true => do return some (← evE c ρ' e)
  | false => return none
/-- a turn, by its parts -/
theorem turnF_ok {e : Ex} {own : List Nat} {t : Tg} {ifs : List Ex} {ρ : Env} {x : PV} {st t' : Sto} {r : Option PV} (h : turnF c e own t ifs ρ x st = .ok r t') :
    ∃ ρ' s1, asgT c (wipeE ρ own) t x st = .ok ρ' s1 ∧ ∃ b s2, evTs c ρ' ifs s1 = .ok b s2 ∧ ((b = true ∧ ∃ y, evE c ρ' e s2 = .ok y t' ∧ r = some y) ∨ (b = false ∧ r = none ∧ t' = s2)) := by
  unfold turnF at h
  obtain ⟨ρ', s1, h1, h⟩ := bind_inv h
  obtain ⟨b, s2, h2, h⟩ := bind_inv h
  refine ⟨ρ', s1, h1, b, s2, h2, ?_⟩
  cases b with
  | true =>
    obtain ⟨y, s3, h3, h⟩ := bind_inv h
    cases h
    exact .inl ⟨rfl, y, h3, rfl⟩
  | false => cases h; exact .inr ⟨rfl, rfl, rfl⟩
theorem turns_cons {f : PV → M (Option PV)} {x : PV} {xs ys : List PV} {st t : Sto} (h : turns f (x :: xs) st = .ok ys t) : ∃ r u zs, f x st = .ok r u ∧ turns f xs u = .ok zs t ∧ ys = (match r with | some v => [v] | none => []) ++ zs := by
  simp only [turns] at h
  obtain ⟨r, u, h1, h⟩ := bind_inv h
  obtain ⟨zs, s2, h2, h⟩ := bind_inv h
  cases h
  exact ⟨r, u, zs, h1, h2, by cases r <;> rfl⟩
theorem PostW.bindE {m : M Walk} {q : Walk → M PV} {st : Sto} {σ : L2.St} {φ : List Addr} {H : Hp} {Q : VK} (P : PostE L W σ φ H ((m >>= q) st) Q) :
    PostW L W σ φ H (m st) fun J H1 => ∃ φ1 t w, m st = .ok w t ∧ Step φ H φ1 H1 ∧ Rl L φ1 t H1 ∧ WJ L φ1 t H1 w J ∧ PostE L W σ φ1 H1 (q w t) Q := by
  cases e : m st with
  | stuck => rw [bind_stuck e] at P; exact P
  | exc x t => rw [bind_exc e] at P; exact P
  | ok w t =>
    rw [bind_ok e] at P
    exact fun φ1 H1 J S1 R1 J1 => ⟨φ1, t, w, rfl, S1, R1, J1, PostE.step P S1⟩
theorem PostW.imp {r : Res Walk} {σ : L2.St} {φ : List Addr} {H : Hp} {Q Q' : It → Hp → Prop} (P : PostW L W σ φ H r Q) (h : ∀ v H', Q v H' → Q' v H') : PostW L W σ φ H r Q' := by
  cases r with
  | ok x t => exact fun φ2 H2 v s2 R J => h _ _ (P φ2 H2 v s2 R J)
  | exc x t => exact P
  | stuck => exact P
/-- readings of a block, whatever is held -/
def exG (f : List (Nat × Addr × HO) → TG) : TG := fun v σ H Q => ∃ Y, f Y v σ H Q
def exT (f : List (Nat × Addr × HO) → TT) : TT := fun σ H Q => ∃ Y, f Y σ H Q
def exE (f : List (Nat × Addr × HO) → TE) : TE := fun σ H Q => ∃ Y, f Y σ H Q
theorem pg_ex {e : Expr} {f : List (Nat × Addr × HO) → TG} (h : ∀ Y, PG X e (f Y)) : PG X e (exG f) := ⟨fun pins s σ H v u Q I r ⟨Y, q⟩ => (h Y).run pins s σ H v u Q I r q⟩
theorem pts_ex {e : List Expr} {f : List (Nat × Addr × HO) → TT} (h : ∀ Y, PTs X e (f Y)) : PTs X e (exT f) := ⟨fun pins s σ H Q I ⟨Y, q⟩ => (h Y).run pins s σ H Q I q⟩
theorem pe_ex {e : Expr} {f : List (Nat × Addr × HO) → TE} (h : ∀ Y, PE X e (f Y)) : PE X e (exE f) := ⟨fun pins s σ H Q I ⟨Y, q⟩ => (h Y).run pins s σ H Q I q⟩
theorem lc_go (hp : ∀ f vs, Pres (c.fn f vs)) {e : Ex} {own : List Nat} (hban : ∀ i ∈ own, ∀ p ∈ L.sl, p.1 ≠ i) {t : Tg} {it : Itr} {ifs : List Ex} {σ : L2.St} {H : Hp} {Q : VK} (hown : ∀ j ∈ tgN t, j ∈ own) (h : tE L W (fun ρ => evE c ρ (.lc e (.mk own t it ifs))) σ H Q) :
    tLc (tI L W fun ρ => evIt c ρ it) (exG fun Y => tG (L.hold Y) (tgN t) fun ρ v => M.quiet (asgT c ρ t v)) (exT fun Y => tTs (L.hold Y) fun ρ => evTs c ρ ifs) (exE fun Y => tE (L.hold Y) WF fun ρ => evE c ρ e) own σ H Q := by
  obtain ⟨φ, ρ, st, R, E, P⟩ := h
  have P1 : PostE L W σ φ H (frame (evIt c ρ it >>= fun w => M.quiet (locked w.held (turns (turnF c e own t ifs ρ) w.items)) >>= fun xs => M.guard (xs.length ≤ lineN) >>= fun _ => alloc (.list xs)) st) Q := by simp only [evE] at P; exact P
  have hpt : ∀ x, Pres (turnF c e own t ifs ρ x) := fun x => Pres.bind (pres_asgT hp _ t x) fun ρ' => Pres.bind (pres_evTs hp ρ' ifs) fun k => by
    cases k
    · exact Pres.pure
    · exact Pres.bind (pres_evE hp ρ' e) fun _ => Pres.pure
  have P2 := frame_post (Pres.bind (pres_evIt hp ρ it) fun w => Pres.bind (Pres.quiet (Pres.locked (Pres.turns hpt _))) fun _ => Pres.bind Pres.guard fun _ => Pres.alloc) R P1
  refine ⟨φ, ρ, { st with low := st.objs.length }, R.setLow, E, (PostW.bindE P2).imp fun J H1 ⟨φ1, t1, w, ew, S1, R1, ⟨Y, hY, hR, hJ⟩, P3⟩ => ?_⟩
  intro D hD
  -- all turns
  cases er : turns (turnF c e own t ifs ρ) w.items { t1 with lk := w.held ++ t1.lk } with
  | exc y u =>
    have : M.quiet (locked w.held (turns (turnF c e own t ifs ρ) w.items)) t1 = .stuck := quiet_exc (x := y) (t := { u with lk := t1.lk }) (by unfold locked; rw [er])
    rw [bind_stuck this] at P3; exact (show False from P3).elim
  | stuck =>
    have : M.quiet (locked w.held (turns (turnF c e own t ifs ρ) w.items)) t1 = .stuck := quiet_stuck (by unfold locked; rw [er])
    rw [bind_stuck this] at P3; exact (show False from P3).elim
  | ok xs u =>
    have el : M.quiet (locked w.held (turns (turnF c e own t ifs ρ) w.items)) t1 = .ok xs { u with lk := t1.lk } := quiet_ok (by unfold locked; rw [er])
    rw [bind_ok el] at P3
    by_cases hlen : xs.length ≤ lineN
    · rw [guard_ok (by simpa using hlen)] at P3
      have Rstart := hR (w.held ++ t1.lk) (fun i hi => List.mem_append_right _ hi) (fun i hi => List.mem_append_left _ hi)
      have E1 := E.mono S1
      refine ⟨fun i m H2 => m = w.items.length - i ∧ i ≤ w.items.length ∧ ∃ φ2 t2 acc accV rest, Step φ1 H1 φ2 H2 ∧ Rl (L.hold Y) φ2 t2 H2 ∧ Le { t1 with lk := w.held ++ t1.lk } t2 ∧ D ∉ φ2 ∧ H2 D = some (.lst accV) ∧ VRs L φ2 H2 acc accV ∧
        turns (turnF c e own t ifs ρ) (w.items.drop i) t2 = .ok rest u ∧ acc ++ rest = xs, ⟨w.items.length, ?_⟩, ?_⟩
      · have nD : D ∉ φ1 := R1.fresh hD
        exact ⟨by simp, Nat.zero_le _, φ1, _, [], [], xs, Step.side hD, Rstart.side hD, Le.refl, nD, upd_same, rfl, by rw [List.drop_zero]; exact er, rfl⟩
      · rintro i m H2 ⟨rfl, hi, φ2, t2, acc, accV, rest, S2, R2, L2', nD, hDv, hacc, hrest, hxs⟩
        have held : ∀ r ∈ w.held, r < t1.objs.length → t2.objs[r]? = t1.objs[r]? := fun r hr hlt => L2'.at_ r hlt (.inr (List.mem_append_left _ hr))
        obtain ⟨hgo, hstop⟩ := hJ φ2 t2 H2 i S2.k R2 held
        by_cases hlt : i < w.items.length
        · refine .inr ⟨(hgo w.items[i] (List.getElem?_eq_getElem hlt)).1, fun H' => ∃ φ2 t2 acc accV rest, Step φ1 H1 φ2 H' ∧ Rl (L.hold Y) φ2 t2 H' ∧ Le { t1 with lk := w.held ++ t1.lk } t2 ∧ D ∉ φ2 ∧ H' D = some (.lst accV) ∧ VRs L φ2 H' acc accV ∧
            turns (turnF c e own t ifs ρ) (w.items.drop (i + 1)) t2 = .ok rest u ∧ acc ++ rest = xs, fun H' h => ⟨w.items.length - (i + 1), by omega, rfl, hlt, h⟩, fun v H' hy => ?_⟩
          obtain ⟨Sy, Ry, Vy⟩ := (hgo w.items[i] (List.getElem?_eq_getElem hlt)).2 v H' hy
          rw [List.drop_eq_getElem_cons hlt] at hrest
          obtain ⟨r, u1, zs, hf, hz, hr⟩ := turns_cons hrest
          have Lf : Le t2 u1 := by have := hpt w.items[i] t2; rw [hf] at this; exact this
          obtain ⟨ρ', s1, ha, b, s2, hb, hcase⟩ := turnF_ok hf
          have Ey : ER (L.hold Y) φ2 H' (wipeE ρ own) (L2.wipe σ own) := ER.hold.mpr (((E1.mono S2).mono Sy).wipe own hban)
          refine ⟨Y, φ2, wipeE ρ own, t2, w.items[i], Ry, Ey, (VR.hold _ _).mpr Vy, ?_⟩
          show PostG (L.hold Y) _ φ2 H' (tgN t) (M.quiet (asgT c (wipeE ρ own) t w.items[i]) t2) _
          rw [quiet_ok ha]
          intro φ3 H3 σ3 S3 R3 E3 O3
          refine ⟨wipe_only O3 hown, Y, φ3, ρ', s1, R3, E3, ?_⟩
          show (match evTs c ρ' ifs s1 with | .ok b t => ∀ φ' H', Step φ3 H3 φ' H' → Rl (L.hold Y) φ' t H' → _ | _ => False)
          rw [hb]
          intro φ4 H4 S4 R4
          have Sall : Step φ2 H2 φ4 H4 := (Sy.trans S3).trans S4
          rcases hcase with ⟨rfl, y, he, rfl⟩ | ⟨rfl, rfl, rfl⟩
          · rw [if_pos rfl]
            refine ⟨Y, φ4, ρ', s2, R4, E3.mono S4, ?_⟩
            show PostE (L.hold Y) WF σ3 φ4 H4 (evE c ρ' e s2) _
            rw [he]
            intro φ5 H5 v5 S5 R5 V5
            obtain ⟨nD5, hD5⟩ := (Sall.trans S5).out D _ nD hDv
            have hla : accV.length = acc.length := hacc.length
            have hx2 : acc.length < xs.length := by rw [← hxs, hr]; simp
            refine ⟨accV, hD5, by rw [hla]; exact Nat.lt_of_lt_of_le hx2 (Nat.le_trans hlen lineN_le), φ5, u1, acc ++ [y], accV ++ [v5], zs, (S2.trans (Sall.trans S5)).beside hD hD5 (by trivial), R5.beside nD5 hD5 (by trivial), L2'.trans Lf, nD5, upd_same, ?_, hz, by rw [← hxs, hr]; simp⟩
            have kp : Kept H5 (upd H5 D (.lst (accV ++ [v5]))) := Kept.put hD5 (by trivial)
            exact VRs.append (VRs.mono0 (fun _ _ h => h) kp _ _ (hacc.mono (Sall.trans S5))) (VRs.one (VR.mono0 (fun _ _ h => h) kp _ _ ((VR.hold _ _).mp V5)))
          · rw [if_neg Bool.false_ne_true]
            obtain ⟨nD4, hD4⟩ := Sall.out D _ nD hDv
            exact ⟨φ4, u1, acc, accV, zs, S2.trans Sall, R4, L2'.trans Lf, nD4, hD4, hacc.mono Sall, hz, by rw [← hxs, hr]; simp⟩
        · refine .inl ⟨hstop (Nat.le_of_not_lt hlt), ?_⟩
          rw [List.drop_eq_nil_of_le (Nat.le_of_not_lt hlt)] at hrest
          simp only [turns] at hrest
          cases hrest
          rw [List.append_nil] at hxs
          subst hxs
          have R3 : Rl L φ2 { u with lk := t1.lk } H2 := (R2.unhold hY).relk (fun i hi => (R1.fr i hi).1) fun p hp => (R1.fx p hp).1
          refine P3 (φ2 ++ [D]) H2 (.ref D) (S2.adopt hD) (R3.adopt nD ⟨accV, ?_, SqL.of hDv, by rw [hDv]; rfl, fun _ => hDv⟩) ⟨D, rfl, ?_⟩
          · exact VRs.mono0 (fun r x h => by rw [List.getElem?_append_left (List.getElem?_eq_some_iff.mp h).1]; exact h) Kept.refl _ _ hacc
          · show (φ2 ++ [D])[u.objs.length]? = some D
            rw [← R2.len]; simp
    · rw [guard_no (by simpa using hlen)] at P3; exact (show False from P3).elim
theorem bans_of (G : Good c k L S X) {own : List (Str × Nat)} (hban : (own.all fun p => !S.ban.contains p.2) = true) : ∀ i ∈ own.map (·.2), ∀ p ∈ L.sl, p.1 ≠ i := fun i hi => by
  obtain ⟨q, hq, rfl⟩ := List.mem_map.mp hi
  have := List.all_eq_true.mp hban q hq
  exact ban_of G (by simpa using this)
theorem lc_ok (G : Good c k L S X) (hc : S.cold = true) (hp : ∀ f vs, Pres (c.fn f vs)) {e : Ex} {own : List (Str × Nat)} {t : Tg} {it : Itr} {ifs : List Ex} {elt iter : Expr} {tests : List Expr} {scope : Scope} (hown : ∀ j ∈ tgN t, j ∈ own.map (·.2)) (hban : (own.all fun p => !S.ban.contains p.2) = true) (hs : notSet iter = true)
    (ok : BlkOk X.N X.env.scope scope own) (hi : PI X tg iter (tI L W fun ρ => evIt c ρ it))
    (hg : ∀ X' L', Good c k L' (S.blk scope) X' → PG X' tg (tG L' (tgN t) fun ρ v => M.quiet (asgT c ρ t v)))
    (ht : ∀ X' L', Good c k L' (S.blk scope) X' → PTs X' tests (tTs L' fun ρ => evTs c ρ ifs))
    (he : ∀ X' L', Good c k L' (S.blk scope) X' → PE X' elt (tE L' WF fun ρ => evE c ρ e)) :
    PE X (.ListComp elt [⟨tg, iter, tests, 0⟩] scope pos) (tE L W fun ρ => evE c ρ (.lc e (.mk (own.map (·.2)) t it ifs))) :=
  peI (pe_lc (G.calm hc).1 G.nd hi ok (fun s H C cl fp => pg_ex fun Y => hg _ _ ((G.hold Y).blk s H scope C cl fp)) (fun s H C cl fp => pts_ex fun Y => ht _ _ ((G.hold Y).blk s H scope C cl fp)) (fun s H C cl fp => pe_ex fun Y => he _ _ ((G.hold Y).blk s H scope C cl fp)) fun x => notFold_ok hs)
    fun σ H Q h => lc_go hp (bans_of G hban) hown h
end
end TL
end

section
set_option maxRecDepth 100000
set_option maxHeartbeats 1000000
set_option autoImplicit false
/-! TL: statements. -/
namespace TL
open PySem PySem.Spec PyProof.Rows L2
def PostS (L : Lk) (W : WX) (D : Ends) (φ : List Addr) (H : Hp) (r : SRes) : Prop := match r with
  | .fin .nx ρ' t => ∀ φ' H' σ', Step φ H φ' H' → Rl L φ' t H' → ER L φ' H' ρ' σ' → D.nx σ' H'
  | .fin (.rt x) ρ' t => ∀ φ' H' v, Step φ H φ' H' → Rl L φ' t H' → VR L φ' H' x v → D.rt v H'
  | .fin .bk ρ' t => ∀ φ' H' σ', Step φ H φ' H' → Rl L φ' t H' → ER L φ' H' ρ' σ' → D.bk σ' H'
  | .fin .ct ρ' t => ∀ φ' H' σ', Step φ H φ' H' → Rl L φ' t H' → ER L φ' H' ρ' σ' → D.ct σ' H'
  | .exc x ρ' t => ∀ φ' H' σ' c d, Step φ H φ' H' → Rl L φ' t H' → ER L φ' H' ρ' σ' → XR L φ' H' x c d → W c d σ' H'
  | .stuck => False
def tS (L : Lk) (W : WX) (m : Env → Sto → SRes) : TS := fun D σ H => ∃ φ ρ st, Rl L φ st H ∧ ER L φ H ρ σ ∧ PostS L W D φ H (m ρ st)
section
variable {c : Ctx} {k : Nat} {L : Lk} {S : Sk} {X : Cx} {W : WX} {pos : Pos} {a b d : Ex} {e1 e2 e3 : Expr} {tg : Expr} {D : Ends} {φ φ' : List Addr} {H H' : Hp} {st : Sto} {σ : L2.St} {ρ : Env}
theorem PostS.step {r : SRes} (P : PostS L W D φ H r) (s : Step φ H φ' H') : PostS L W D φ' H' r := by
  cases r with
  | fin f ρ t =>
    cases f with
    | nx => exact fun φ2 H2 v s2 => P φ2 H2 v (s.trans s2)
    | rt x => exact fun φ2 H2 v s2 => P φ2 H2 v (s.trans s2)
    | bk => exact fun φ2 H2 v s2 => P φ2 H2 v (s.trans s2)
    | ct => exact fun φ2 H2 v s2 => P φ2 H2 v (s.trans s2)
  | exc x ρ t => exact fun φ2 H2 σ2 c d s2 => P φ2 H2 σ2 c d (s.trans s2)
  | stuck => exact P
/-- a value first -/
theorem andThen_E {m : M PV} {q : PV → Sto → SRes} (E : ER L φ H ρ σ) (P : PostS L W D φ H (andThen ρ m q st)) : PostE L W σ φ H (m st) fun v H1 => ∃ φ1 t x, Step φ H φ1 H1 ∧ Rl L φ1 t H1 ∧ VR L φ1 H1 x v ∧ PostS L W D φ1 H1 (q x t) := by
  unfold andThen at P
  cases e : m st with
  | ok x t => rw [e] at P; exact fun φ1 H1 v S1 R1 V1 => ⟨φ1, t, x, S1, R1, V1, P.step S1⟩
  | exc x t => rw [e] at P; exact fun φ1 H1 cl d S1 R1 X1 => P φ1 H1 σ cl d S1 R1 (E.mono S1) X1
  | stuck => rw [e] at P; exact P
theorem andThen_A {α : Type} {m : M PV} {q' : PV → M α} {q : α → Sto → SRes} (E : ER L φ H ρ σ) (P : PostS L W D φ H (andThen ρ (m >>= q') q st)) : PostE L W σ φ H (m st) fun v H1 => ∃ φ1 t x, Step φ H φ1 H1 ∧ Rl L φ1 t H1 ∧ VR L φ1 H1 x v ∧ PostS L W D φ1 H1 (andThen ρ (q' x) q t) := by
  unfold andThen at P ⊢
  cases e : m st with
  | ok x t => rw [bind_ok e] at P; exact fun φ1 H1 v S1 R1 V1 => ⟨φ1, t, x, S1, R1, V1, P.step S1⟩
  | exc x t => rw [bind_exc e] at P; exact fun φ1 H1 cl d S1 R1 X1 => P φ1 H1 σ cl d S1 R1 (E.mono S1) X1
  | stuck => rw [bind_stuck e] at P; exact P

/-! ### small ones -/
theorem pass_ok : PS X (.Pass pos) (tS L W (exS c .pass)) := psI ps_pass fun D σ H h => by
  obtain ⟨φ, ρ, st, R, E, P⟩ := h
  simp only [exS] at P
  exact P φ H σ Step.refl R E
theorem brk_ok : PS X (.Break pos) (tS L W (exS c .brk)) := psI ps_break fun D σ H h => by
  obtain ⟨φ, ρ, st, R, E, P⟩ := h
  simp only [exS] at P
  exact P φ H σ Step.refl R E
theorem cnt_ok : PS X (.Continue pos) (tS L W (exS c .cnt)) := psI ps_continue fun D σ H h => by
  obtain ⟨φ, ρ, st, R, E, P⟩ := h
  simp only [exS] at P
  exact P φ H σ Step.refl R E
theorem retN_ok : PS X (.Return none pos) (tS L W (exS c .retN)) := psI ps_retN fun D σ H h => by
  obtain ⟨φ, ρ, st, R, E, P⟩ := h
  simp only [exS] at P
  exact P φ H .non Step.refl R rfl
theorem ret_ok (h : PE X e1 (tE L W fun ρ => evE c ρ a)) : PS X (.Return (some e1) pos) (tS L W (exS c (.ret a))) := psI (ps_ret h) fun D σ H h => by
  obtain ⟨φ, ρ, st, R, E, P⟩ := h
  simp only [exS] at P
  exact ⟨φ, ρ, st, R, E, (andThen_E E P).imp fun v H1 ⟨φ1, t, x, S1, R1, V1, P1⟩ => P1 φ1 H1 v Step.refl R1 V1⟩
def noComp : Expr → Bool
  | .ListComp .. | .SetComp .. | .DictComp .. => false
  | _ => true
theorem drop_ok {e : Expr} {l : Nat} {env : PySem.Env} (h : noComp e = true) : swapsWith e none l env = pure false := by
  cases e <;> first | rfl | cases h
theorem exp_ok (h : PE X e1 (tE L W fun ρ => evE c ρ a)) (hn : noComp e1 = true) : PS X (.Expr e1 pos) (tS L W (exS c (.exp a))) := psI (ps_expr h (drop_ok hn)) fun D σ H h => by
  obtain ⟨φ, ρ, st, R, E, P⟩ := h
  simp only [exS] at P
  exact ⟨φ, ρ, st, R, E, (andThen_E E P).imp fun v H1 ⟨φ1, t, x, S1, R1, V1, P1⟩ => P1 φ1 H1 σ Step.refl R1 (E.mono S1)⟩
theorem ssnil_ok : PSs X [] (tS L W (exSs c [])) := pssI pss_nil fun D σ H h => by
  obtain ⟨φ, ρ, st, R, E, P⟩ := h
  simp only [exSs] at P
  exact P φ H σ Step.refl R E
theorem sscons_ok {x : TL.St} {xs : List TL.St} {s : Stmt} {ss : List Stmt} (h1 : PS X s (tS L W (exS c x))) (h2 : PSs X ss (tS L W (exSs c xs))) : PSs X (s :: ss) (tS L W (exSs c (x :: xs))) := pssI (pss_cons h1 h2) fun D σ H h => by
  obtain ⟨φ, ρ, st, R, E, P⟩ := h
  simp only [exSs] at P
  refine ⟨φ, ρ, st, R, E, ?_⟩
  cases e : exS c x ρ st with
  | stuck => rw [e] at P; exact P
  | exc y ρ' t => rw [e] at P; exact P
  | fin f ρ' t =>
    rw [e] at P
    cases f with
    | nx => exact fun φ1 H1 σ1 S1 R1 E1 => ⟨φ1, ρ', t, R1, E1, P.step S1⟩
    | rt y => exact P
    | bk => exact P
    | ct => exact P
/-- a test, then one of two -/
theorem test_S {m : M PV} {q : Bool → Sto → SRes} (E : ER L φ H ρ σ) (R : Rl L φ st H) (P : PostS L W D φ H (andThen ρ (m >>= fun x => asB x) q st)) {f : Env → M PV} (hf : f ρ = m) :
    tB (tE L W f) σ H fun b H1 => ∃ φ1 t, Step φ H φ1 H1 ∧ Rl L φ1 t H1 ∧ PostS L W D φ1 H1 (q b t) := by
  refine ⟨φ, ρ, st, R, E, ?_⟩
  rw [hf]
  refine (andThen_A E P).imp fun v H1 ⟨φ1, t, x, S1, R1, V1, P1⟩ => ?_
  cases x with
  | bl b => exact ⟨b, V1, φ1, t, S1, R1, P1⟩
  | _ => exact (show False from P1).elim
theorem if_ok {x y : List TL.St} {xs ys : List Stmt} (h1 : Both X e1 (tE L W fun ρ => evE c ρ a)) (h2 : PSs X xs (tS L W (exSs c x))) (h3 : PSs X ys (tS L W (exSs c y))) : PS X (.If e1 xs ys pos) (tS L W (exS c (.ifs a x y))) :=
  psI (ps_if h1.2 h2 h3) fun D σ H h => by
    obtain ⟨φ, ρ, st, R, E, P⟩ := h
    simp only [exS] at P
    refine tE_imp (test_S E R P (f := fun ρ => evE c ρ a) rfl) fun v H1 ⟨b, e, φ1, t, S1, R1, P1⟩ => ⟨b, e, ?_⟩
    cases b with
    | true => exact ⟨φ1, ρ, t, R1, E.mono S1, P1⟩
    | false => exact ⟨φ1, ρ, t, R1, E.mono S1, P1⟩

/-! ### assignments -/
/-- no exchange of a comprehension with its target -/
def noSw (tg e : Expr) (sc : Scope) : Bool := match e with
  | .ListComp _ _ s p | .SetComp _ _ s p | .DictComp _ _ _ s p => match tg with
    | .Name x px => !(locB sc x && px.line == p.line && !(s.names.any fun (n, k) => n == x && (k == .local || k == .cell)))
    | _ => true
  | _ => true
theorem locB_eq {env : PySem.Env} {x : Str} : (env.kindOf x == some NameKind.local) = locB env.scope x := by
  show (env.scope.names.lookup x == some NameKind.local) = _
  unfold locB
  cases h : env.scope.names.lookup x with
  | none => rfl
  | some k => cases k <;> rfl
theorem noSw_ok {tg e : Expr} {l : Nat} {env : PySem.Env} (h : noSw tg e env.scope = true) : swapsWith e (some tg) l env = pure false := by
  have go : ∀ (s : Scope) (p : Pos) (x : Str) (px : Pos), (!(locB env.scope x && px.line == p.line && !(s.names.any fun (n, k) => n == x && (k == .local || k == .cell)))) = true →
      (env.blockKind == .function && env.kindOf x == some .local && px.line == p.line && !(s.names.any fun (n, k) => n == x && (k == .local || k == .cell))) = false := by
    intro s p x px h
    rw [locB_eq]
    simp only [Bool.not_eq_true'] at h
    cases env.blockKind == .function with
    | false => rfl
    | true => rw [Bool.true_and]; exact h
  cases e with
  | ListComp a1 a2 s p => cases tg <;> first | rfl | exact congrArg pure (go s p _ _ h)
  | SetComp a1 a2 s p => cases tg <;> first | rfl | exact congrArg pure (go s p _ _ h)
  | DictComp a1 a2 a3 s p => cases tg <;> first | rfl | exact congrArg pure (go s p _ _ h)
  | _ => rfl
/-- the stores stand in their order -/
def noSS (tg e : Expr) : Bool := match tg with
  | .Tuple ts _ _ => (match e with
    | .Tuple _ _ _ => ts.any fun t => match t with
      | .Name _ _ => false
      | _ => true
    | _ => true)
  | .List _ _ => false
  | _ => true
theorem noSS_ok {tg e : Expr} {env : PySem.Env} (h : noSS tg e = true) : swappedStores [tg] e env = pure none := by
  cases tg with
  | Tuple ts j p =>
    cases e with
    | Tuple vs j2 p2 =>
      have h' : (ts.any fun t => match t with | .Name _ _ => false | _ => true) = true := h
      have hn : ∀ (f : Expr → Option Str), (∀ t, (match t with | .Name _ _ => false | _ => true) = true → f t = none) → (ts.filterMap f).length ≠ ts.length := by
        intro f hf
        have le : ∀ l : List Expr, (l.filterMap f).length ≤ l.length := fun l => List.length_filterMap_le _ _
        obtain ⟨t, ht, hb⟩ := List.any_eq_true.mp h'
        have : ∀ l : List Expr, t ∈ l → (l.filterMap f).length < l.length := by
          intro l
          induction l with
          | nil => intro z; cases z
          | cons q l ih =>
            intro z
            rw [List.filterMap_cons]
            rcases List.mem_cons.mp z with rfl | z
            · rw [hf t hb]; exact Nat.lt_succ_of_le (le l)
            · cases f q with
              | none => exact Nat.lt_succ_of_lt (ih z)
              | some y => exact Nat.succ_lt_succ (ih z)
        exact Nat.ne_of_lt (this ts ht)
      unfold swappedStores
      dsimp only
      split
      · rfl
      · split
        · rfl
        · split
          · rfl
          · rename_i h3
            refine absurd ?_ h3
            rw [Bool.or_eq_true]
            exact .inl (bne_iff_ne.mpr (hn _ fun t ht => by cases t <;> first | rfl | cases ht))
    | _ => rfl
  | List ts p => cases h
  | _ => rfl
theorem asgE_one {env : PySem.Env} (h : noStar tg = true) : (assignEach [tg] env).map (·.2) = [assign tg env] := by
  cases tg <;> first | rfl | cases h
theorem asg_go {t : Tg} (h : tS L W (exS c (.set t a)) D σ H) : tAsg (tE L W fun ρ => evE c ρ a) (tG L (tgN t) fun ρ v => M.quiet (asgT c ρ t v)) D σ H := by
  obtain ⟨φ, ρ, st, R, E, P⟩ := h
  simp only [exS] at P
  refine ⟨φ, ρ, st, R, E, (andThen_A E P).imp fun v H1 ⟨φ1, t1, x, S1, R1, V1, P1⟩ => ⟨φ1, ρ, t1, x, R1, E.mono S1, V1, ?_⟩⟩
  unfold andThen at P1
  show PostG L σ φ1 H1 (tgN t) (M.quiet (asgT c ρ t x) t1) D.nx
  cases e : M.quiet (asgT c ρ t x) t1 with
  | ok ρ' t2 => rw [e] at P1; exact fun φ2 H2 σ2 S2 R2 E2 _ => P1 φ2 H2 σ2 S2 R2 E2
  | exc y t2 => exact absurd e (NoX.quiet t1 y t2)
  | stuck => rw [e] at P1; exact P1
theorem set_ok (G : Good c k L S X) {t : Tg} (h1 : PE X e1 (tE L W fun ρ => evE c ρ a)) (h2 : PG X tg (tG L (tgN t) fun ρ v => M.quiet (asgT c ρ t v))) (hs : noSw tg e1 S.sc = true) (hw : noSS tg e1 = true) (hst : noStar tg = true) :
    PS X (.Assign [tg] e1 pos) (tS L W (exS c (.set t a))) :=
  psI (ps_asg h1 h2 (noSw_ok (by rw [G.sc]; exact hs)) (noSS_ok hw) (asgE_one hst)) fun D σ H h => asg_go h
/-- name = [..] on one line -/
theorem setLc_ok (G : Good c k L S X) (hc : S.cold = true) (hp : ∀ f vs, Pres (c.fn f vs)) {i : Nat} {x : Str} {px : Pos} {e : Ex} {own : List (Str × Nat)} {t : Tg} {it : Itr} {ifs : List Ex} {elt iter : Expr} {tests : List Expr} {scope : Scope} {lpos : Pos} (hown : ∀ j ∈ tgN t, j ∈ own.map (·.2)) (hban : (own.all fun p => !S.ban.contains p.2) = true) (hbi : S.ban.contains i = false) (hs : notSet iter = true)
    (hN : S.N[i]? = some x) (hl : locB S.sc x = true) (hk : S.sc.kind = .function) (hline : (px.line == lpos.line) = true) (hno : (scope.names.any fun (n, k) => n == x && (k == .local || k == .cell)) = false)
    (ok : BlkOk X.N X.env.scope scope own) (hi : PI X tg iter (tI L W fun ρ => evIt c ρ it))
    (hg : ∀ X' L', Good c k L' (S.blk scope) X' → PG X' tg (tG L' (tgN t) fun ρ v => M.quiet (asgT c ρ t v)))
    (ht : ∀ X' L', Good c k L' (S.blk scope) X' → PTs X' tests (tTs L' fun ρ => evTs c ρ ifs))
    (he : ∀ X' L', Good c k L' (S.blk scope) X' → PE X' elt (tE L' WF fun ρ => evE c ρ e)) :
    PS X (.Assign [.Name x px] (.ListComp elt [⟨tg, iter, tests, 0⟩] scope lpos) pos) (tS L W (exS c (.set (.nm i) (.lc e (.mk (own.map (·.2)) t it ifs))))) := by
  have hl' : X.env.scope.names.lookup x = some .local := by
    rw [G.sc]
    unfold locB at hl
    split at hl
    · assumption
    · cases hl
  refine psI (ps_setLc (i := i) (G.calm hc).1 G.nd (by rw [G.hN]; exact hN) hl' (sw_true (by rw [G.sc]; exact hk) hl' hline hno) hi ok (fun s H C cl fp => pg_ex fun Y => hg _ _ ((G.hold Y).blk s H scope C cl fp)) (fun s H C cl fp => pts_ex fun Y => ht _ _ ((G.hold Y).blk s H scope C cl fp))
    (fun s H C cl fp => pe_ex fun Y => he _ _ ((G.hold Y).blk s H scope C cl fp)) fun x => notFold_ok hs) fun D σ H h => ?_
  have := asg_go h
  refine lc_go hp (bans_of G hban) hown (tE_imp this fun v H1 q => ?_)
  obtain ⟨φ, ρ, st, y, R, E, VV, P⟩ := q
  have P' : PostG L σ φ H1 [i] (M.quiet (setE ρ i y) st) D.nx := by simp only [asgT] at P; exact P
  unfold M.quiet setE at P'
  cases e : Nat.blt i ρ.length with
  | false => rw [e] at P'; exact (show False from P').elim
  | true =>
    rw [e] at P'
    exact P' φ H1 _ Step.refl R (E.set (ban_of G hbi) VV) OnlyN.set
/-! ### loops -/
theorem whl_go {x : List TL.St} (h : tS L W (exS c (.whl a x)) D σ H) : tWhile (tB (tE L W fun ρ => evE c ρ a)) (tS L W (exSs c x)) D σ H := by
  obtain ⟨φ, ρ, st, R, E, P⟩ := h
  simp only [exS] at P
  refine ⟨fun m σ H => ∃ φ ρ st, Rl L φ st H ∧ ER L φ H ρ σ ∧ PostS L W D φ H (whileTurns (fun ρ => evE c ρ a >>= fun v => asB v) (exSs c x) m ρ st), ⟨_, φ, ρ, st, R, E, P⟩, ?_⟩
  rintro m σ H ⟨φ, ρ, st, R, E, P⟩
  cases m with
  | zero => exact (show False from P).elim
  | succ n =>
    simp only [whileTurns] at P
    have P' : PostS L W D φ H (andThen ρ (evE c ρ a >>= fun v => asB v) (fun b t => match b with
      | true => (match exSs c x ρ t with
        | .fin .nx ρ' t' => whileTurns (fun ρ => evE c ρ a >>= fun v => asB v) (exSs c x) n ρ' t'
        | .fin .ct ρ' t' => whileTurns (fun ρ => evE c ρ a >>= fun v => asB v) (exSs c x) n ρ' t'
        | .fin .bk ρ' t' => .fin .nx ρ' t'
        | r => r)
      | false => .fin .nx ρ t) st) := by
      unfold andThen
      cases e : (evE c ρ a >>= fun v => asB v) st with
      | ok b t =>
        rw [e] at P
        cases b <;> exact P
      | exc y t => rw [e] at P; exact P
      | stuck => rw [e] at P; exact P
    refine tE_imp (test_S E R P' (f := fun ρ => evE c ρ a) rfl) fun v H1 ⟨b, e, φ1, t, S1, R1, P1⟩ => ⟨b, e, ?_⟩
    cases b with
    | false =>
      rw [if_neg Bool.false_ne_true]
      exact P1 φ1 H1 σ Step.refl R1 (E.mono S1)
    | true =>
      rw [if_pos rfl]
      dsimp only at P1
      refine ⟨fun σ H => ∃ φ ρ st, Rl L φ st H ∧ ER L φ H ρ σ ∧ PostS L W D φ H (whileTurns (fun ρ => evE c ρ a >>= fun v => asB v) (exSs c x) n ρ st), fun σ' H' q => ⟨n, Nat.lt_succ_self n, q⟩, φ1, ρ, t, R1, E.mono S1, ?_⟩
      cases e2 : exSs c x ρ t with
      | stuck => rw [e2] at P1; exact P1
      | exc y ρ' t' => rw [e2] at P1; exact P1
      | fin f ρ' t' =>
        rw [e2] at P1
        cases f with
        | nx => exact fun φ2 H2 σ2 S2 R2 E2 => ⟨φ2, ρ', t', R2, E2, P1.step S2⟩
        | ct => exact fun φ2 H2 σ2 S2 R2 E2 => ⟨φ2, ρ', t', R2, E2, P1.step S2⟩
        | bk => exact P1
        | rt y => exact P1
theorem whl_ok {x : List TL.St} {xs : List Stmt} (hp : PassesOwn (model X.prog X.w) X.A X.env X.xe) (h1 : Both X e1 (tE L W fun ρ => evE c ρ a)) (h2 : PSs X xs (tS L W (exSs c x))) : PS X (.While e1 xs [] pos) (tS L W (exS c (.whl a x))) :=
  psI (ps_while hp h1.2 h2) fun D σ H h => whl_go h
/-- a walk first -/
theorem andThen_W {m : M Walk} {q : Walk → Sto → SRes} (E : ER L φ H ρ σ) (P : PostS L W D φ H (andThen ρ m q st)) : PostW L W σ φ H (m st) fun J H1 => ∃ φ1 t w, m st = .ok w t ∧ Step φ H φ1 H1 ∧ Rl L φ1 t H1 ∧ WJ L φ1 t H1 w J ∧ PostS L W D φ1 H1 (q w t) := by
  unfold andThen at P
  cases e : m st with
  | ok w t => rw [e] at P; exact fun φ1 H1 J S1 R1 J1 => ⟨φ1, t, w, rfl, S1, R1, J1, P.step S1⟩
  | exc x t => rw [e] at P; exact fun φ1 H1 cl d S1 R1 X1 => P φ1 H1 σ cl d S1 R1 (E.mono S1) X1
  | stuck => rw [e] at P; exact P
def exS' (f : List (Nat × Addr × HO) → TS) : TS := fun D σ H => ∃ Y, f Y D σ H
theorem pss_ex {e : List Stmt} {f : List (Nat × Addr × HO) → TS} (h : ∀ Y, PSs X e (f Y)) : PSs X e (exS' f) := ⟨fun pins s σ H D I ⟨Y, q⟩ => (h Y).run pins s σ H D I q⟩
/-- a turn of a for -/
def turnS (c : Ctx) (t : Tg) (x : List TL.St) : PV → Env → Sto → SRes := fun v ρ st => andThen ρ (M.quiet (asgT c ρ t v)) (fun ρ' u => exSs c x ρ' u) st
theorem PostS.hold {Y : List (Nat × Addr × HO)} (hY : ∀ p ∈ L.dy, p ∈ Y) {r : SRes} (P : PostS L W D φ H r) : PostS (L.hold Y) W D φ H r := by
  cases r with
  | fin f ρ t =>
    cases f with
    | nx => exact fun φ2 H2 σ2 s2 R2 E2 => P φ2 H2 σ2 s2 (R2.unhold hY) (ER.hold.mp E2)
    | rt x => exact fun φ2 H2 v s2 R2 V2 => P φ2 H2 v s2 (R2.unhold hY) ((VR.hold _ _).mp V2)
    | bk => exact fun φ2 H2 σ2 s2 R2 E2 => P φ2 H2 σ2 s2 (R2.unhold hY) (ER.hold.mp E2)
    | ct => exact fun φ2 H2 σ2 s2 R2 E2 => P φ2 H2 σ2 s2 (R2.unhold hY) (ER.hold.mp E2)
  | exc x ρ t => exact fun φ2 H2 σ2 cl d s2 R2 E2 X2 => P φ2 H2 σ2 cl d s2 (R2.unhold hY) (ER.hold.mp E2) (XR.hold.mp X2)
  | stuck => exact P
/-- what is wanted behind the locks is wanted within -/
theorem PostS.unlock {lk : List Nat} (h1 : ∀ i ∈ L.F, i ∈ lk) (h2 : ∀ p ∈ L.dy, p.1 ∈ lk) {r : SRes} (P : PostS L W D φ H (TL.unlock lk r)) : PostS L W D φ H r := by
  cases r with
  | fin f ρ t =>
    cases f with
    | nx => exact fun φ2 H2 σ2 s2 R2 E2 => P φ2 H2 σ2 s2 (R2.relk h1 h2) E2
    | rt x => exact fun φ2 H2 v s2 R2 V2 => P φ2 H2 v s2 (R2.relk h1 h2) V2
    | bk => exact fun φ2 H2 σ2 s2 R2 E2 => P φ2 H2 σ2 s2 (R2.relk h1 h2) E2
    | ct => exact fun φ2 H2 σ2 s2 R2 E2 => P φ2 H2 σ2 s2 (R2.relk h1 h2) E2
  | exc x ρ t => exact fun φ2 H2 σ2 cl d s2 R2 E2 X2 => P φ2 H2 σ2 cl d s2 (R2.relk h1 h2) E2 X2
  | stuck => exact P
theorem fors_go (hp : ∀ f vs, Pres (c.fn f vs)) {t : Tg} {it : Itr} {x : List TL.St} (h : tS L W (exS c (.fors t it x)) D σ H) :
    tFor (tI L W fun ρ => evIt c ρ it) (exG fun Y => tG (L.hold Y) (tgN t) fun ρ v => M.quiet (asgT c ρ t v)) (exS' fun Y => tS (L.hold Y) W (exSs c x)) D σ H := by
  obtain ⟨φ, ρ, st, R, E, P⟩ := h
  simp only [exS] at P
  refine ⟨φ, ρ, st, R, E, (andThen_W E P).imp fun J H1 ⟨φ1, t1, w, ew, S1, R1, ⟨Y, hY, hR, hJ⟩, P1⟩ => ?_⟩
  have P2 : PostS L W D φ1 H1 (forTurns (turnS c t x) w.items ρ { t1 with lk := w.held ++ t1.lk }) := PostS.unlock (fun i hi => (R1.fr i hi).1) (fun p hp => (R1.fx p hp).1) P1
  have Rstart := hR (w.held ++ t1.lk) (fun i hi => List.mem_append_right _ hi) (fun i hi => List.mem_append_left _ hi)
  refine ⟨fun i m σ2 H2 => m = w.items.length - i ∧ i ≤ w.items.length ∧ ∃ φ2 t2 ρ2, Step φ1 H1 φ2 H2 ∧ Rl (L.hold Y) φ2 t2 H2 ∧ Le { t1 with lk := w.held ++ t1.lk } t2 ∧ ER L φ2 H2 ρ2 σ2 ∧
    PostS L W D φ2 H2 (forTurns (turnS c t x) (w.items.drop i) ρ2 t2), ⟨w.items.length, by simp, Nat.zero_le _, φ1, _, ρ, Step.refl, Rstart, Le.refl, E.mono S1, by rw [List.drop_zero]; exact P2⟩, ?_⟩
  rintro i m σ2 H2 ⟨rfl, hi, φ2, t2, ρ2, S2, R2, L2', E2, P3⟩
  have held : ∀ r ∈ w.held, r < t1.objs.length → t2.objs[r]? = t1.objs[r]? := fun r hr hlt => L2'.at_ r hlt (.inr (List.mem_append_left _ hr))
  obtain ⟨hgo, hstop⟩ := hJ φ2 t2 H2 i S2.k R2 held
  by_cases hlt : i < w.items.length
  · refine .inr ⟨(hgo w.items[i] (List.getElem?_eq_getElem hlt)).1, fun σ' H' => ∃ φ2 t2 ρ2, Step φ1 H1 φ2 H' ∧ Rl (L.hold Y) φ2 t2 H' ∧ Le { t1 with lk := w.held ++ t1.lk } t2 ∧ ER L φ2 H' ρ2 σ' ∧
      PostS L W D φ2 H' (forTurns (turnS c t x) (w.items.drop (i + 1)) ρ2 t2), fun σ' H' q => ⟨w.items.length - (i + 1), by omega, rfl, hlt, q⟩, fun v H' hy => ?_⟩
    obtain ⟨Sy, Ry, Vy⟩ := (hgo w.items[i] (List.getElem?_eq_getElem hlt)).2 v H' hy
    rw [List.drop_eq_getElem_cons hlt] at P3
    simp only [forTurns] at P3
    refine ⟨Y, φ2, ρ2, t2, w.items[i], Ry, ER.hold.mpr (E2.mono Sy), (VR.hold _ _).mpr Vy, ?_⟩
    show PostG (L.hold Y) σ2 φ2 H' (tgN t) (M.quiet (asgT c ρ2 t w.items[i]) t2) _
    have hpa := (Pres.quiet (pres_asgT hp ρ2 t w.items[i])) t2
    cases ea : M.quiet (asgT c ρ2 t w.items[i]) t2 with
    | exc y u => exact absurd ea (NoX.quiet t2 y u)
    | stuck =>
      have : turnS c t x w.items[i] ρ2 t2 = .stuck := by unfold turnS andThen; rw [ea]
      rw [this] at P3; exact P3
    | ok ρ' u =>
      rw [ea] at hpa
      have et : turnS c t x w.items[i] ρ2 t2 = exSs c x ρ' u := by unfold turnS andThen; rw [ea]
      rw [et] at P3
      intro φ3 H3 σ3 S3 R3 E3 _
      have hpb := leR_exSs hp x ρ' u
      refine ⟨Y, φ3, ρ', u, R3, E3, ?_⟩
      have S23 : Step φ2 H2 φ3 H3 := Sy.trans S3
      cases eb : exSs c x ρ' u with
      | stuck => rw [eb] at P3; exact P3
      | exc y ρ3 u3 => rw [eb] at P3; exact (PostS.hold hY P3).step S23
      | fin f ρ3 u3 =>
        rw [eb] at P3 hpb
        cases f with
        | nx => exact fun φ4 H4 σ4 S4 R4 E4 => ⟨φ4, u3, ρ3, S2.trans (S23.trans S4), R4, (L2'.trans hpa).trans hpb, ER.hold.mp E4, P3.step (S23.trans S4)⟩
        | ct => exact fun φ4 H4 σ4 S4 R4 E4 => ⟨φ4, u3, ρ3, S2.trans (S23.trans S4), R4, (L2'.trans hpa).trans hpb, ER.hold.mp E4, P3.step (S23.trans S4)⟩
        | bk => exact fun φ4 H4 σ4 S4 R4 E4 => (P3.step (S23.trans S4)) φ4 H4 σ4 Step.refl (R4.unhold hY) (ER.hold.mp E4)
        | rt y => exact fun φ4 H4 v4 S4 R4 V4 => (P3.step (S23.trans S4)) φ4 H4 v4 Step.refl (R4.unhold hY) ((VR.hold _ _).mp V4)
  · refine .inl ⟨hstop (Nat.le_of_not_lt hlt), ?_⟩
    rw [List.drop_eq_nil_of_le (Nat.le_of_not_lt hlt)] at P3
    simp only [forTurns] at P3
    exact P3 φ2 H2 σ2 Step.refl (R2.unhold hY) E2
theorem fors_ok (G : Good c k L S X) (hc : S.cold = true) (hp : ∀ f vs, Pres (c.fn f vs)) (hpo : PassesOwn (model X.prog X.w) X.A X.env X.xe) {t : Tg} {it : Itr} {x : List TL.St} {xs : List Stmt} {iter : Expr} (hi : PI X tg iter (tI L W fun ρ => evIt c ρ it)) (hs : notSet iter = true)
    (hg : ∀ L', Good c k L' S X → PG X tg (tG L' (tgN t) fun ρ v => M.quiet (asgT c ρ t v))) (hb : ∀ L', Good c k L' S X → PSs X xs (tS L' W (exSs c x))) : PS X (.For tg iter xs [] pos) (tS L W (exS c (.fors t it x))) :=
  psI (ps_for hpo (G.calm hc).1 hi (pg_ex fun Y => hg _ (G.hold Y)) (pss_ex fun Y => hb _ (G.hold Y)) fun x => notFold_ok hs) fun D σ H h => fors_go hp h
/-! ### name op= e -/
theorem nox_augV (o : BOp) (x y : PV) : NoX (augV o x y) := by
  unfold augV
  split
  · split <;> first | exact nox_binop _ _ _ | exact NoX.stop
  · exact NoX.stop
theorem ip_full (o : BOp) : PIp X (opS o) (rV2 L (augV o)) := by
  intro pins s σ H x y v u Q I rx ry h
  obtain ⟨φ, st, p, q, R, hp, hq, P⟩ := h
  cases p with
  | int i =>
    cases q with
    | int j =>
      obtain rfl : x = .int i := hp
      obtain rfl : y = .int j := hq
      have done : ∀ {o : BOp} {n : Int}, arith o i j = some n → PostE L (fun _ _ _ _ => False) [] φ H (binop o (.int i) (.int j) st) Q → Q (.int n) H := fun {o n} e P => by
        have P' : PostE L (fun _ _ _ _ => False) [] φ H ((M.opt (arith o i j) >>= fun k => pure (.int k)) st) Q := P
        rw [opt_bind e] at P'
        exact int_post P' R
      obtain ⟨t, rfl⟩ := rx
      obtain ⟨t', rfl⟩ := ry
      cases o with
      | add => exact iadd_int ⟨.int (i + j), H, I.tok _, ⟨_, rfl⟩, done (o := .add) rfl P⟩
      | sub => exact isub_int ⟨.int (i - j), H, I.tok _, ⟨_, rfl⟩, done (o := .sub) rfl P⟩
      | mul =>
        by_cases hm : i.natAbs.log2 + j.natAbs.log2 < 1000000
        · have e : arith .mul i j = some (i * j) := by simp only [arith]; rw [if_pos hm]
          exact imul_int ⟨.int (i * j), H, I.tok _, ⟨_, rfl⟩, done (o := .mul) e P⟩ (CMulW.ok (show CMulW i j from hm))
        · have P' : PostE L (fun _ _ _ _ => False) [] φ H ((M.opt (arith .mul i j) >>= fun k => pure (.int k)) st) Q := P
          rw [opt_none (by simp only [arith]; rw [if_neg hm])] at P'
          exact (show False from P').elim
      | _ => exact (show False from P).elim
    | _ => exact (show False from P).elim
  | _ => cases q <;> exact (show False from P).elim
theorem aug_ok (G : Good c k L S X) {i : Nat} {x : Str} {p : Pos} {o : BOp} (hN : S.N[i]? = some x) (hs : stoB S x = true) (hb : S.ban.contains i = false) (h : PE X e1 (tE L W fun ρ => evE c ρ a)) : PS X (.AugAssign (.Name x p) (opS o) e1 pos) (tS L W (exS c (.aug i o a))) := by
  obtain ⟨h1, h2⟩ := sto_of G hs
  refine psI (ps_aug (i := i) G.nd (by rw [G.hN]; exact hN) h1 h (ip_full (L := L) o) h2) fun D σ H h => ?_
  obtain ⟨φ, ρ, st, R, E, P⟩ := h
  simp only [exS] at P
  cases er : ρ[i]? with
  | none => rw [er] at P; exact (show False from P).elim
  | some oo =>
    cases oo with
    | none => rw [er] at P; exact (show False from P).elim
    | some y =>
      rw [er] at P
      obtain ⟨v, hv, hy⟩ := E.at_ i y er
      have P' : PostS L W D φ H (andThen ρ (evE c ρ a >>= fun z => augV o y z >>= fun w => setE ρ i w) (fun ρ' t => .fin .nx ρ' t) st) := P
      refine ⟨v, hv, φ, ρ, st, R, E, (andThen_A E P').imp fun w H1 ⟨φ1, t1, z, S1, R1, V1, P1⟩ => ?_⟩
      refine ⟨φ1, t1, y, z, R1, hy.mono S1, V1, postE_nox (W := W) (σ := σ) (fun xx tt => nox_augV o y z t1 xx tt) ((andThen_A (E.mono S1) P1).imp fun q H2 ⟨φ2, t2, r, S2, R2, V2, P2⟩ => ?_)⟩
      unfold andThen setE at P2
      cases eb : Nat.blt i ρ.length with
      | false => rw [eb] at P2; exact (show False from P2).elim
      | true =>
        rw [eb] at P2
        exact P2 φ2 H2 _ Step.refl R2 (((E.mono S1).mono S2).set (ban_of G hb) V2)
end
end TL
end

section
set_option maxRecDepth 100000
set_option maxHeartbeats 1000000
set_option autoImplicit false
/-! TL: built-ins. -/
namespace TL
open PySem PySem.Spec PyProof.Rows L2
section
variable {c : Ctx} {k : Nat} {L : Lk} {S : Sk} {X : Cx} {W : WX} {pos : Pos} {a b d : Ex} {e1 e2 e3 : Expr}
/-- a built-in's promise by values -/
def rB (L : Lk) (c : Ctx) (b : BI) : List V → Hp → VK → Prop := fun vs H Q => ∃ φ st xs, Rl L φ st H ∧ VRs L φ H xs vs ∧ PostE L (fun _ _ _ _ => False) [] φ H (builtin c b xs st) Q
theorem nox_sort : True := trivial
theorem VRs1 {φ : List Addr} {H : Hp} {xs : List PV} {v : V} (h : VRs L φ H xs [v]) : ∃ x, xs = [x] ∧ VR L φ H x v := by
  cases xs with
  | nil => cases (show [v] = [] from h)
  | cons x xs =>
    obtain ⟨w, r, e, h1, h2⟩ := (show ∃ w r, [v] = w :: r ∧ VR L φ H x w ∧ VRs L φ H xs r from h)
    cases e
    cases xs with
    | nil => exact ⟨x, rfl, h1⟩
    | cons y ys =>
      obtain ⟨w, r, e, _⟩ := (show ∃ w r, [] = w :: r ∧ VR L φ H y w ∧ VRs L φ H ys r from h2)
      cases e
/-- what is one value: the list of values by the list of trees' values -/
theorem VRs.one_of {φ : List Addr} {H : Hp} {x : PV} {vs : List V} (h : VRs L φ H [x] vs) : ∃ v, vs = [v] ∧ VR L φ H x v := by
  obtain ⟨v, r, rfl, h1, h2⟩ := (show ∃ v r, vs = v :: r ∧ VR L φ H x v ∧ VRs L φ H [] r from h)
  obtain rfl : r = [] := h2
  exact ⟨v, rfl, h1⟩
theorem VRs.two_of {φ : List Addr} {H : Hp} {x y : PV} {vs : List V} (h : VRs L φ H [x, y] vs) : ∃ v w, vs = [v, w] ∧ VR L φ H x v ∧ VR L φ H y w := by
  obtain ⟨v, r, rfl, h1, h2⟩ := (show ∃ v r, vs = v :: r ∧ VR L φ H x v ∧ VRs L φ H [y] r from h)
  obtain ⟨w, rfl, h3⟩ := VRs.one_of h2
  exact ⟨v, w, rfl, h1, h3⟩
/-- a list's items -/
theorem lst_post {α : Type} {x : PV} {v : L2.V} {q : List PV → M α} {st : Sto} {φ : List Addr} {H : Hp} (R : Rl L φ st H) (VV : VR L φ H x v) (h : (lstOf x >>= q) st ≠ .stuck) :
    ∃ xs vs a r, (lstOf x >>= q) st = q xs st ∧ x = .ref r ∧ st.objs[r]? = some (.list xs) ∧ v = .ref a ∧ φ[r]? = some a ∧ SqL L.K H a vs ∧ VRs L φ H xs vs := by
  cases x with
  | ref r =>
    obtain ⟨a, rfl, ha⟩ := (show ∃ a : Addr, v = .ref a ∧ φ[r]? = some a from VV)
    cases e : st.objs[r]? with
    | none =>
      have : lstOf (.ref r) st = .stuck := getOb_no e
      exact absurd (bind_stuck this) h
    | some ob =>
      cases ob with
      | list xs =>
        obtain ⟨a2, vs, i1, i2, i3, i4, i5⟩ := R.lst e
        rw [ha] at i1; cases i1
        have : lstOf (.ref r) st = .ok xs st := getOb_bind e
        exact ⟨xs, vs, a, r, bind_ok this, rfl, e, rfl, ha, i3, i2⟩
      | _ =>
        have : lstOf (.ref r) st = .stuck := by show (getOb r >>= _) st = _; rw [getOb_bind e]; rfl
        exact absurd (bind_stuck this) h
  | _ => exact absurd rfl h
theorem PostE.alive {r : Res PV} {σ : L2.St} {φ : List Addr} {H : Hp} {Q : VK} (P : PostE L W σ φ H r Q) : r ≠ .stuck := fun e => by rw [e] at P; exact P

/-! ### len -/
theorem bi_len (G : Good c k L S X) (hc : S.cold = true) : CallR X (.builtin "len") (rB L c .len) := by
  intro pins s σ H vs us Q I r h
  obtain ⟨φ, st, xs, R, hv, P⟩ := h
  match xs, hv, P with
  | [x], hv, P =>
    obtain ⟨v, rfl, VV⟩ := hv.one_of
    have P' : PostE L (fun _ _ _ _ => False) [] φ H (lenV c x st) Q := P
    cases x with
    | tup ys =>
      obtain ⟨a, ws, rfl, ha, hw⟩ := (show ∃ (a : Addr) (vs : List V), v = .ref a ∧ SqT L.K H a vs ∧ VRs L φ H ys vs from VV)
      exact call_len pins s σ H _ us Q I r ⟨_, ws.length, rfl, .inr ⟨ws, by rw [G.hK]; exact ha, rfl⟩, by rw [hw.length]; exact PostE.ret (x := .int ys.length) P' R rfl⟩
    | str z =>
      obtain rfl : v = .str ⟨z.toArray⟩ := VV
      have P2 : PostE L (fun _ _ _ _ => False) [] φ H ((M.guard (z.length ≤ lineN) >>= fun _ => M.ret (.int z.length)) st) Q := P'
      by_cases hl : z.length ≤ lineN
      · rw [guard_ok (by simpa using hl)] at P2
        have e : (Str.mk z.toArray).length = z.length := by show z.toArray.size = _; simp
        exact call_len pins s σ H _ us Q I r ⟨_, z.length, rfl, ⟨by rw [e]; exact Nat.le_trans hl lineN_le, e.symm⟩, PostE.ret (x := .int z.length) P2 R rfl⟩
      · rw [guard_no (by simpa using hl)] at P2; exact (show False from P2).elim
    | ref q =>
      obtain ⟨a, rfl, ha⟩ := (show ∃ a : Addr, v = .ref a ∧ φ[q]? = some a from VV)
      cases e : st.objs[q]? with
      | none =>
        have : lenV c (.ref q) st = .stuck := getOb_no e
        rw [this] at P'; exact (show False from P').elim
      | some ob =>
        cases ob with
        | list ys =>
          have em : lenV c (.ref q) st = .ok (.int ys.length) st := getOb_bind e
          rw [em] at P'
          obtain ⟨a2, ws, i1, i2, i3, i4, i5⟩ := R.lst e
          rw [ha] at i1; cases i1
          exact call_len pins s σ H _ us Q I r ⟨_, ws.length, rfl, .inl ⟨ws, by rw [G.hK]; exact i3, rfl⟩, by rw [i2.length]; exact P'.ret R rfl⟩
        | dict kvs =>
          have em : lenV c (.ref q) st = .ok (.int kvs.length) st := getOb_bind e
          rw [em] at P'
          obtain ⟨a2, o, i1, i2, i3, i4, i5⟩ := R.dic e
          rw [ha] at i1; cases i1
          obtain ⟨u, rfl, rx⟩ := vals1 r
          cases rx
          obtain ⟨es, ep, ks, j1, j2, j3, j4⟩ := i5.walk
          have hn : es.size = kvs.length := by rw [j2, j3.length]; simp
          have hr : s.heap.DictRaw a es ep := ⟨o, dO_get I i2, i4, j1⟩
          have hlen := i5.1
          refine PyProof.Rows.call_len_slot (n := kvs.length) hr.typeIs F.slot_dict_len (fun Q' hq => call_len_raw i3 hr (by rw [hn]; exact hq)) (by omega) (by simp only [lineN] at hlen; omega) ?_
          exact ⟨.int kvs.length, H, I.tok _, ⟨_, rfl⟩, P'.ret R rfl⟩
        | set ys =>
          have em : lenV c (.ref q) st = .ok (.int ys.length) st := getOb_bind e
          rw [em] at P'
          obtain ⟨a2, ea, ho⟩ := R.get e
          rw [ha] at ea; cases ea
          obtain ⟨u, rfl, rx⟩ := vals1 r
          cases rx
          obtain ⟨o, es, ep, t, g1, g2, g3, g7, g6, g8⟩ := (show SetS L H a ys from ho).obj G.hP G.hW I
          refine call_len_set g1 g2 g3 g7 (by simp only [scanBound] at g6; omega) ?_
          rw [g8]
          exact ⟨.int ys.length, H, I.tok _, ⟨_, rfl⟩, P'.ret R rfl⟩
        | inst cl fs =>
          have em : lenV c (.ref q) st = _ := getOb_bind e
          rw [em] at P'
          obtain ⟨a2, dx, gs, i1, i2, i3, im⟩ := R.ins e
          rw [ha] at i1; cases i1
          have P2 := PostE.bind P'
          cases hf : lookM c.meths cl nLen with
          | none =>
            have : runQ c q cl nLen [] st = .stuck := by unfold runQ runM; rw [hf]; rfl
            rw [this] at P2; exact (show False from P2).elim
          | some f =>
            have MM := G.meth cl nLen f hf
            rw [G.nms.1] at MM
            obtain ⟨mA, J, _⟩ := ins_get I.hok i2
            obtain ⟨od, J, _⟩ := J.look
            obtain ⟨m, hF⟩ := I.fr
            obtain ⟨u, rfl, rx⟩ := vals1 r
            cases rx
            refine PySem.W.len_K hF I.ok.mod.kin J MM.at_ MM.fn ?_
            refine thn (special_run G (G.calm hc).2.in1 rfl (by decide) hf I R ha (show VRs L φ H [] [] from rfl) .nil P2) fun w s' hw => ?_
            obtain ⟨z, H', I', rz, φ1, t, y, S1, R1, V1, P3⟩ := hw
            cases y with
            | int i =>
              obtain rfl : z = .int i := V1
              obtain ⟨tk, rfl⟩ := rz
              dsimp only at P3
              by_cases hl : (0 ≤ i && i < 4611686018427387904 : Bool) = true
              · rw [guard_ok hl] at P3
                simp only [Bool.and_eq_true, decide_eq_true_eq] at hl
                exact ⟨⟨hl.1, by omega⟩, .int i, H', I'.tok _, ⟨_, rfl⟩, PostE.ret (x := .int i) P3 R1 rfl⟩
              · rw [guard_no (by simpa using hl)] at P3; exact (show False from P3).elim
            | _ => exact (show False from P3).elim
    | _ => exact (show False from P').elim
  | [], hv, P => exact (show False from P).elim
  | _ :: _ :: _, hv, P => exact (show False from P).elim
theorem nox_lenV (x : PV) : NoX (lenV c x) := by
  unfold lenV
  split
  · exact NoX.pure
  · exact NoX.bind NoX.guard fun _ => NoX.pure
  · refine NoX.bind NoX.getOb fun o => ?_
    cases o with
    | inst cl fs =>
      refine NoX.bind NoX.quiet fun w => ?_
      cases w with
      | int i => exact NoX.bind NoX.guard fun _ => NoX.pure
      | _ => exact NoX.stop
    | _ => exact NoX.pure
  · exact NoX.stop
theorem nox_lstOf (x : PV) : NoX (lstOf x) := by
  unfold lstOf
  split
  · refine NoX.bind NoX.getOb fun o => ?_
    cases o <;> first | exact NoX.pure | exact NoX.stop
  · exact NoX.stop
theorem nox_seqOf (x : PV) : NoX (seqOf x) := by
  unfold seqOf
  split
  · exact NoX.pure
  · exact NoX.pure
  · refine NoX.bind NoX.getOb fun o => ?_
    cases o <;> first | exact NoX.pure | exact NoX.stop
  · exact NoX.stop
theorem nox_seqT (x : PV) : NoX (seqT x) := by
  unfold seqT
  split
  · exact NoX.pure
  · refine NoX.bind NoX.getOb fun o => ?_
    cases o <;> first | exact NoX.pure | exact NoX.stop
  · exact NoX.stop
theorem nox_builtin (b : BI) (vs : List PV) : NoX (builtin c b vs) := by
  have s := nox_seqOf
  have sl := nox_lstOf
  have sT := nox_seqT
  unfold builtin
  repeat (first
    | exact sT _ | exact NoX.ret | exact NoX.pure | exact NoX.stop | exact NoX.opt | exact NoX.guard | exact NoX.freeOb | exact NoX.getOb | exact NoX.alloc | exact nox_lenV _ | exact NoX.quiet | exact s _ | exact sl _
    | (refine NoX.bind ?_ fun _ => ?_) | split)
/-- a built-in function's or type's name, called -/
theorem bi_ok (G : Good c k L S X) (hp : ∀ f vs, Pres (c.fn f vs)) {x : Str} {p : Pos} {f : Value} {b : BI} {es : List Ex} {e : Expr} {xs : List Expr} (hf : (∃ id, f = .builtin id) ∨ ∃ T, f = .type T) (hx : S.gl x = some .blt) (hg : glB S.sc x = true) (hpn : plainNm x = true) (hv : bootBuiltins x = some f)
    (hr : CallR X f (rB L c b)) (ha : PA X (e :: xs) (tA L W fun ρ => evEs c ρ es)) (hst : (e :: xs).all noStar = true) : PE X (.Call (.Name x p) (e :: xs) [] pos) (tE L W fun ρ => evE c ρ (.bi b es)) := by
  have go : ∀ σ H Q, tE L W (fun ρ => evE c ρ (.bi b es)) σ H Q → tCB (rB L c b) (tA L W fun ρ => evEs c ρ es) σ H Q := fun σ H Q h => by
    obtain ⟨φ, ρ, st, R, E, P⟩ := h
    have P1 : PostE L W σ φ H (frame (evEs c ρ es >>= fun vs => builtin c b vs) st) Q := by simp only [evE] at P; exact P
    have P2 := frame_post (Pres.bind (pres_evEs hp ρ es) fun _ => pres_builtin hp _ _) R P1
    refine tA_then (m := fun vs _ => builtin c b vs) ⟨φ, ρ, { st with low := st.objs.length }, R.setLow, E, P2⟩ fun vs H1 q => ?_
    obtain ⟨φ1, ρ1, t, ys, R1, E1, V1, P3⟩ := q
    exact ⟨φ1, t, ys, R1, V1, postE_nox (fun xx tt => nox_builtin b ys t xx tt) P3⟩
  rw [List.all_cons, Bool.and_eq_true] at hst
  rcases hf with ⟨id, rfl⟩ | ⟨T, rfl⟩
  · exact peI (pe_callB hr (gl_of G hg) (G.gblt x hx) hv ha (plainNm_3 hpn) (plainNm_1 hpn) (star_ok hst.1) (noStars hst.2)) go
  · exact peI (pe_callTy hr (gl_of G hg) (G.gblt x hx) hv ha (plainNm_3 hpn) (plainNm_1 hpn) (star_ok hst.1) (noStars hst.2)) go

/-! ### all, any, sum -/
theorem bools_of {φ : List Addr} {H : Hp} : ∀ {xs : List PV} {vs : List L2.V} {p b : Bool}, boolsB p xs = some b → VRs L φ H xs vs → ∃ bs : List Bool, vs = bs.map L2.V.bl ∧ (p = true → b = bs.all id) ∧ (p = false → b = bs.any id)
  | [], vs, p, b, e, h => by
    cases e
    obtain rfl : vs = [] := h
    exact ⟨[], rfl, fun h => h, fun h => h⟩
  | x :: xs, vs, p, b, e, h => by
    obtain ⟨v, r, rfl, h1, h2⟩ := (show ∃ v r, vs = v :: r ∧ VR L φ H x v ∧ VRs L φ H xs r from h)
    cases x with
    | bl q =>
      obtain rfl : v = .bl q := h1
      simp only [boolsB] at e
      by_cases hq : q = p
      · rw [if_pos hq] at e
        obtain ⟨bs, rfl, g1, g2⟩ := bools_of e h2
        refine ⟨q :: bs, rfl, fun hp => ?_, fun hp => ?_⟩
        · rw [g1 hp, hq, hp]; rfl
        · rw [g2 hp, hq, hp]; rfl
      · rw [if_neg hq] at e
        cases e2 : boolsB p xs with
        | none => rw [e2] at e; cases e
        | some b' =>
          rw [e2] at e
          cases e
          obtain ⟨bs, rfl, g1, g2⟩ := bools_of e2 h2
          refine ⟨b :: bs, rfl, fun hp => ?_, fun hp => ?_⟩
          · rw [hp] at hq
            have : b = false := by cases b; rfl; exact absurd rfl hq
            rw [this]; rfl
          · rw [hp] at hq
            have : b = true := by cases b; exact absurd rfl hq; rfl
            rw [this]; rfl
    | _ => simp [boolsB] at e
theorem bi_all (G : Good c k L S X) (hc : S.cold = true) : CallR X (.builtin "all") (rB L c .all) := by
  intro pins s σ H vs us Q I r h
  obtain ⟨φ, st, xs, R, hv, P⟩ := h
  match xs, hv, P with
  | [x], hv, P =>
    obtain ⟨v, rfl, VV⟩ := hv.one_of
    have P' : PostE L (fun _ _ _ _ => False) [] φ H ((lstOf x >>= fun l => M.opt (boolsB true l) >>= fun b => M.ret (.bl b)) st) Q := P
    obtain ⟨l, ws, a, q, e, rfl, eo, rfl, ha, hs, hw⟩ := lst_post R VV P'.alive
    rw [e] at P'
    cases eb : boolsB true l with
    | none => rw [opt_none eb] at P'; exact (show False from P').elim
    | some b =>
      rw [opt_bind eb] at P'
      obtain ⟨bs, rfl, g1, _⟩ := bools_of eb hw
      exact cr_all (G.calm hc).1 pins s σ H _ us Q I r ⟨a, bs, rfl, by rw [G.hK]; exact hs, by rw [← g1 rfl]; exact PostE.ret (x := .bl b) P' R rfl⟩
  | [], hv, P => exact (show False from P).elim
  | _ :: _ :: _, hv, P => exact (show False from P).elim
theorem bi_any (G : Good c k L S X) (hc : S.cold = true) : CallR X (.builtin "any") (rB L c .any) := by
  intro pins s σ H vs us Q I r h
  obtain ⟨φ, st, xs, R, hv, P⟩ := h
  match xs, hv, P with
  | [x], hv, P =>
    obtain ⟨v, rfl, VV⟩ := hv.one_of
    have P' : PostE L (fun _ _ _ _ => False) [] φ H ((lstOf x >>= fun l => M.opt (boolsB false l) >>= fun b => M.ret (.bl b)) st) Q := P
    obtain ⟨l, ws, a, q, e, rfl, eo, rfl, ha, hs, hw⟩ := lst_post R VV P'.alive
    rw [e] at P'
    cases eb : boolsB false l with
    | none => rw [opt_none eb] at P'; exact (show False from P').elim
    | some b =>
      rw [opt_bind eb] at P'
      obtain ⟨bs, rfl, _, g1⟩ := bools_of eb hw
      exact cr_any (G.calm hc).1 pins s σ H _ us Q I r ⟨a, bs, rfl, by rw [G.hK]; exact hs, by rw [← g1 rfl]; exact PostE.ret (x := .bl b) P' R rfl⟩
  | [], hv, P => exact (show False from P).elim
  | _ :: _ :: _, hv, P => exact (show False from P).elim
theorem sumI_of {φ : List Addr} {H : Hp} : ∀ {xs : List PV} {vs : List L2.V} {n : Int}, sumI xs = some n → VRs L φ H xs vs → ∃ ns : List Int, vs = ns.map L2.V.int ∧ n = ns.sum
  | [], vs, n, e, h => by
    cases e
    obtain rfl : vs = [] := h
    exact ⟨[], rfl, rfl⟩
  | x :: xs, vs, n, e, h => by
    obtain ⟨v, r, rfl, h1, h2⟩ := (show ∃ v r, vs = v :: r ∧ VR L φ H x v ∧ VRs L φ H xs r from h)
    cases x with
    | int i =>
      obtain rfl : v = .int i := h1
      simp only [sumI] at e
      cases e2 : sumI xs with
      | none => rw [e2] at e; cases e
      | some m =>
        rw [e2] at e
        cases e
        obtain ⟨ns, rfl, rfl⟩ := sumI_of e2 h2
        exact ⟨i :: ns, rfl, by simp⟩
    | _ => simp [sumI] at e
theorem bi_sum (G : Good c k L S X) (hc : S.cold = true) : CallR X (.builtin "sum") (rB L c .sum) := by
  intro pins s σ H vs us Q I r h
  obtain ⟨φ, st, xs, R, hv, P⟩ := h
  match xs, hv, P with
  | [x], hv, P =>
    obtain ⟨v, rfl, VV⟩ := hv.one_of
    have P' : PostE L (fun _ _ _ _ => False) [] φ H ((lstOf x >>= fun l => M.opt (sumI l) >>= fun b => M.ret (.int b)) st) Q := P
    obtain ⟨l, ws, a, q, e, rfl, eo, rfl, ha, hs, hw⟩ := lst_post R VV P'.alive
    rw [e] at P'
    cases eb : sumI l with
    | none => rw [opt_none eb] at P'; exact (show False from P').elim
    | some b =>
      rw [opt_bind eb] at P'
      obtain ⟨ns, rfl, rfl⟩ := sumI_of eb hw
      exact cr_sum (G.calm hc).1 pins s σ H _ us Q I r ⟨a, ns, rfl, by rw [G.hK]; exact hs, PostE.ret (x := .int ns.sum) P' R rfl⟩
  | [], hv, P => exact (show False from P).elim
  | _ :: _ :: _, hv, P => exact (show False from P).elim
theorem bi_abs : CallR X (.builtin "abs") (rB L c .abs) := by
  intro pins s σ H vs us Q I r h
  obtain ⟨φ, st, xs, R, hv, P⟩ := h
  match xs, hv, P with
  | [.int i], hv, P =>
    obtain ⟨v, rfl, VV⟩ := hv.one_of
    obtain rfl : v = .int i := VV
    exact call_abs pins s σ H _ us Q I r ⟨i, rfl, PostE.ret (x := .int (if i < 0 then -i else i)) P R rfl⟩
  | [], hv, P => exact (show False from P).elim
  | .non :: _, hv, P => exact (show False from P).elim
  | .bl _ :: _, hv, P => exact (show False from P).elim
  | .str _ :: _, hv, P => exact (show False from P).elim
  | .tup _ :: _, hv, P => exact (show False from P).elim
  | .ref _ :: _, hv, P => exact (show False from P).elim
  | .int _ :: _ :: _, hv, P => exact (show False from P).elim
/-- sorted of an empty list -/
theorem bi_sorted (G : Good c k L S X) : CallR X (.builtin "sorted") (rB L c .sorted) := by
  intro pins s σ H vs us Q I r h
  obtain ⟨φ, st, xs, R, hv, P⟩ := h
  match xs, hv, P with
  | [x], hv, P =>
    obtain ⟨v, rfl, VV⟩ := hv.one_of
    have P' : PostE L (fun _ _ _ _ => False) [] φ H ((lstOf x >>= fun l => match l with | [] => alloc (.list []) | _ => M.stop) st) Q := P
    obtain ⟨l, ws, a, q, e, rfl, eo, rfl, ha, hs, hw⟩ := lst_post R VV P'.alive
    rw [e] at P'
    cases l with
    | nil =>
      obtain rfl : ws = [] := hw
      refine cr_sorted pins s σ H _ us Q I r ⟨a, [], rfl, by rw [G.hK]; exact hs, by decide, fun ns' p hp _ hn => ?_⟩
      have : ns' = [] := List.Perm.eq_nil hp
      subst this
      exact PostE.list P' R rfl hn
    | cons y ys => exact (show False from P').elim
  | [], hv, P => exact (show False from P).elim
  | _ :: _ :: _, hv, P => exact (show False from P).elim
theorem bi_tuple (G : Good c k L S X) : CallR X (.type "tuple") (rB L c .tuple) := by
  intro pins s σ H vs us Q I r h
  obtain ⟨φ, st, xs, R, hv, P⟩ := h
  match xs, hv, P with
  | [x], hv, P =>
    obtain ⟨v, rfl, VV⟩ := hv.one_of
    by_cases ht : ∃ ys, x = .tup ys
    · obtain ⟨ys, rfl⟩ := ht
      obtain ⟨a, ws, rfl, ha, hw⟩ := (show ∃ (a : Addr) (vs : List L2.V), v = .ref a ∧ SqT L.K H a vs ∧ VRs L φ H ys vs from VV)
      exact call_tuple_of pins s σ H _ us Q I r ⟨a, ws, rfl, .inr ⟨by rw [G.hK]; exact ha, PostE.ret (x := .tup ys) P R VV⟩⟩
    · have P' : PostE L (fun _ _ _ _ => False) [] φ H ((lstOf x >>= fun l => M.ret (.tup l)) st) Q := by
        cases x <;> first | exact P | exact absurd ⟨_, rfl⟩ ht
      obtain ⟨l, ws, a, q, e, rfl, eo, rfl, ha, hs, hw⟩ := lst_post R VV P'.alive
      rw [e] at P'
      exact call_tuple_of pins s σ H _ us Q I r ⟨a, ws, rfl, .inl ⟨by rw [G.hK]; exact hs, fun p hp => PostE.tup P' R hw hp⟩⟩
  | [], hv, P => exact (show False from P).elim
  | _ :: _ :: _, hv, P => exact (show False from P).elim
theorem bi_list (G : Good c k L S X) (hc : S.cold = true) : CallR X (.type "list") (rB L c .list) := by
  intro pins s σ H vs us Q I r h
  obtain ⟨φ, st, xs, R, hv, P⟩ := h
  match xs, hv, P with
  | [x], hv, P =>
    obtain ⟨v, rfl, VV⟩ := hv.one_of
    cases x with
    | tup ys =>
      obtain ⟨a, ws, rfl, ha, hw⟩ := (show ∃ (a : Addr) (vs : List L2.V), v = .ref a ∧ SqT L.K H a vs ∧ VRs L φ H ys vs from VV)
      have P' : PostE L (fun _ _ _ _ => False) [] φ H (alloc (.list ys) st) Q := P
      exact call_list_of pins s σ H _ us Q I r ⟨a, ws, rfl, .inr (by rw [G.hK]; exact ha), fun p hp => PostE.list P' R hw hp⟩
    | ref q =>
      obtain ⟨a, rfl, ha⟩ := (show ∃ a : Addr, v = .ref a ∧ φ[q]? = some a from VV)
      have P' : PostE L (fun _ _ _ _ => False) [] φ H ((seqOf (.ref q) >>= fun l => alloc (.list l)) st) Q := P
      cases e : st.objs[q]? with
      | none =>
        have : seqOf (.ref q) st = .stuck := getOb_no e
        rw [bind_stuck this] at P'; exact (show False from P').elim
      | some ob =>
        cases ob with
        | list ys =>
          have : seqOf (.ref q) st = .ok ys st := getOb_bind e
          rw [bind_ok this] at P'
          obtain ⟨a2, ws, i1, i2, i3, i4, i5⟩ := R.lst e
          rw [ha] at i1; cases i1
          exact call_list_of pins s σ H _ us Q I r ⟨a, ws, rfl, .inl (by rw [G.hK]; exact i3), fun p hp => PostE.list P' R i2 hp⟩
        | dict kvs =>
          have : seqOf (.ref q) st = .ok (kvs.map (·.1)) st := getOb_bind e
          rw [bind_ok this] at P'
          obtain ⟨a2, o, i1, i2, i3, i4, i5⟩ := R.dic e
          rw [ha] at i1; cases i1
          obtain ⟨u, rfl, rx⟩ := vals1 r
          cases rx
          obtain ⟨es, ep, ks, j1, j2, j3, j4⟩ := i5.walk
          have hn : es.size = kvs.length := by rw [j2, j3.length]; simp
          have hr : s.heap.DictRaw a es ep := ⟨o, dO_get I i2, i4, j1⟩
          have hle : es.size ≤ sizeLine := by rw [hn]; exact Nat.le_trans i5.1 lineN_le
          refine PySem.W.kdl_call (PySem.KdlSrc.rawDict (es := es) (ep := ep) i3) (I.ok.hd (G.calm hc).1) hr hle fun h' tk acc c' hk hD hacc => ?_
          have hvals : Vals ks acc.toList := keys_vals j2 j4 hacc
          refine ⟨.ref s.heap.objs.size, upd H s.heap.objs.size (.lst ks), I.laid (t' := tk) hk (Nat.le_refl _) ⟨by rw [← j2]; exact hle, acc.toList, c', hvals, by simpa using hD⟩, rfl, PostE.list P' R j3 (I.hok.fresh (Nat.le_refl _))⟩
        | _ =>
          have : seqOf (.ref q) st = .stuck := by show (getOb q >>= _) st = _; rw [getOb_bind e]; rfl
          rw [bind_stuck this] at P'; exact (show False from P').elim
    | _ => exact (show False from P).elim
  | [], hv, P => exact (show False from P).elim
  | _ :: _ :: _, hv, P => exact (show False from P).elim
end
end TL
end

section
set_option maxRecDepth 100000
set_option maxHeartbeats 1000000
set_option autoImplicit false
/-! TL: isinstance. -/
namespace TL
open PySem PySem.Spec PyProof.Rows L2
section
variable {c : Ctx} {k : Nat} {L : Lk} {S : Sk} {X : Cx} {W : WX} {pos : Pos} {a b d : Ex} {e1 e2 e3 : Expr}
/-- a value's type, as a value of the model -/
def tyF (L : Lk) (objs : List Ob) : PV → Option Value
  | .non => some (.type "NoneType")
  | .bl _ => some (.type "bool")
  | .int _ => some (.type "int")
  | .str _ => some (.type "str")
  | .tup _ => some (.type "tuple")
  | .ref r => match objs[r]? with
    | some (.list _) => some (.type "list")
    | some (.dict _) => some (.type "dict")
    | some (.set _) => some (.type "set")
    | some (.inst i _) => some (.ref (L.cl i))
    | none => none
theorem kit_any (G : Good c k L S X) {pins : List (Addr × Obj)} {s : Shared} {σ : L2.St} {H : Hp} {φ : List Addr} {st : Sto} {x : PV} {v : L2.V} {u t : Value} (I : Inv X pins σ H s) (R : Rl L φ st H) (VV : VR L φ H x v) (rx : L2.RelV v u) (et : tyF L st.objs x = some t) :
    ∃ P : Heap → Prop, PySem.W.KitX X.K u t P ∧ P s.heap ∧ u ≠ .builtin "__main__.__loader__#opaque" := by
  cases x with
  | non => obtain rfl : v = .non := VV; cases et; cases rx; exact ⟨_, PySem.W.kitx_none, True.intro, fun z => nomatch z⟩
  | bl q => obtain rfl : v = .bl q := VV; cases et; cases rx; exact ⟨_, PySem.W.kitx_bool, True.intro, fun z => nomatch z⟩
  | int i => obtain rfl : v = .int i := VV; cases et; obtain ⟨tk, rfl⟩ := rx; exact ⟨_, PySem.W.kitx_int, True.intro, fun z => nomatch z⟩
  | str z => obtain rfl : v = .str ⟨z.toArray⟩ := VV; cases et; obtain ⟨tk, rfl⟩ := rx; exact ⟨_, PySem.W.kitx_str, True.intro, fun z => nomatch z⟩
  | tup xs =>
    obtain ⟨p, ws, rfl, ha, hw⟩ := (show ∃ (a : Addr) (vs : List L2.V), v = .ref a ∧ SqT L.K H a vs ∧ VRs L φ H xs vs from VV)
    cases et; cases rx
    obtain ⟨its, rv, ⟨o, g1, g2, _⟩, _⟩ := I.tuple (by rw [G.hK]; exact ha)
    exact ⟨_, PySem.W.kitx_tuple, ⟨o, g1, g2⟩, fun z => nomatch z⟩
  | ref r =>
    obtain ⟨p, rfl, ha⟩ := (show ∃ a : Addr, v = .ref a ∧ φ[r]? = some a from VV)
    cases rx
    simp only [tyF] at et
    cases e : st.objs[r]? with
    | none => rw [e] at et; cases et
    | some ob =>
      rw [e] at et
      cases ob with
      | list xs =>
        cases et
        obtain ⟨a2, ws, i1, i2, i3, i4, i5⟩ := R.lst e
        rw [ha] at i1; cases i1
        obtain ⟨its, rv, ⟨o, n, g1, g2, _⟩, _⟩ := I.list (by rw [G.hK]; exact i3)
        exact ⟨_, PySem.W.kitx_list, ⟨o, g1, g2⟩, fun z => nomatch z⟩
      | dict kvs =>
        cases et
        obtain ⟨a2, o, i1, i2, i3, i4, i5⟩ := R.dic e
        rw [ha] at i1; cases i1
        exact ⟨_, PySem.W.kitx_dict, ⟨o, dO_get I i2, i4.1⟩, fun z => nomatch z⟩
      | set xs =>
        cases et
        obtain ⟨a2, ea, ho⟩ := R.get e
        rw [ha] at ea; cases ea
        obtain ⟨o, es, ep, tt, g1, g2, _⟩ := (show SetS L H p xs from ho).obj G.hP G.hW I
        exact ⟨_, PySem.W.kitx_set, ⟨o, g1, g2.1⟩, fun z => nomatch z⟩
      | inst i fs =>
        cases et
        obtain ⟨a2, dx, gs, i1, i2, i3, im⟩ := R.ins e
        rw [ha] at i1; cases i1
        obtain ⟨mA, O, _⟩ := ins_get I.hok i2
        obtain ⟨od, J, _⟩ := O.look
        exact ⟨_, PySem.W.kitx_own ((G.cls i im).get _) (G.cls i im).hd (G.isK i im).1 G.isG.1 G.isG.2 (G.isK i im).2, J, fun z => nomatch z⟩
/-- the class that a name tells -/
def tyC (L : Lk) : Ty → Value
  | .tint => .type "int"
  | .tbool => .type "bool"
  | .tstr => .type "str"
  | .tlist => .type "list"
  | .ttuple => .type "tuple"
  | .tcls j => .ref (L.cl j)
theorem kit_answer (G : Good c k L S X) {φ : List Addr} {st : Sto} {H : Hp} (R : Rl L φ st H) {x : PV} {ty : Ty} {q : Bool} (hj : ∀ j, ty = .tcls j → j ∈ L.cs) (e : isTy st.objs x ty = some q) : ∃ t, tyF L st.objs x = some t ∧ PySem.W.kitOne X.K t (tyC L ty) = some q := by
  have bb : ∀ {n m : String} {r : Bool}, kitB n m = some r → PySem.W.kitOne X.K (.type n) (.type m) = some r := fun h => kit_ty h
  cases x with
  | ref r =>
    have hn : st.objs[r]? ≠ none := fun z => by
      cases ty <;> (simp only [isTy, z] at e; cases e)
    cases eo : st.objs[r]? with
    | none => exact absurd eo hn
    | some ob =>
      cases ob with
      | list xs =>
        refine ⟨.type "list", by simp only [tyF, eo], ?_⟩
        cases ty <;> (simp only [isTy, eo] at e; cases e)
        all_goals first | exact bb (by decide +kernel) | exact G.isC _ (hj _ rfl) _ (by decide)
      | dict kvs =>
        refine ⟨.type "dict", by simp only [tyF, eo], ?_⟩
        cases ty <;> (simp only [isTy, eo] at e; cases e)
        all_goals first | exact bb (by decide +kernel) | exact G.isC _ (hj _ rfl) _ (by decide)
      | set xs =>
        refine ⟨.type "set", by simp only [tyF, eo], ?_⟩
        cases ty <;> (simp only [isTy, eo] at e; cases e)
        all_goals first | exact bb (by decide +kernel) | exact G.isC _ (hj _ rfl) _ (by decide)
      | inst i fs =>
        obtain ⟨a2, dx, gs, i1, i2, i3, im⟩ := R.ins eo
        refine ⟨.ref (L.cl i), by simp only [tyF, eo], ?_⟩
        cases ty with
        | tcls j => simp only [isTy, eo] at e; cases e; exact G.isO i im j (hj j rfl)
        | _ => simp only [isTy, eo] at e; cases e; exact G.isB i im _ (by decide)
  | _ =>
    cases ty <;> (simp only [isTy] at e; cases e)
    all_goals first
      | exact ⟨_, rfl, bb (by decide +kernel)⟩
      | exact ⟨_, rfl, G.isC _ (hj _ rfl) _ (by decide)⟩
/-- isinstance(e, T) -/
theorem isi_ok (G : Good c k L S X) {p : Pos} {ty : Ty} {w : L2.V} {e2 : Expr} (hx : S.gl "isinstance" = some .blt) (hg : glB S.sc "isinstance" = true) (h1 : PE X e1 (tE L W fun ρ => evE c ρ a)) (h2 : PE X e2 (tC w)) (hw : ∀ u, L2.RelV w u → u = tyC L ty) (hj : ∀ j, ty = .tcls j → j ∈ L.cs) (hs1 : noStar e1 = true) (hs2 : noStar e2 = true) :
    PE X (.Call (.Name "isinstance" p) [e1, e2] [] pos) (tE L W fun ρ => evE c ρ (.isi a [ty])) := by
  have cr : CallR X (.builtin "isinstance") (fun vs H Q => ∃ φ st x v, Rl L φ st H ∧ VR L φ H x v ∧ vs = [v, w] ∧ PostE L (fun _ _ _ _ => False) [] φ H ((M.opt (isTys st.objs x [ty]) >>= fun q => M.ret (.bl q)) st) Q) := by
    intro pins s σ H vs us Q I r h
    obtain ⟨φ, st, x, v, R, VV, rfl, P⟩ := h
    obtain ⟨u1, u2, rfl, r1, r2⟩ := vals2 r
    have hu2 : u2 = tyC L ty := hw u2 r2
    subst hu2
    cases eb : isTys st.objs x [ty] with
    | none => rw [opt_none eb] at P; exact (show False from P).elim
    | some q =>
      rw [opt_bind eb] at P
      have e1 : isTy st.objs x ty = some q := by
        simp only [isTys] at eb
        cases e2 : isTy st.objs x ty with
        | none => rw [e2] at eb; cases eb
        | some r => rw [e2] at eb; cases r <;> (cases eb; rfl)
      obtain ⟨t, et, ek⟩ := kit_answer G R hj e1
      obtain ⟨PP, Z, p, hne⟩ := kit_any G I R VV r1 et
      exact PySem.W.kia_one Z I.kIn p ek hne fun tk => ⟨.bl q, H, I.tok tk, rfl, PostE.ret (x := .bl q) P R rfl⟩
  refine peI (pe_callB cr (gl_of G hg) (G.gblt _ hx) PyProof.Rows.Boot.«isinstance» (pa_cons h1 (pa_cons h2 pa_nil (star_ok hs2)) (star_ok hs1)) (by decide) (by decide) (star_ok hs1) (noStars (by rw [List.all_cons, hs2]; rfl))) fun σ H Q h => ?_
  obtain ⟨φ, ρ, st, R, E, P⟩ := h
  have P' : PostE L W σ φ H ((evE c ρ a >>= fun x => objsM >>= fun os => M.opt (isTys os x [ty]) >>= fun q => M.ret (.bl q)) st) Q := by simp only [evE] at P; exact P
  refine ⟨φ, ρ, st, R, E, (PostE.bind P').imp fun v H1 ⟨φ1, t, x, S1, R1, V1, P1⟩ => ?_⟩
  have P2 : PostE L W σ φ1 H1 ((M.opt (isTys t.objs x [ty]) >>= fun q => M.ret (.bl q)) t) Q := P1
  exact ⟨φ1, t, x, v, R1, V1, rfl, postE_nox (fun xx tt => NoX.bind (m := M.opt (isTys t.objs x [ty])) NoX.opt (fun _ => NoX.ret) t xx tt) P2⟩
end
end TL
end

section
set_option maxRecDepth 100000
set_option maxHeartbeats 1000000
set_option autoImplicit false
/-! TL: methods of lists. -/
namespace TL
open PySem PySem.Spec PyProof.Rows L2
section
variable {c : Ctx} {k : Nat} {L : Lk} {S : Sk} {X : Cx} {W : WX} {pos : Pos} {a b d : Ex} {e1 e2 e3 : Expr}
def rBM (L : Lk) (m : BM) : L2.V → List L2.V → Hp → VK → Prop := fun x xs H Q => ∃ φ st px ps, Rl L φ st H ∧ VR L φ H px x ∧ VRs L φ H ps xs ∧ PostE L (fun _ _ _ _ => False) [] φ H (methB m px ps st) Q
theorem nox_methB (m : BM) (o : PV) (vs : List PV) : NoX (methB m o vs) := by
  have s := nox_seqOf
  unfold methB
  repeat (first
    | exact NoX.ret | exact NoX.pure | exact NoX.stop | exact NoX.opt | exact NoX.guard | exact NoX.freeOb | exact NoX.getOb | exact NoX.putOb | exact NoX.alloc | exact NoX.objsM | exact s _
    | (refine NoX.bind ?_ fun _ => ?_) | split)
/-- a method that wants a list ahead of it -/
def listM : BM → Bool
  | .append | .pop | .remove | .clear | .reverse | .insert => true
  | _ => false
theorem recv_list {m : BM} (hm : listM m = true) {x : PV} {v : L2.V} {q : Unit → M PV} {st : Sto} {φ : List Addr} {H : Hp} (R : Rl L φ st H) (VV : VR L φ H x v) (h : (recvB m x >>= q) st ≠ .stuck) :
    (recvB m x >>= q) st = q () st ∧ ∃ xs vs a r, x = .ref r ∧ st.objs[r]? = some (.list xs) ∧ v = .ref a ∧ φ[r]? = some a ∧ SqL L.K H a vs ∧ VRs L φ H xs vs := by
  cases x with
  | ref r =>
    obtain ⟨a, rfl, ha⟩ := (show ∃ a : Addr, v = .ref a ∧ φ[r]? = some a from VV)
    have em : recvB m (.ref r) st = (getOb r >>= fun o => match o with | .list _ => M.ret () | _ => M.stop) st := by
      cases m <;> first | rfl | cases hm
    cases e : st.objs[r]? with
    | none =>
      rw [getOb_no e] at em
      exact absurd (bind_stuck em) h
    | some ob =>
      rw [getOb_bind e] at em
      cases ob with
      | list xs =>
        obtain ⟨a2, vs, i1, i2, i3, i4, i5⟩ := R.lst e
        rw [ha] at i1; cases i1
        exact ⟨bind_ok em, xs, vs, a, r, rfl, e, rfl, ha, i3, i2⟩
      | _ => exact absurd (bind_stuck em) h
  | _ => cases m <;> first | exact absurd rfl h | cases hm
theorem few_ok {xs : List Expr} {env : PySem.Env} {cpos : Pos} (hst : xs.all noStar = true) (h30 : xs.length < 30) :
    ((backTo cpos (starEach xs env)).all (fun x => !x.1) && (backToKw cpos (keywordEach [] env)).all (fun x => x.1.isSome) && decide (xs.length + ([] : List Keyword).length + (if ([] : List Keyword).isEmpty then 0 else 1) < 30)) = true := by
  have h1 : (backTo cpos (starEach xs env)).all (fun x => !x.1) = true := by
    have := noStars (env := env) (pos := cpos) hst
    rw [List.any_eq_false] at this
    rw [List.all_eq_true]
    intro p hp
    have := this p hp
    simpa using this
  rw [h1]
  show (true && true && decide (xs.length + 0 + 0 < 30)) = true
  simpa using h30
/-- l.m(e, ..) -/
theorem bml_ok (G : Good c k L S X) {m : BM} {name : Str} {id : String} (hm : listM m = true) (slot : Slot "list" name id) (hty : typeOf (.builtin id) = pure (.type "method_descriptor")) (hr : MtR X id (rBM L m)) {apos : Pos} {e : Expr} {es : List Ex} {xs : List Expr}
    (h1 : PE X e1 (tE L W fun ρ => evE c ρ a)) (hn : noCall e1 = true) (ha : PA X (e :: xs) (tA L W fun ρ => evEs c ρ es)) (hst : (e :: xs).all noStar = true) (h30 : (e :: xs).length < 30) (hl : (apos.endLine == pos.line) = true) :
    PE X (.Call (.Attribute e1 name apos) (e :: xs) [] pos) (tE L W fun ρ => evE c ρ (.bm m a es)) := by
  have hst' := hst
  rw [List.all_cons, Bool.and_eq_true] at hst'
  refine peI (pe_bm PySem.F.plainAttrs_list slot hty hr h1 ha (base_ok hn) (few_ok hst h30) hl (star_ok hst'.1) (noStars hst'.2)) fun σ H Q h => ?_
  obtain ⟨φ, ρ, st, R, E, P⟩ := h
  have P' : PostE L W σ φ H ((evE c ρ a >>= fun x => recvB m x >>= fun _ => evEs c ρ es >>= fun vs => methB m x vs) st) Q := by simp only [evE] at P; exact P
  refine ⟨φ, ρ, st, R, E, (PostE.bind P').imp fun v H1 ⟨φ1, t, x, S1, R1, V1, P1⟩ => ?_⟩
  obtain ⟨er, ys, vs, p, r, rfl, eo, rfl, hp, hs, hv⟩ := recv_list hm R1 V1 P1.alive
  rw [er] at P1
  refine ⟨.inl ⟨rfl, vs, by rw [G.hK]; exact hs⟩, φ1, ρ, t, R1, E.mono S1, ?_⟩
  show PostA L W σ φ1 H1 (evEs c ρ es t) _
  cases e5 : evEs c ρ es t with
  | stuck => rw [bind_stuck e5] at P1; exact P1
  | exc y u => rw [bind_exc e5] at P1; exact P1
  | ok zs u =>
    rw [bind_ok e5] at P1
    exact fun φ2 H2 ws S2 R2 V2 => ⟨φ2, u, .ref r, zs, R2, ⟨p, rfl, S2.pre r p hp⟩, V2, postE_nox (fun xx tt => nox_methB m _ zs u xx tt) (P1.step S2)⟩
theorem VRs.append1 {φ : List Addr} {H : Hp} {xs : List PV} {vs : List L2.V} {x : PV} {v : L2.V} (h : VRs L φ H xs vs) (hx : VR L φ H x v) : VRs L φ H (xs ++ [x]) (vs ++ [v]) := h.append (VRs.one hx)
theorem m_append : MtR X "list.append" (rBM L .append) := by
  intro pins s σ H x xs v us Q I rx rv h
  obtain ⟨φ, st, px, ps, R, hx, hv, P⟩ := h
  match ps, hv, P with
  | [y], hv, P =>
    obtain ⟨w, rfl, VV⟩ := hv.one_of
    cases px with
    | ref r =>
      obtain ⟨a, rfl, ha⟩ := (show ∃ a : Addr, x = .ref a ∧ φ[r]? = some a from hx)
      have P' : PostE L (fun _ _ _ _ => False) [] φ H ((getOb r >>= fun o => match o with
        | .list xs => M.guard (xs.length < lineN) >>= fun _ => putOb r (.list (xs ++ [y])) >>= fun _ => M.ret .non
        | _ => M.stop) st) Q := P
      cases e : st.objs[r]? with
      | none => rw [getOb_no e] at P'; exact (show False from P').elim
      | some ob =>
        rw [getOb_bind e] at P'
        cases ob with
        | list zs =>
          dsimp only at P'
          by_cases hl : zs.length < lineN
          · rw [guard_ok (by simpa using hl)] at P'
            cases hr : st.lk.contains r with
            | true => rw [bind_stuck (putOb_no hr)] at P'; exact (show False from P').elim
            | false =>
              rw [bind_ok (putOb_ok hr)] at P'
              obtain ⟨a2, vs, i1, i2, i3, i4, i5⟩ := R.lst e
              rw [ha] at i1; cases i1
              have hH := i5 (R.notF hr)
              have S1 : Step φ H φ (upd H a (.lst (vs ++ [w]))) := Step.put (List.mem_of_getElem? ha) hH (by trivial)
              refine mt_append pins s σ H _ _ v us Q I rx rv ⟨a, vs, w, rfl, rfl, hH, by rw [i2.length]; exact Nat.lt_of_lt_of_le hl lineN_le, ?_⟩
              refine P' φ _ .non S1 (R.put (ob := .list (zs ++ [y])) ha hH (by trivial) rfl rfl hr ⟨vs ++ [w], ?_, SqL.of upd_same, by rw [upd_same]; rfl, fun _ => upd_same⟩) rfl
              exact (i2.append1 VV).mono S1
          · rw [guard_no (by simpa using hl)] at P'; exact (show False from P').elim
        | _ => exact (show False from P').elim
    | _ => exact (show False from P).elim
  | [], hv, P => cases px <;> exact (show False from P).elim
  | _ :: _ :: _, hv, P => cases px <;> exact (show False from P).elim
end
end TL
end

section
set_option maxRecDepth 100000
set_option maxHeartbeats 4000000
set_option autoImplicit false
/-! TL: own exceptions are made and raised. -/
namespace TL
open PySem PySem.Spec PyProof.Rows L2
section
variable {c : Ctx} {k : Nat} {L : Lk} {S : Sk} {X : Cx} {W : WX} {pos : Pos} {pins : List (Addr × Obj)} {s : Shared} {σ : L2.St} {H : Hp} {Q : XK}
/-- the class is called with values: a new exception with its fields -/
theorem make_exc {kk n : Nat} {fs : List (Nat × Src)} {fI : Addr} {fd : FuncData} {ps : List Str} (T : ExF L k X.prog X.w X.K X.mg X.base kk n fs fI fd ps) (hr : Room (2 * k + 1) X.A) {vs : List L2.V} {us : List Value} {gs : List (Str × L2.V)} (I : Inv X pins σ H s) (r : Vals vs us) (hn : vs.length = n) (hz : vs.length ≤ 1000) (hg : srcVs L vs fs = some gs)
    (hQ : ∀ d, H d = none → Q (.ref (L.cl kk)) (some d) (upd H d (.xd gs.reverse))) : wpAny (model X.prog X.w) X.A (call (.ref (L.cl kk)) us) (MkP X pins σ Q) X.xe s := by
  obtain ⟨nm, q, N, bs, bm, sn, sub, ab, col, dd, k0, k1, k2, k3, k5, hC, hbm⟩ := T.oex.cls
  obtain ⟨hp, g, dr, tk, os⟩ := s
  have hsz : hp.objs.size ≤ hp.objs.size + 1 := Nat.le_succ _
  generalize hxx : hp.objs.size + 1 = xx at hsz
  have hn0 : H xx = none := I.hok.fresh hsz
  have kk' : ∀ b o, hp.get? b = some o → ((hp.push (PySem.W.kdv_tup us)).push (PySem.HandSPX.excO (L.cl kk) hp.objs.size)).get? b = some o := fun b o e => Heap.get?_push_of_some _ (Heap.get?_push_of_some _ e)
  have hget : ((hp.push (PySem.W.kdv_tup us)).push (PySem.HandSPX.excO (L.cl kk) hp.objs.size)).get? xx = some (PySem.HandSPX.excO (L.cl kk) hp.objs.size) := by rw [← hxx]; heap_get
  have I2 : Inv X pins σ (upd H xx (exo xx (L.cl kk) none)) ⟨(hp.push (PySem.W.kdv_tup us)).push (PySem.HandSPX.excO (L.cl kk) hp.objs.size), g, dr, tk, os⟩ :=
    I.laid (t' := tk) (a := xx) (o := exo xx (L.cl kk) none) (h' := (hp.push (PySem.W.kdv_tup us)).push (PySem.HandSPX.excO (L.cl kk) hp.objs.size)) kk' hsz (exo_ok hget)
  have rx : L2.RelV (L2.V.ref xx) (Value.ref xx) := rfl
  have r2 : Vals (L2.V.ref xx :: vs) (Value.ref xx :: us) := .cons rx r
  have hsp : spX L n (L.cl kk) fs (L2.V.ref xx :: vs) (upd H xx (exo xx (L.cl kk) none)) (fun v H2 => v = .non ∧ ∃ d, H2 xx = some (exo xx (L.cl kk) (some d)) ∧ H2 d = some (exd d gs.reverse) ∧ H d = none ∧ Q (.ref (L.cl kk)) (some d) (upd (del H2 xx) d (.xd gs.reverse))) (fun _ _ _ => False) := by
    refine ⟨xx, vs, gs, rfl, hn, upd_same, hg, fun d h0 hne => ⟨rfl, d, upd_same, by rw [upd_ne hne, upd_same], ?_, ?_⟩⟩
    · rw [upd_ne hne] at h0; exact h0
    · have h0' : H d = none := by rw [upd_ne hne] at h0; exact h0
      have e : upd (del (upd (upd (upd H xx (exo xx (L.cl kk) none)) d (exd d gs.reverse)) xx (exo xx (L.cl kk) (some d))) xx) d (.xd gs.reverse) = upd H d (.xd gs.reverse) := by
        funext b
        by_cases hb : b = d
        · rw [hb, upd_same, upd_same]
        · rw [upd_ne hb, upd_ne hb]
          by_cases hb2 : b = xx
          · rw [hb2, del_same, hn0]
          · rw [del_ne hb2, upd_ne hb2, upd_ne hb, upd_ne hb2]
      rw [e]
      exact hQ d h0'
  have hl : (Value.ref xx :: us).length = ps.length := by
    have e := r2.length
    rw [T.fn.len _ _ _ _ hsp] at e
    exact e.symm
  have hus : us.length ≤ sizeLine := by
    rw [← Paired.length r, sizeLine_eq]
    omega
  have hb := T.bd ⟨(hp.push (PySem.W.kdv_tup us)).push (PySem.HandSPX.excO (L.cl kk) hp.objs.size), g, dr, tk, os⟩ (Value.ref xx :: us) I2.kIn (by rw [List.append_nil]; exact hl)
  rw [List.append_nil] at hb
  refine wpAny_call (PySem.HandSPX.call_own F.excBase_ValueError (fun Y => PySem.HandSPX.refsVE_contains Y bm hbm) (I.kIn _ _ hC) (PySem.W.looks_findIn I.kIn T.ini) (fun self => PySem.W.bind_fn I.kIn self T.ty) hus ?_)
  rw [hxx]
  refine codeAny_mono (T.fn.run _ X.stack _ _ ⟨Value.ref xx :: us, []⟩ (Value.ref xx :: us) _ _ (fun _ _ _ => False) (hr.make (L.cl kk) us []) (I2.env0.make (L.cl kk) us []) hb r2 hsp) fun r s' hq' => ?_
  cases r with
  | error er =>
    obtain ⟨_, _, _, _, _, _, _, _, _, _, _, _, z⟩ := hq'
    exact z.elim
  | ok fl =>
    cases fl with
    | ret u =>
      obtain ⟨v, H2, os2, bare2, un2, hok2, rv, ev, d, ea, ed, hd1, q2⟩ := hq'
      subst ev
      obtain ⟨h2, g2, d2, t2, os'⟩ := s'
      exact ⟨rv, mk_end (raises_own T.oex.exC T.oex.tyC) I hsz kk' un2 hok2 os2 bare2 ea ed hd1 q2⟩
    | next => exact False.elim hq'
    | brk => exact False.elim hq'
    | cont => exact False.elim hq'
theorem bindS_cons {vs : List PV} {b : Src} {r : List Src} {ws : List PV} (h : bindS vs (b :: r) = some ws) : ∃ x l, ws = x :: l ∧ bindS vs r = some l ∧ ((∃ i, b = .arg i ∧ vs[i]? = some x) ∨ b = .dfl x) := by
  cases b with
  | arg i =>
    simp only [bindS] at h
    cases e1 : vs[i]? with
    | none => rw [e1] at h; cases h
    | some x =>
      cases e2 : bindS vs r with
      | none => rw [e1, e2] at h; cases h
      | some l => rw [e1, e2] at h; cases h; exact ⟨x, l, rfl, rfl, .inl ⟨i, rfl, e1⟩⟩
  | dfl v =>
    simp only [bindS] at h
    cases e2 : bindS vs r with
    | none => rw [e2] at h; cases h
    | some l => rw [e2] at h; cases h; exact ⟨v, l, rfl, rfl, .inr rfl⟩
/-- fields as the tree has them are fields as the model has them -/
theorem fields_ok {φ : List Addr} {vs : List PV} {us : List L2.V} (hv : VRs L φ H vs us) : ∀ {fs : List (Nat × Src)} {ws : List PV}, (fs.all fun p => match p.2 with | .arg _ => true | .dfl (.str _) => true | .dfl _ => false) = true → bindS vs (fs.map (·.2)) = some ws →
    ∃ gs, srcVs L us fs = some gs ∧ FR L φ H ((fs.map (·.1)).zip ws) gs
  | [], ws, _, e => by
    simp only [List.map_nil, bindS] at e
    cases e
    exact ⟨[], rfl, rfl⟩
  | (f, b) :: fs, ws, hb, e => by
    rw [List.all_cons, Bool.and_eq_true] at hb
    rw [List.map_cons] at e
    obtain ⟨x, l, rfl, e2, hx⟩ := bindS_cons e
    obtain ⟨gs, h1, h2⟩ := fields_ok hv hb.2 e2
    rcases hx with ⟨i, rfl, hi⟩ | rfl
    · obtain ⟨v, h3, h4⟩ := hv.get hi
      refine ⟨(L.nm f, v) :: gs, ?_, v, gs, rfl, h4, h2⟩
      simp only [srcVs, srcV, h3, h1]
    · cases x with
      | str z => exact ⟨(L.nm f, .str ⟨z.toArray⟩) :: gs, by simp only [srcVs, srcV, h1], _, gs, rfl, rfl, h2⟩
      | _ => have := hb.1; cases this
theorem FR.rlook {φ : List Addr} {f : Nat} {x : PV} : ∀ {fs : List (Nat × PV)} {gs : List (Str × L2.V)}, FR L φ H fs gs → (fs.map (·.1)).Nodup → lookF fs f = some x → ∃ v, gs.reverse.lookup (L.nm f) = some v ∧ VR L φ H x v := by
  intro fs gs h hnd e
  obtain ⟨v, h1, h2⟩ := (FR.look h).1 x e
  refine ⟨v, ?_, h2⟩
  -- no name stands twice
  have nd : (gs.map (·.1)).Nodup := by
    have : ∀ {fs : List (Nat × PV)} {gs : List (Str × L2.V)}, FR L φ H fs gs → gs.map (·.1) = (fs.map (·.1)).map L.nm := by
      intro fs
      induction fs with
      | nil => intro gs h; obtain rfl : gs = [] := h; rfl
      | cons p fs ih =>
        obtain ⟨g, y⟩ := p
        intro gs h
        obtain ⟨w, r, rfl, _, h2⟩ := (show ∃ v r, gs = (L.nm g, v) :: r ∧ VR L φ H y v ∧ FR L φ H fs r from h)
        rw [List.map_cons, List.map_cons, List.map_cons, ih h2]
    rw [this h]
    exact List.Pairwise.map _ (fun a b hab z => hab (L.inj _ _ z)) hnd
  have mem : (L.nm f, v) ∈ gs.reverse := List.mem_reverse.mpr (PySem.mem_of_lookup h1)
  have look : ∀ {l : List (Str × L2.V)}, (l.map (·.1)).Nodup → (L.nm f, v) ∈ l → l.lookup (L.nm f) = some v := by
    intro l
    induction l with
    | nil => intro _ z; cases z
    | cons p l ih =>
      obtain ⟨g, w⟩ := p
      intro hn z
      rw [List.map_cons, List.nodup_cons] at hn
      rcases List.mem_cons.mp z with z | z
      · cases z; simp [List.lookup]
      · have hne : (L.nm f == g) = false := beq_eq_false_iff_ne.mpr fun q => hn.1 (by rw [← q]; exact List.mem_map_of_mem (f := (·.1)) z)
        simp only [List.lookup, hne]
        exact ih hn.2 z
  exact look (by rw [List.map_reverse]; exact List.pairwise_reverse.mpr (nd.imp fun h => Ne.symm h)) mem
/-- raise C(..) -/
theorem rse_ok (G : Good c k L S X) (hc : S.cold = true) (tk : Takes X W) {x : Str} {p p2 : Pos} {kk : Nat} {es : List Ex} {xs : List Expr} (hx : S.gl x = some (.cls kk)) (hg : glB S.sc x = true) (hp : plainNm x = true) (ha : PA X xs (tA L W fun ρ => evEs c ρ es)) (hst : xs.all noStar = true) (hlen : xs.length = es.length)
    (hn : es.length = L.en kk) (h1000 : es.length ≤ 1000) (hfl : (c.flds.lookup kk).isSome = true) : PS X (.Raise (some (.Call (.Name x p) xs [] p2)) none pos) (tS L W (exS c (.rse kk es))) := by
  obtain ⟨fs, hfs⟩ := Option.isSome_iff_exists.mp hfl
  obtain ⟨fI, fd, ps, T⟩ := G.exc kk fs hfs
  have hr := (G.calm hc).2
  have mk : PMk X (.Call (.Name x p) xs [] p2) (fun σ H Q => tA L W (fun ρ => evEs c ρ es) σ H fun vs H1 => vs.length = es.length ∧ ∃ gs, srcVs L vs fs = some gs ∧ ∀ d, H1 d = none → Q (.ref (L.cl kk)) (some d) (upd H1 d (.xd gs.reverse))) := by
    intro pins s σ H Q I h
    refine wpAny_Call_Name_kw (ld_glob I (gl_of G hg) (G.gcl x kk hx) ?_ (plainNm_1 hp))
    cases xs with
    | nil =>
      have he : es = [] := List.eq_nil_of_length_eq_zero hlen.symm
      subst he
      obtain ⟨φ, ρ, st, R, E, P⟩ := h
      simp only [evEs] at P
      obtain ⟨_, gs, hgs, hq⟩ := P φ H [] Step.refl R rfl
      exact PySem.W.callWith_K0 I.kIn T.oex.kC (make_exc (vs := []) T hr I .nil hn (by simp) hgs hq)
    | cons e xs =>
      rw [List.all_cons, Bool.and_eq_true] at hst
      refine PySem.W.callWith_K (h₀ := X.base) I.ok.mod.kin T.oex.kC (thn (ha.run p2 pins s σ H _ I h) fun us s1 ⟨vs, H1, I1, r, hl, gs, hgs, hq⟩ => ⟨I1.kIn, ?_⟩) (star_ok hst.1) (noStars hst.2)
      exact make_exc T hr I1 r (hl.trans hn) (by omega) hgs hq
  refine psI (ps_raise (G.calm hc).1 tk mk) fun D σ H h => ?_
  obtain ⟨φ, ρ, st, R, E, P⟩ := h
  simp only [exS] at P
  refine tA_len ⟨φ, ρ, st, R, E, ?_⟩
  show PostA L W σ φ H (evEs c ρ es st) _
  unfold andThen at P
  cases e : evEs c ρ es st with
  | stuck => rw [e] at P; exact P
  | exc y t => rw [e] at P; exact fun φ1 H1 cl d S1 R1 X1 => P φ1 H1 σ cl d S1 R1 (E.mono S1) X1
  | ok zs t =>
    rw [e] at P
    dsimp only at P
    rw [hfs] at P
    dsimp only at P
    intro φ1 H1 vs S1 R1 V1
    cases eb : bindS zs (fs.map (·.2)) with
    | none => rw [eb] at P; exact (show False from P).elim
    | some ws =>
      rw [eb] at P
      obtain ⟨gs, h1, h2⟩ := fields_ok V1 T.str eb
      refine ⟨gs, h1, fun d hd => ?_⟩
      have hl : ws.length = (fs.map (·.1)).length := by
        have : ∀ {l : List Src} {ws : List PV}, bindS zs l = some ws → ws.length = l.length := by
          intro l
          induction l with
          | nil => intro ws q; simp only [bindS] at q; cases q; rfl
          | cons b l ih => intro ws q; obtain ⟨x, l', rfl, q2, _⟩ := bindS_cons q; rw [List.length_cons, List.length_cons, ih q2]
        rw [this eb, List.length_map, List.length_map]
      refine P φ1 _ σ _ _ (S1.trans (Step.side hd)) (R1.side hd) ((E.mono S1).mono (Step.side hd)) ⟨rfl, d, rfl, R1.fresh hd, gs.reverse, upd_same, fun f y ef => ?_⟩
      obtain ⟨v, g1, g2⟩ := FR.rlook h2 (by rw [List.map_fst_zip (by rw [hl]; exact Nat.le_refl _)]; exact T.nd) ef
      exact ⟨v, g1, g2.mono (Step.side hd)⟩
end
end TL
end

section
set_option maxRecDepth 100000
set_option maxHeartbeats 4000000
set_option autoImplicit false
/-! TL: try, except. -/
namespace TL
open PySem PySem.Spec PyProof.Rows L2
theorem tracedZ_keeps {B h h' : Heap} {a : Addr} {Z : Obj → Prop} {v : Value} (k : ∀ b o, h.get? b = some o → h'.get? b = some o) (x : HandSPX.TracedZ h B a Z v) : HandSPX.TracedZ h' B a Z v := by
  obtain ⟨oe, vs, T, oT, ts, he, hz, hd, h1, hb, hne, hT, hdT, hts⟩ := x
  exact ⟨oe, vs, T, oT, ts, k _ _ he, hz, hd, h1, hb, hne, k _ _ hT, hdT, hts⟩
theorem flyingZ_keeps {B h h' : Heap} {l : List PySem.Env} {a : Addr} {Z : Obj → Prop} (k : ∀ b o, h.get? b = some o → h'.get? b = some o) (x : HandSPX.FlyingZ B l a Z h) : HandSPX.FlyingZ B l a Z h' :=
  ⟨fun b o e => k b o (x.1 b o e), x.2.1, Heap.FunFrames.of_keeps (fun b o e _ => ⟨o, k b o e, rfl⟩) x.2.2.1, tracedZ_keeps k x.2.2.2⟩
section
variable {c : Ctx} {k : Nat} {L : Lk} {S : Sk} {X : Cx} {W : WX} {pos : Pos} {D : Ends}
/-- the class of a clause is asked: what is found, whatever was laid meanwhile -/
def ClTest (X : Cx) (t : Expr) (cls : Value) (b : Bool) : Prop := ∀ (a : Addr) (pn pins : List (Addr × Obj)) (s : Shared) (σ : L2.St) (H : Hp) (Q : Bool → Shared → Prop) (E : Value → Shared → Prop), Inv (X.suite a pn) pins σ H s → PySem.W.Looks (model X.prog X.w) s.heap (typeOf (.ref a)) cls →
  (∀ h', (∀ q o, s.heap.get? q = some o → h'.get? q = some o) → Q b { s with heap := h' }) → wpAny (model X.prog X.w) (X.A.mark (some (.ref a))) (eval t X.env) (fun v s1 => wpAny (model X.prog X.w) (X.A.mark (some (.ref a))) (excMatches (.ref a) v) Q E s1) E s
theorem cl_one {x : Str} {np : Pos} {v cls : Value} {b : Bool} (hc : Names X x v) (hm : PySem.W.exmOne X.K cls v = some b) : ClTest X (.Name x np) cls b := fun a pn pins s σ H Q E I LT q => by
  have LM := PySem.W.exm_one (M := model X.prog X.w) I.kIn LT hm
  have go : Q b s := q s.heap fun _ _ z => z
  obtain ⟨hg, hdbg, hm | ⟨hm, hv, hnn⟩⟩ := hc
  · exact ld_glob (X := X.suite a pn) I hg hm (LM.here go) hdbg
  · exact ld_blt (X := X.suite a pn) I hg hm hv (LM.here go) hnn hdbg
theorem cl_two {x y : Str} {p1 p2 tp : Pos} {j : Nat} {v w cls : Value} {b : Bool} (h1 : Names X x v) (h2 : Names X y w) (hm : PySem.W.exmAny X.K cls [v, w] = some b) : ClTest X (.Tuple [.Name x p1, .Name y p2] j tp) cls b := fun a pn pins s σ H Q E I LT q => by
  have ld : ∀ {x : Str} {v : Value} {p : Pos} {Q' : Value → Shared → Prop} {E' : Value → Shared → Prop}, Names X x v → Q' v s → wpAny (model X.prog X.w) (X.A.mark (some (.ref a))) (eval (.Name x p) X.env) Q' E' s := fun {x v p Q' E'} hc hq => by
    obtain ⟨hg, hdbg, hm | ⟨hm, hv, hnn⟩⟩ := hc
    · exact ld_glob (X := X.suite a pn) I hg hm hq hdbg
    · exact ld_blt (X := X.suite a pn) I hg hm hv hq hnn hdbg
  refine wpAny_Tuple (wpAny_items_cons (ld h1 (wpAny_items_cons (ld h2 (wpAny_items_nil ⟨by size_fits, ?_⟩)))))
  have kp : ∀ q o, s.heap.get? q = some o → (s.heap.push { cls := .type "tuple", data := .seq [v, w].toArray }).get? q = some o := fun _ _ z => Heap.get?_push_of_some _ z
  exact (PySem.W.exm_tup2 (I.kIn.keeps kp) (LT.keeps kp) (Heap.get?_push_size s.heap rfl) hm).here (q _ kp)
end
end TL
end

section
set_option maxRecDepth 100000
set_option maxHeartbeats 4000000
set_option autoImplicit false
/-! TL: several clauses, any tests, with or without a name. -/
namespace TL
open PySem PySem.Spec PyProof.Rows L2
/-- a clause: what its test finds of a class, its name's slot, its suite's reading -/
structure Cl where
  p : Value → Option Bool
  as_ : Option Nat
  ts : Addr → Value → Option Addr → TS
def asV (a : Addr) (σ : L2.St) : Option Nat → L2.St
  | none => σ
  | some i => σ.set i (some (.ref a))
def asD (D : Ends) : Option Nat → Ends
  | none => D
  | some i => { nx := fun σ' H' => D.nx (σ'.set i none) H', rt := D.rt, bk := fun σ' H' => D.bk (σ'.set i none) H', ct := fun σ' H' => D.ct (σ'.set i none) H' }
def wG (Wout : WX) (D : Ends) : List Cl → WX
  | [] => Wout
  | q :: r => fun cls d σ H => ∃ b, q.p cls = some b ∧ (b = true → ∀ a, H a = none → q.ts a cls d (asD D q.as_) (asV a σ q.as_) H) ∧ (b = false → wG Wout D r cls d σ H)
inductive HdsG (X : Cx) : List ExceptHandler → List Cl → Prop
  | nil : HdsG X [] []
  | non {q : Cl} {t : Expr} {b₀ : Stmt} {suite : List Stmt} {pos' : Pos} {hds : List ExceptHandler} {l : List Cl} (ht : ∀ cls b, q.p cls = some b → ClTest X t cls b) (ha : q.as_ = none)
      (hsu : ∀ (a : Addr) (oe : Obj) (cls : Value) (d : Option Addr) (pn : List (Addr × Obj)), Zc cls d oe → (∃ vs, oe.data = .fields vs) → PSs (X.suite a ((a, oe) :: pn)) (b₀ :: suite) (q.ts a cls d)) (r : HdsG X hds l) :
      HdsG X (.ExceptHandler (some t) none (b₀ :: suite) pos' :: hds) (q :: l)
  | as {q : Cl} {t : Expr} {i : Nat} {n : Str} {b₀ : Stmt} {suite : List Stmt} {pos' : Pos} {hds : List ExceptHandler} {l : List Cl} (ht : ∀ cls b, q.p cls = some b → ClTest X t cls b) (ha : q.as_ = some i)
      (hi : X.N[i]? = some n) (hl : X.env.kindOf n = some .local)
      (hsu : ∀ (a : Addr) (oe : Obj) (cls : Value) (d : Option Addr) (pn : List (Addr × Obj)), Zc cls d oe → (∃ vs, oe.data = .fields vs) → PSs (X.suite a ((a, oe) :: pn)) (b₀ :: suite) (q.ts a cls d)) (r : HdsG X hds l) :
      HdsG X (.ExceptHandler (some t) (some n) (b₀ :: suite) pos' :: hds) (q :: l)
section
variable {X : Cx} {body : List Stmt} {h₀ : ExceptHandler} {hds : List ExceptHandler} {l : List Cl} {pos : Pos} {tb : WX → TS} {Wout : WX}
theorem ps_try_G (hs : X.stack = X.env :: X.outer) (hf : X.env.frame = some X.env.locals) (hN : X.N.Nodup) (tk : Takes X Wout)
    (hb : ∀ (W : WX) (pn : List (Addr × Obj)) (xe : Value → Shared → Prop), Takes (X.tr pn xe) W → PassesOwn (model X.prog X.w) X.A X.env xe → PSs (X.tr pn xe) body (tb W))
    (hh : HdsG X (h₀ :: hds) l) : PS X (.Try body (h₀ :: hds) [] [] pos) (fun D σ H => tb (wG Wout D l) D σ H) := by
  refine ⟨fun pins s σ H D I h => ?_⟩
  have ok := I.ok
  have hfr : X.A.frames = some (X.env :: X.outer) := by rw [ok.frames, hs]
  refine wpAny_Try_except ?_
  refine wpAny_mono ((hb (wG Wout D l) (X.pn ++ pins) (fun e s₁ => wpAny (model X.prog X.w) X.A (noteFrame e X.env) (fun _ s₂ => wpAny (model X.prog X.w) X.A (setFlight e none) (fun _ s₃ =>
    wpAny (model X.prog X.w) X.A (handleBy e X.env (h₀ :: hds)) (SP X pins D) X.xe s₃) X.xe s₂) X.xe s₁) (fun u s' xx => ?_) PassesOwn.looking).run [] s σ H D (I.toTry _) h) (fun f s1 hsp => ?_) (fun e s1 he => he)
  · -- the catch
    obtain ⟨a, B, sI, pins', σ', H', cls, d, rfl, J', nb, up, sky, na, os, ag, w⟩ := xx
    have J : Inv X pins σ' H' sI := J'.ofTry ok
    have sky' : Sky B (X.env :: X.outer) a (Zc cls d) X.env.locals s'.heap := by rw [← hs]; exact sky
    show wpAny (model X.prog X.w) X.A (noteFrame (.ref a) X.env) _ _ _
    refine Sky.land Zc.steady hfr hf sky' fun h3 fl3 up3 => ?_
    have notFr : ∀ {h : Heap} {o : Obj} {vs : Array Value}, h.FunFrames B (X.env :: X.outer) → h.get? a = some o → o.data = .fields vs → a ∉ frs (X.env :: X.outer) := fun {h o vs} ff e dd hm => by
      obtain ⟨_, o', e', hnf⟩ := ff.mem hm
      rw [e] at e'; cases e'
      exact hnf _ dd
    have go : ∀ {hds' : List ExceptHandler} {l' : List Cl}, HdsG X hds' l' → ∀ (h3 : Heap), HandSPX.FlyingZ B (X.env :: X.outer) a (Zc cls d) h3 → s'.heap.UpToSlots h3 → wG Wout D l' cls d σ' H' →
        wpAny (model X.prog X.w) X.A (handleBy (.ref a) X.env hds') (SP X pins D) X.xe { s' with heap := h3 } := by
      intro hds' l' hk
      induction hk with
      | nil =>
        intro h3 fl3 up3 w
        have J3 : Inv X pins σ' H' { s' with heap := h3 } := J.landed nb fl3.1 (up.trans up3) os ag
        refine wpAny_handleBy_nil ?_
        obtain ⟨k1, k2, k3, oe, vs, T, oT, ts', he, hz, hd, h1, hr⟩ := id fl3
        unfold PySem.passOn
        refine wpAny_bind (wpAny_field he hd h1 ?_)
        rw [if_neg (show ¬ ((Value.ref T == Value.none) = true) from by simp)]
        have fin : wpAny (model X.prog X.w) X.A (setFlight (.ref a) X.env.frame) (fun _ s4 => wpAny (model X.prog X.w) X.A (throw (.ref a) : Sem PySem.Flow) (SP X pins D) X.xe s4) X.xe { s' with heap := h3 } := by
          rw [hf]
          refine HandSPX.setFlight_upZ fl3 fun h4 hh4 up4 => wpAny_throw (tk _ _ ?_)
          exact ⟨a, B, sI, pins, σ', H', cls, d, rfl, J, nb, (up.trans up3).trans up4, .inr (.inr (by rw [hs]; exact hh4)), na, os, ag, w⟩
        first
          | exact wpAny_bind (wpAny_pure (wpAny_bind fin))
          | exact wpAny_bind fin
      | @non q t b₀ suite pos' hds2 l2 ht ha hsu r ih =>
        intro h3 fl3 up3 w
        obtain ⟨b, hb1, hyes, hno⟩ := w
        have J3 : Inv X pins σ' H' { s' with heap := h3 } := J.landed nb fl3.1 (up.trans up3) os ag
        obtain ⟨oe3, vs3, he3, hz3, hd3⟩ := fl3.there
        have nfr := notFr fl3.2.2.1 he3 hd3
        have nL : a ≠ X.env.locals := fun z => nfr (List.mem_filterMap.mpr ⟨X.env, List.mem_cons_self, by rw [hf, z]⟩)
        have nF : a ∉ X.fs := fun hm => by
          obtain ⟨e, he, q⟩ := List.mem_filterMap.mp hm
          exact nfr (List.mem_filterMap.mpr ⟨e, List.mem_cons_of_mem _ he, q⟩)
        have S3 := J3.suite he3 hd3 na nL nF
        refine wpAny_handleBy_cons (codeAny_handlers_test ?_) (by intro q; cases q)
        have LT : PySem.W.Looks (model X.prog X.w) h3 (typeOf (.ref a)) cls := fun A Q E s k q => wpAny_typeOf_ref (k _ _ he3) (by rw [hz3.1]; exact q)
        refine ht cls b hb1 a _ [] _ _ _ _ _ S3 LT fun h5 k5 => ?_
        have fl5 := flyingZ_keeps k5 fl3
        have up5 : s'.heap.UpToSlots h5 := up3.trans (Heap.UpToSlots.of_keeps k5)
        cases b with
        | true =>
          refine codeAny_handlers_suite ?_
          refine HandSPX.lands_againZ fl5 fun h4 fl4 up4 => ?_
          have J4 : Inv X pins σ' H' { s' with heap := h4 } := J.landed nb fl4.1 ((up.trans up5).trans up4) os ag
          obtain ⟨oe4, vs4, he4, hz4, hd4⟩ := fl4.there
          have S4 := J4.suite he4 hd4 na nL nF
          have hy := hyes rfl a na
          rw [ha] at hy
          refine wpAny_mono ((hsu a oe4 cls d (X.pn ++ pins) hz4 ⟨_, hd4⟩).run [] _ _ H' _ S4 hy) (fun f s6 hsp => ?_) (fun _ _ z => False.elim z)
          cases f with
          | next =>
            obtain ⟨σ6, H6, S6, q6⟩ := hsp
            exact ⟨_, _, S6.unsuite ok, q6⟩
          | brk =>
            obtain ⟨σ6, H6, S6, q6⟩ := hsp
            exact ⟨_, _, S6.unsuite ok, q6⟩
          | cont =>
            obtain ⟨σ6, H6, S6, q6⟩ := hsp
            exact ⟨_, _, S6.unsuite ok, q6⟩
          | ret u =>
            obtain ⟨v6, σ6, H6, S6, r6, q6⟩ := hsp
            exact ⟨_, _, _, S6.unsuite ok, r6, q6⟩
        | false =>
          show wpAny _ X.A (handleBy (.ref a) X.env hds2) _ _ _
          exact ih h5 fl5 up5 (hno rfl)
      | @as q t i n b₀ suite pos' hds2 l2 ht ha hi hln hsu r ih =>
        intro h3 fl3 up3 w
        obtain ⟨b, hb1, hyes, hno⟩ := w
        have hloc : Loc X.env.scope n := .inl hln
        have J3 : Inv X pins σ' H' { s' with heap := h3 } := J.landed nb fl3.1 (up.trans up3) os ag
        obtain ⟨oe3, vs3, he3, hz3, hd3⟩ := fl3.there
        have nfr := notFr fl3.2.2.1 he3 hd3
        have nL : a ≠ X.env.locals := fun z => nfr (List.mem_filterMap.mpr ⟨X.env, List.mem_cons_self, by rw [hf, z]⟩)
        have nF : a ∉ X.fs := fun hm => by
          obtain ⟨e, he, q⟩ := List.mem_filterMap.mp hm
          exact nfr (List.mem_filterMap.mpr ⟨e, List.mem_cons_of_mem _ he, q⟩)
        have S3 := J3.suite he3 hd3 na nL nF
        refine wpAny_handleBy_cons (codeAny_handlers_test ?_) (by intro q; cases q)
        have LT : PySem.W.Looks (model X.prog X.w) h3 (typeOf (.ref a)) cls := fun A Q E s k q => wpAny_typeOf_ref (k _ _ he3) (by rw [hz3.1]; exact q)
        refine ht cls b hb1 a _ [] _ _ _ _ _ S3 LT fun h5 k5 => ?_
        have fl5 := flyingZ_keeps k5 fl3
        have up5 : s'.heap.UpToSlots h5 := up3.trans (Heap.UpToSlots.of_keeps k5)
        cases b with
        | true =>
          refine codeAny_handlers_suite_as ?_
          refine HandSPX.lands_againZ fl5 fun h4 fl4 up4 => ?_
          have J4 : Inv X pins σ' H' { s' with heap := h4 } := J.landed nb fl4.1 ((up.trans up5).trans up4) os ag
          obtain ⟨oe4, vs4, he4, hz4, hd4⟩ := fl4.there
          have S4 := J4.suite he4 hd4 na nL nF
          have hy := hyes rfl a na
          rw [ha] at hy
          refine store_ok (X := X.suite a ((a, oe4) :: (X.pn ++ pins))) (v := .ref a) S4 hN hi hloc rfl (fun s5 S5 => ?_) (.inr hln)
          refine wpAny_mono ((hsu a oe4 cls d (X.pn ++ pins) hz4 ⟨_, hd4⟩).run [] s5 _ H' _ S5 hy) (fun f s6 hsp => ?_) (fun _ _ z => False.elim z)
          have end_ : ∀ {σ6 : L2.St} {H6 : Hp} {Q : Shared → Prop}, Inv (X.suite a ((a, oe4) :: (X.pn ++ pins))) [] σ6 H6 s6 → (∀ s7, Inv X pins (σ6.set i none) H6 s7 → Q s7) →
              wpAny (model X.prog X.w) X.A (do bindName X.env n .none; unbindBehindTheSuite X.env n pos') (fun _ s7 => Q s7) X.xe s6 := fun {σ6 H6 Q} S6 hq => gone_ok (S6.unsuite ok) hN hi hln hq
          cases f with
          | next =>
            obtain ⟨σ6, H6, S6, q6⟩ := hsp
            exact end_ S6 fun s7 J7 => ⟨_, _, J7, q6⟩
          | brk =>
            obtain ⟨σ6, H6, S6, q6⟩ := hsp
            exact end_ S6 fun s7 J7 => ⟨_, _, J7, q6⟩
          | cont =>
            obtain ⟨σ6, H6, S6, q6⟩ := hsp
            exact end_ S6 fun s7 J7 => ⟨_, _, J7, q6⟩
          | ret u =>
            obtain ⟨v6, σ6, H6, S6, r6, q6⟩ := hsp
            exact end_ S6 fun s7 J7 => ⟨_, _, _, J7, r6, q6⟩
        | false =>
          show wpAny _ X.A (handleBy (.ref a) X.env hds2) _ _ _
          exact ih h5 fl5 up5 (hno rfl)
    exact go hh h3 fl3 up3 w
  · cases f with
    | next =>
      obtain ⟨σ', H', J', q⟩ := hsp
      exact wpAny_execs_nil ⟨σ', H', J'.ofTry ok, q⟩
    | brk =>
      obtain ⟨σ', H', J', q⟩ := hsp
      exact ⟨σ', H', J'.ofTry ok, q⟩
    | cont =>
      obtain ⟨σ', H', J', q⟩ := hsp
      exact ⟨σ', H', J'.ofTry ok, q⟩
    | ret u =>
      obtain ⟨v, σ', H', J', r, q⟩ := hsp
      exact ⟨v, σ', H', J'.ofTry ok, r, q⟩
end
end TL
end

section
set_option maxRecDepth 100000
set_option maxHeartbeats 1000000
set_option autoImplicit false
/-! TL: try, except. -/
namespace TL
open PySem PySem.Spec PyProof.Rows L2
def slA (L : Lk) (a : Addr) : Option Nat → List (Nat × V)
  | none => L.sl
  | some i => (i, .ref a) :: L.sl
def unV (σ : L2.St) : Option Nat → L2.St
  | none => σ
  | some i => σ.set i none
def Lk.suite (L : Lk) (as_ : Option Nat) (a : Addr) (x : Xc) (dd : Addr) : Lk := L.cat (slA L a as_) ((x, dd) :: L.xc)
def Ctx.at (c : Ctx) (x : Xc) : Ctx := { c with cur := some x }
def Sk.suite (S : Sk) (as_ : Option Nat) : Sk := { S with cold := false, ban := as_.toList ++ S.ban, cau := as_ }
def Sk.tr (S : Sk) : Sk := { S with cau := none }
section
variable {c : Ctx} {k : Nat} {L : Lk} {S : Sk} {X : Cx} {W : WX} {pos : Pos} {D : Ends} {φ : List Addr} {H : Hp} {st t : Sto} {σ : L2.St} {ρ : Env} {x : Xc} {cls : Value} {d : Option Addr}
theorem ER.suite {as_ : Option Nat} {a dd : Addr} (E : ER L φ H ρ σ) (h : inE ρ as_ = true) (hb : ∀ i, as_ = some i → ∀ p ∈ L.sl, p.1 ≠ i) (hx : XDn L φ H x dd) : ER (L.suite as_ a x dd) φ H (clearE ρ as_) (asV a σ as_) := by
  cases as_ with
  | none => exact ⟨E.len, fun i y e => let ⟨v, h1, h2⟩ := E.at_ i y e; ⟨v, h1, (VR.cat y v).mpr h2⟩, E.sl, fun p hp => XDn.cat.mpr (by
      rcases List.mem_cons.mp hp with rfl | hp
      · exact hx
      · exact E.xc p hp)⟩
  | some i =>
    have E' := E.none (o := some (.ref a)) (hb i rfl)
    have hi : i < σ.length := by rw [← E.len]; exact Nat.blt_eq.mp h
    refine ⟨E'.len, fun j y e => let ⟨v, h1, h2⟩ := E'.at_ j y e; ⟨v, h1, (VR.cat y v).mpr h2⟩, fun p hp => ?_, fun p hp => XDn.cat.mpr ?_⟩
    · rcases List.mem_cons.mp hp with rfl | hp
      · exact List.getElem?_set_self hi
      · exact E'.sl p hp
    · rcases List.mem_cons.mp hp with rfl | hp
      · exact hx
      · exact E.xc p hp
theorem ER.unsuite {as_ : Option Nat} {a dd : Addr} (E : ER (L.suite as_ a x dd) φ H ρ σ) (hb : ∀ i, as_ = some i → ∀ p ∈ L.sl, p.1 ≠ i) : ER L φ H (clearE ρ as_) (unV σ as_) := by
  have E0 : ER L φ H ρ σ := ⟨E.len, fun j y e => let ⟨v, h1, h2⟩ := E.at_ j y e; ⟨v, h1, (VR.cat y v).mp h2⟩, fun p hp => E.sl p (by
    cases as_ with
    | none => exact hp
    | some i => exact List.mem_cons_of_mem _ hp), fun p hp => XDn.cat.mp (E.xc p (List.mem_cons_of_mem _ hp))⟩
  cases as_ with
  | none => exact E0
  | some i => exact E0.none (o := Option.none) (hb i rfl)
theorem exAny_of {K : PySem.W.Frag} {f : Nat → Bool} : ∀ {cs : List Nat}, (∀ j ∈ cs, PySem.W.exmOne K cls (.ref (L.cl j)) = some (f j)) → PySem.W.exmAny K cls (cs.map fun j => .ref (L.cl j)) = some (cs.any f)
  | [], _ => rfl
  | j :: cs, h => by
    show PySem.W.exmAny K cls (.ref (L.cl j) :: cs.map fun j => .ref (L.cl j)) = _
    unfold PySem.W.exmAny
    rw [h j (List.mem_cons_self ..), exAny_of fun i hi => h i (List.mem_cons_of_mem _ hi)]
    rfl
/-- a clause's reading -/
def clS (c : Ctx) (L : Lk) (K : PySem.W.Frag) : Hd → Cl
  | .mk cs as_ b => ⟨fun cls => PySem.W.exmAny K cls (cs.map fun j => .ref (L.cl j)), as_, fun a cls d D σ H => ∃ x dd, cls = .ref (L.cl x.cls) ∧ d = some dd ∧ (c.subs.lookup x.cls).isSome = true ∧ tS (L.suite as_ a x dd) WF (exSs (c.at x) b) D σ H⟩
/-- clauses of the text and of the tree -/
inductive HdsT (c : Ctx) (k : Nat) (L : Lk) (S : Sk) (X : Cx) : List Hd → List ExceptHandler → Prop
  | nil : HdsT c k L S X [] []
  | non {cs : List Nat} {b : List TL.St} {hs : List Hd} {t : Expr} {b₀ : Stmt} {suite : List Stmt} {pos' : Pos} {hds : List ExceptHandler} (hcs : ∀ j ∈ cs, j ∈ S.xs) (ht : ∀ cls d, PySem.W.exmAny X.K cls (cs.map fun j => .ref (L.cl j)) = some d → ClTest X t cls d)
      (hsu : ∀ (X' : Cx) (a : Addr) (x : Xc) (dd : Addr), X'.K = X.K → Good (c.at x) k (L.suite none a x dd) (S.suite none) X' → PSs X' (b₀ :: suite) (tS (L.suite none a x dd) WF (exSs (c.at x) b))) (r : HdsT c k L S X hs hds) :
      HdsT c k L S X (.mk cs none b :: hs) (.ExceptHandler (some t) none (b₀ :: suite) pos' :: hds)
  | as {cs : List Nat} {i : Nat} {n : Str} {b : List TL.St} {hs : List Hd} {t : Expr} {b₀ : Stmt} {suite : List Stmt} {pos' : Pos} {hds : List ExceptHandler} (hcs : ∀ j ∈ cs, j ∈ S.xs) (ht : ∀ cls d, PySem.W.exmAny X.K cls (cs.map fun j => .ref (L.cl j)) = some d → ClTest X t cls d)
      (hi : S.N[i]? = some n) (hl : S.sc.names.lookup n = some .local) (hban : i ∉ S.ban)
      (hsu : ∀ (X' : Cx) (a : Addr) (x : Xc) (dd : Addr), X'.K = X.K → Good (c.at x) k (L.suite (some i) a x dd) (S.suite (some i)) X' → PSs X' (b₀ :: suite) (tS (L.suite (some i) a x dd) WF (exSs (c.at x) b))) (r : HdsT c k L S X hs hds) :
      HdsT c k L S X (.mk cs (some i) b :: hs) (.ExceptHandler (some t) (some n) (b₀ :: suite) pos' :: hds)
theorem srcVs_cat {sl : List (Nat × V)} {xc : List (Xc × Addr)} {ws : List L2.V} : ∀ {fs : List (Nat × Src)}, srcVs (L.cat sl xc) ws fs = srcVs L ws fs
  | [] => rfl
  | (f, b) :: fs => by
    simp only [srcVs, srcVs_cat (fs := fs)]
    rfl
theorem ExF.cat {sl : List (Nat × V)} {xc : List (Xc × Addr)} {P : Program} {w : World} {K : PySem.W.Frag} {mg : Str → Option Value} {base : Heap} {kk n : Nat} {fs : List (Nat × Src)} {fI : Addr} {fd : FuncData} {ps : List Str} (T : ExF L k P w K mg base kk n fs fI fd ps) : ExF (L.cat sl xc) k P w K mg base kk n fs fI fd ps :=
  ⟨T.oex, T.ini, T.ty, T.fn.imp fun vs H Q E ⟨a, ws, gs, h1, h2, h3, h4, h5⟩ => ⟨a, ws, gs, h1, h2, h3, by rw [← srcVs_cat (sl := sl) (xc := xc)]; exact h4, h5⟩, T.bd, T.str, T.nd⟩
theorem TbOk.cat {T : Tb} (t : TbOk T c L) {sl : List (Nat × V)} {xc : List (Xc × Addr)} {x : Xc} : TbOk T (c.at x) (L.cat sl xc) :=
  ⟨t.nm, t.meths, t.inits, t.flds, t.en, t.cs, fun f n b h => let ⟨g, gV, KB, q⟩ := t.bF f n b h; ⟨g, gV, KB, fun φ H xs zs vs ws ys h1 h2 h3 h4 h5 => (VRs.cat _ _).mpr (q φ H xs zs vs ws ys ((VRs.cat _ _).mp h1) ((VRs.cat _ _).mp h2) h3 h4 h5)⟩,
    fun f n b h => let ⟨g, gV, KB, q⟩ := t.bM f n b h; ⟨g, gV, KB, fun φ H x v xs zs vs ws ys h0 h1 h2 h3 h4 h5 => (VRs.cat _ _).mpr (q φ H x v xs zs vs ws ys ((VR.cat _ _).mp h0) ((VRs.cat _ _).mp h1) ((VRs.cat _ _).mp h2) h3 h4 h5)⟩, t.pres⟩
theorem Good.suite (G : Good c k L S X) {as_ : Option Nat} {a dd : Addr} {oe : Obj} {pn : List (Addr × Obj)} {x : Xc} (hz : Zc (.ref (L.cl x.cls)) (some dd) oe) (hf : ∃ vs, oe.data = .fields vs) (hs : (c.subs.lookup x.cls).isSome = true) :
    Good (c.at x) k (L.suite as_ a x dd) (S.suite as_) (X.suite a ((a, oe) :: pn)) where
  hN := G.hN
  nd := G.nd
  sc := G.sc
  st := G.st
  hK := G.hK
  tb := G.tb.cat
  hP := G.hP
  hW := G.hW
  calm := fun h => nomatch h
  units := G.units
  gfn := G.gfn
  gcl := G.gcl
  gcon := fun x g h => let ⟨u, v, p, h1, h2, h3, h4⟩ := G.gcon x g h; ⟨u, v, p, h1, h2, h3, fun φ H => (VR.cat p v).mpr (h4 φ H)⟩
  gblt := G.gblt
  keep := G.keep
  fn := G.fn
  cls := G.cls
  noat := G.noat
  meth := G.meth
  nms := G.nms
  spc := G.spc
  mks := G.mks
  ban := by
    cases as_ with
    | none => exact G.ban
    | some i => intro p hp; rcases List.mem_cons.mp hp with rfl | hp; exact List.mem_cons_self ..; exact List.mem_cons_of_mem _ (G.ban p hp)
  exc := fun kk fs h => let ⟨fI, fd, ps, T⟩ := G.exc kk fs h; ⟨fI, fd, ps, T.cat⟩
  exU := G.exU
  exA := G.exA
  cau := fun i h => by
    obtain rfl : as_ = some i := h
    exact ⟨X, a, oe, pn, x, dd, rfl, hz, hf, List.mem_cons_self .., List.mem_cons_self .., rfl, hs⟩
  sta := G.sta
  isB := G.isB
  isO := G.isO
  isC := G.isC
  isK := G.isK
  isG := G.isG
theorem Good.tr (G : Good c k L S X) (pn : List (Addr × Obj)) (xe : Value → Shared → Prop) : Good c k L S.tr (X.tr pn xe) where
  hN := G.hN
  nd := G.nd
  sc := G.sc
  st := G.st
  hK := G.hK
  tb := G.tb
  hP := G.hP
  hW := G.hW
  calm := G.calm
  units := G.units
  gfn := G.gfn
  gcl := G.gcl
  gcon := G.gcon
  gblt := G.gblt
  keep := G.keep
  fn := G.fn
  cls := G.cls
  noat := G.noat
  meth := G.meth
  nms := G.nms
  spc := G.spc
  mks := G.mks
  ban := G.ban
  exc := G.exc
  exU := G.exU
  exA := G.exA
  cau := fun i h => nomatch h
  sta := G.sta
  isB := G.isB
  isO := G.isO
  isC := G.isC
  isK := G.isK
  isG := G.isG
theorem hdsG (G : Good c k L S X) : ∀ {hs : List Hd} {hds : List ExceptHandler}, HdsT c k L S X hs hds → HdsG X hds (hs.map (clS c L X.K)) := by
  intro hs hds h
  induction h with
  | nil => exact .nil
  | @non cs b hs t b₀ suite pos' hds hcs ht hsu r ih =>
    refine .non ht rfl (fun a oe cls d pn hz hf => ⟨fun pins s σ H D I h => ?_⟩) ih
    obtain ⟨x, dd, rfl, rfl, he, h⟩ := h
    exact (hsu (X.suite a ((a, oe) :: pn)) a x dd rfl (G.suite hz hf he)).run pins s σ H D I h
  | @as cs i n b hs t b₀ suite pos' hds hcs ht hi hl hban hsu r ih =>
    refine .as ht rfl (by rw [G.hN]; exact hi) (by show X.env.scope.names.lookup n = _; rw [G.sc]; exact hl) (fun a oe cls d pn hz hf => ⟨fun pins s σ H D I h => ?_⟩) ih
    obtain ⟨x, dd, rfl, rfl, he, h⟩ := h
    exact (hsu (X.suite a ((a, oe) :: pn)) a x dd rfl (G.suite hz hf he)).run pins s σ H D I h
theorem wG_of (G : Good c k L S X) : ∀ {hs : List Hd} {hds : List ExceptHandler}, HdsT c k L S X hs hds → Rl L φ t H → ER L φ H ρ σ → XR L φ H x cls d → PostS L W D φ H (exH c x hs ρ t) → wG W D (hs.map (clS c L X.K)) cls d σ H := by
  intro hs hds h
  induction h with
  | nil =>
    intro R E X1 P
    simp only [exH] at P
    exact P φ H σ cls d Step.refl R E X1
  | @non cs b hs t' b₀ suite pos' hds hcs ht hsu r ih =>
    intro R E X1 P
    obtain ⟨rfl, dd, rfl, hx⟩ := X1
    simp only [exH] at P
    unfold underO at P
    cases es : c.subs.lookup x.cls with
    | none => rw [es] at P; exact P.elim
    | some l =>
      rw [es] at P
      dsimp only at P
      refine ⟨_, exAny_of fun j hj => G.exU _ l es j (hcs j hj), fun hb a na => ?_, fun hb => ?_⟩
      · rw [hb] at P
        refine ⟨x, dd, rfl, rfl, by rw [es]; rfl, φ, ρ, t, Rl.cat.mpr R, ER.suite (as_ := none) E rfl (fun i h => nomatch h) hx, ?_⟩
        have P' : PostS L W D φ H (match exSs (c.at x) b ρ t with | .fin f ρ' t => .fin f ρ' t | _ => .stuck) := P
        cases e : exSs (c.at x) b ρ t with
        | stuck => rw [e] at P'; exact P'
        | exc y ρ' t' => rw [e] at P'; exact P'.elim
        | fin f ρ' t' =>
          rw [e] at P'
          cases f with
          | nx => exact fun φ1 H1 σ1 S1 R1 E1 => P' φ1 H1 σ1 S1 (Rl.cat.mp R1) (ER.unsuite (as_ := none) E1 fun i h => nomatch h)
          | bk => exact fun φ1 H1 σ1 S1 R1 E1 => P' φ1 H1 σ1 S1 (Rl.cat.mp R1) (ER.unsuite (as_ := none) E1 fun i h => nomatch h)
          | ct => exact fun φ1 H1 σ1 S1 R1 E1 => P' φ1 H1 σ1 S1 (Rl.cat.mp R1) (ER.unsuite (as_ := none) E1 fun i h => nomatch h)
          | rt y => exact fun φ1 H1 v S1 R1 V1 => P' φ1 H1 v S1 (Rl.cat.mp R1) ((VR.cat _ _).mp V1)
      · rw [hb] at P
        exact ih R E ⟨rfl, dd, rfl, hx⟩ P
  | @as cs i n b hs t' b₀ suite pos' hds hcs ht hi hl hban hsu r ih =>
    intro R E X1 P
    have nb : ∀ j, some i = some j → ∀ p ∈ L.sl, p.1 ≠ j := fun j ej p hp z => hban (by cases ej; rw [← z]; exact G.ban p hp)
    obtain ⟨rfl, dd, rfl, hx⟩ := X1
    simp only [exH] at P
    unfold underO at P
    cases es : c.subs.lookup x.cls with
    | none => rw [es] at P; exact P.elim
    | some l =>
      rw [es] at P
      dsimp only at P
      refine ⟨_, exAny_of fun j hj => G.exU _ l es j (hcs j hj), fun hb a na => ?_, fun hb => ?_⟩
      · rw [hb] at P
        dsimp only at P
        cases ei : inE ρ (some i) with
        | false => rw [ei] at P; exact P.elim
        | true =>
          rw [ei] at P
          refine ⟨x, dd, rfl, rfl, by rw [es]; rfl, φ, clearE ρ (some i), t, Rl.cat.mpr R, ER.suite (as_ := some i) E ei nb hx, ?_⟩
          have P' : PostS L W D φ H (match exSs (c.at x) b (clearE ρ (some i)) t with | .fin f ρ' t => .fin f (clearE ρ' (some i)) t | _ => .stuck) := P
          cases e : exSs (c.at x) b (clearE ρ (some i)) t with
          | stuck => rw [e] at P'; exact P'
          | exc y ρ' t' => rw [e] at P'; exact P'.elim
          | fin f ρ' t' =>
            rw [e] at P'
            cases f with
            | nx => exact fun φ1 H1 σ1 S1 R1 E1 => P' φ1 H1 _ S1 (Rl.cat.mp R1) (ER.unsuite (as_ := some i) E1 nb)
            | bk => exact fun φ1 H1 σ1 S1 R1 E1 => P' φ1 H1 _ S1 (Rl.cat.mp R1) (ER.unsuite (as_ := some i) E1 nb)
            | ct => exact fun φ1 H1 σ1 S1 R1 E1 => P' φ1 H1 _ S1 (Rl.cat.mp R1) (ER.unsuite (as_ := some i) E1 nb)
            | rt y => exact fun φ1 H1 v S1 R1 V1 => P' φ1 H1 v S1 (Rl.cat.mp R1) ((VR.cat _ _).mp V1)
      · rw [hb] at P
        exact ih R E ⟨rfl, dd, rfl, hx⟩ P
/-- try: body, except ..: .. -/
theorem try_ok (G : Good c k L S X) (htop : S.top = true) (tk : Takes X W) {b : List TL.St} {body : List Stmt} {hs : List Hd} {h₀ : ExceptHandler} {hds : List ExceptHandler}
    (hb : ∀ (X' : Cx) (W' : WX), Good c k L S.tr X' → Takes X' W' → PassesOwn (model X'.prog X'.w) X'.A X'.env X'.xe → PSs X' body (tS L W' (exSs c b))) (hh : HdsT c k L S X hs (h₀ :: hds)) :
    PS X (.Try body (h₀ :: hds) [] [] pos) (tS L W (exS c (.tryE b hs))) := by
  refine psI (ps_try_G (G.sta htop).1 (G.sta htop).2 G.nd tk (fun W' pn xe tk' po => hb _ W' (G.tr pn xe) tk' po) (hdsG G hh)) fun D σ H h => ?_
  obtain ⟨φ, ρ, st, R, E, P⟩ := h
  simp only [exS] at P
  refine ⟨φ, ρ, st, R, E, ?_⟩
  cases e : exSs c b ρ st with
  | stuck => rw [e] at P; exact P
  | fin f ρ' t => rw [e] at P; cases f <;> exact P
  | exc x ρ' t =>
    rw [e] at P
    exact fun φ1 H1 σ1 cls d S1 R1 E1 X1 => wG_of G hh R1 E1 X1 (PostS.step P S1)
/-- a field of the caught one -/
theorem exf_ok (G : Good c k L S X) {i : Nat} (hc : S.cau = some i) {n : Str} {p : Pos} {f : Nat} (hi : S.N[i]? = some n) (hv : visB S.sc n = true) (hp : plainNm n = true) (hf : f ∈ S.xf) : PE X (.Attribute (.Name n p) (L.nm f) pos) (tE L W fun ρ => evE c ρ (.exf f)) := by
  obtain ⟨X0, a, oe, pn, x, dd, rfl, hz, hd, h1, h2, h3, h4⟩ := G.cau i hc
  obtain ⟨l, hs⟩ := Option.isSome_iff_exists.mp h4
  obtain ⟨g1, g2⟩ := G.exA _ l hs
  refine peI (pe_xf (te := tVar i) g1 (g2 f hf) hz hd (pe_var (X := X0.suite a ((a, oe) :: pn)) (i := i) (by rw [G.hN]; exact hi) (by rw [G.sc]; exact vis_of hv) (plainNm_1 hp) (plainNm_2 hp))) fun σ H Q h => ?_
  obtain ⟨φ, ρ, st, R, E, P⟩ := h
  simp only [evE, h3] at P
  obtain ⟨_, gs, hgs, hv⟩ := E.xc _ h2
  cases el : lookF x.fs f with
  | none => rw [el] at P; exact (show False from P).elim
  | some y =>
    rw [el] at P
    obtain ⟨v, e1, e2⟩ := hv f y el
    exact ⟨_, E.sl _ h1, rfl, rfl, dd, gs, v, rfl, hgs, e1, P φ H v Step.refl R e2⟩
end
end TL
end

section
set_option maxRecDepth 100000
set_option maxHeartbeats 1000000
set_option autoImplicit false
/-! TL: the empty dict. -/
namespace TL
open PySem PySem.Spec PyProof.Rows L2
section
variable {c : Ctx} {k : Nat} {L : Lk} {S : Sk} {X : Cx} {W : WX} {pos : Pos}
theorem dic0_ok : PE X (.Dict [] [] pos) (tE L W fun ρ => evE c ρ (.dic [])) := by
  refine ⟨fun pins s σ H Q I h => wpAny_Dict_empty ?_⟩
  obtain ⟨φ, ρ, st, R, E, P⟩ := h
  have hp : H s.heap.objs.size = none := I.hok.fresh (Nat.le_refl _)
  have hg : (s.heap.push { cls := .type "dict", data := .dict #[] }).get? s.heap.objs.size = some { cls := .type "dict", data := .dict #[] } := Heap.get?_push_size s.heap rfl
  refine ⟨.ref s.heap.objs.size, upd H s.heap.objs.size (dO s.heap.objs.size { cls := .type "dict", data := .dict #[] }), I.laid (a := s.heap.objs.size) (t' := s.toks) (fun _ _ q => Heap.get?_push_of_some _ q) (Nat.le_refl _) ⟨hg, ⟨_, hg⟩, fun h1 h2 e k => k _ e⟩, rfl, ?_⟩
  have P' : PostE L W σ φ H (alloc (.dict []) st) Q := by simp only [evE] at P; exact P
  have s1 : Step φ H (φ ++ [s.heap.objs.size]) (upd H s.heap.objs.size (dO s.heap.objs.size { cls := .type "dict", data := .dict #[] })) := Step.new hp
  refine P' (φ ++ [s.heap.objs.size]) _ (.ref s.heap.objs.size) s1 (R.alloc hp ?_) ?_
  · refine ⟨_, upd_same, ?_, ⟨rfl, rfl, rfl⟩, DR.empty ⟨rfl, rfl, rfl⟩ rfl⟩
    · exact beq_eq_false_iff_ne.mpr (Ne.symm (Nat.ne_of_lt I.big))
  · exact ⟨_, rfl, by rw [← R.len]; simp⟩
end
end TL
end

section
set_option maxRecDepth 100000
set_option maxHeartbeats 2000000
set_option autoImplicit false
/-! TL: set comprehensions. -/
namespace TL
open PySem PySem.Spec PyProof.Rows L2
theorem any_beq {xs : List PV} {y : PV} : (xs.any fun x => PV.beq x y) = true ↔ y ∈ xs := by
  rw [List.any_eq_true]
  exact ⟨fun ⟨x, hx, e⟩ => by rw [← PV.eq_of_beq _ _ e]; exact hx, fun h => ⟨y, h, PV.beq_self y⟩⟩
theorem addS_in {xs : List PV} {y : PV} (h : y ∈ xs) : addS xs y = xs := by unfold addS; rw [if_pos (any_beq.mpr h)]
theorem addS_new {xs : List PV} {y : PV} (h : y ∉ xs) : addS xs y = xs ++ [y] := by unfold addS; rw [if_neg fun z => h (any_beq.mp z)]
theorem dedup_snoc {xs : List PV} {y : PV} : dedup (xs ++ [y]) = addS (dedup xs) y := by unfold dedup; rw [List.foldl_append]; rfl
theorem addS_le {xs : List PV} {y : PV} : (addS xs y).length ≤ xs.length + 1 := by
  by_cases h : y ∈ xs
  · rw [addS_in h]; exact Nat.le_succ _
  · rw [addS_new h]; simp
theorem dedup_le {xs : List PV} : (dedup xs).length ≤ xs.length := by
  have go : ∀ (xs ys : List PV), (xs.foldl addS ys).length ≤ ys.length + xs.length := by
    intro xs
    induction xs with
    | nil => intro ys; exact Nat.le_refl _
    | cons x xs ih =>
      intro ys
      have h1 := ih (addS ys x)
      have h2 := addS_le (xs := ys) (y := x)
      show (xs.foldl addS (addS ys x)).length ≤ _
      simp only [List.length_cons]; omega
  have := go xs []
  simpa [dedup] using this
/-- how a kind of set follows the values -/
structure KR (L : Lk) (κ : SKind L.P L.w) where
  ok : PV → Prop
  most : Nat
  st : List PV → κ.T → Hp → Prop
  ini : ∀ H, st [] κ.e0 H
  mono : ∀ {H H' : Hp} {ys : List PV} {t : κ.T}, Kept H H' → st ys t H → st ys t H'
  step : ∀ {φ : List Addr} {H : Hp} {ys : List PV} {t : κ.T} {y : PV} {v : V}, st ys t H → ok y → ys.length < most → VR L φ H y v → ∃ i, ∀ (X : Cx) (pins : List (Addr × Obj)) (σ : L2.St) (s : Shared) (z : Value), X.prog = L.P → X.w = L.w → X.K = L.K → Inv X pins σ H s → RelV v z →
    κ.pre s.heap t z i ∧ ∀ t', κ.nxt t z i t' → st (addS ys y) t' H
  fin : ∀ {H : Hp} {ys : List PV} {t : κ.T} {a : Addr}, st ys t H → H a = some (κ.so a t) → SetS L H a ys
theorem key_str {s : List Nat} {k : Key} : keyV k = .str s ↔ k = .inr ⟨s.toArray⟩ := by
  constructor
  · intro h
    cases k with
    | inl i => cases h
    | inr x =>
      have e : x.cps.toList = s := by injection h
      rw [← e, Str.eta]
  · intro h; rw [h]; simp [keyV]
def krK (L : Lk) : KR L (kindK L.P L.w) where
  ok := fun y => ∃ s, y = .str s
  most := 4000
  st := fun ys t _ => t.2 = ys.length ∧ (∀ k, t.1 k = true ↔ keyV k ∈ ys) ∧ ∀ x ∈ ys, ∃ s, x = .str s
  ini := fun _ => ⟨rfl, fun k => by simp [kindK], fun x hx => nomatch hx⟩
  mono := fun _ h => h
  step := fun {φ H ys t y v} h hy hl hv => by
    obtain ⟨s, rfl⟩ := hy
    obtain ⟨h1, h2, h3⟩ := h
    obtain rfl : v = .str ⟨s.toArray⟩ := hv
    refine ⟨.inr ⟨s.toArray⟩, fun X pins σ sh z _ _ _ I r => ?_⟩
    obtain ⟨tk, rfl⟩ := r
    refine ⟨⟨mixKind_str _ _ _ tk, rfl, by rw [h1]; simp only [scanBound]; omega⟩, fun t' ht => ?_⟩
    have ht' : t' = (fun j => t.1 j || decide (j = (.inr ⟨s.toArray⟩ : Key)), if t.1 (.inr ⟨s.toArray⟩) = true then t.2 else t.2 + 1) := ht
    rw [ht']
    by_cases hm : PV.str s ∈ ys
    · have hS : t.1 (.inr ⟨s.toArray⟩) = true := (h2 _).mpr (by rw [key_str.mpr rfl]; exact hm)
      rw [addS_in hm]
      refine ⟨by simp only [hS, if_true]; exact h1, fun k => ?_, h3⟩
      rw [Bool.or_eq_true, decide_eq_true_eq, h2 k]
      exact ⟨fun q => q.elim id fun q => by rw [key_str.mpr q]; exact hm, .inl⟩
    · have hS : ¬ t.1 (.inr ⟨s.toArray⟩) = true := fun q => hm (by have := (h2 _).mp q; rw [key_str.mpr rfl] at this; exact this)
      rw [addS_new hm]
      refine ⟨by simp only [hS]; rw [List.length_append, ← h1]; rfl, fun k => ?_, fun x hx => ?_⟩
      · rw [Bool.or_eq_true, decide_eq_true_eq, h2 k, List.mem_append, List.mem_singleton, key_str]
      · rcases List.mem_append.mp hx with hx | hx
        · exact h3 x hx
        · exact ⟨s, List.mem_singleton.mp hx⟩
  fin := fun {H ys t a} h e => .inl ⟨t, e, h⟩
def krO (L : Lk) : KR L (kindO L.P L.w) where
  ok := fun y => ∃ i, y = .int i
  most := 4000
  st := fun ys t _ => ∃ ns : List Int, t.2 = ys.length ∧ ys = ns.map .int ∧ ns.Nodup ∧ ∀ k, t.1 k = true ↔ k ∈ ns
  ini := fun _ => ⟨[], rfl, rfl, List.nodup_nil, fun k => by simp [kindO]⟩
  mono := fun _ h => h
  step := fun {φ H ys t y v} h hy hl hv => by
    obtain ⟨n, rfl⟩ := hy
    obtain ⟨ns, h1, rfl, h2, h3⟩ := h
    obtain rfl : v = .int n := hv
    refine ⟨n, fun X pins σ sh z _ _ _ I r => ?_⟩
    obtain ⟨tk, rfl⟩ := r
    refine ⟨⟨⟨tk, rfl⟩, by rw [h1]; simp only [scanBound]; omega⟩, fun t' ht => ?_⟩
    have ht' : t' = (fun j => t.1 j || decide (j = n), if t.1 n = true then t.2 else t.2 + 1) := ht
    rw [ht']
    have mem : PV.int n ∈ ns.map PV.int ↔ n ∈ ns := by
      rw [List.mem_map]
      exact ⟨fun ⟨j, hj, e⟩ => by cases e; exact hj, fun q => ⟨n, q, rfl⟩⟩
    by_cases hm : n ∈ ns
    · have hS : t.1 n = true := (h3 _).mpr hm
      rw [addS_in (mem.mpr hm)]
      refine ⟨ns, by simp only [hS, if_true]; exact h1, rfl, h2, fun k => ?_⟩
      rw [Bool.or_eq_true, decide_eq_true_eq, h3 k]
      exact ⟨fun q => q.elim id fun q => by rw [q]; exact hm, .inl⟩
    · have hS : ¬ t.1 n = true := fun q => hm ((h3 _).mp q)
      rw [addS_new fun q => hm (mem.mp q)]
      refine ⟨ns ++ [n], by simp only [hS]; rw [List.length_append, ← h1]; rfl, by rw [List.map_append]; rfl, ?_, fun k => ?_⟩
      · rw [List.nodup_append]
        exact ⟨h2, by simp, fun a ha b hb e => hm (by rw [List.mem_singleton] at hb; rw [← hb, ← e]; exact ha)⟩
      · rw [Bool.or_eq_true, decide_eq_true_eq, h3 k, List.mem_append, List.mem_singleton]
  fin := fun {H ys t a} h e => let ⟨ns, h1, h2, h3, h4⟩ := h; .inr (.inl ⟨t, ns, e, h1, h2, h3, h4⟩)
theorem ints_vrs {L : Lk} {φ : List Addr} {H : Hp} : ∀ {ns : List Int} {vs : List V}, VRs L φ H (ns.map .int) vs → vs = ns.map V.int
  | [], vs, h => h
  | n :: ns, vs, h => by
    obtain ⟨v, r, rfl, h1, h2⟩ := (show ∃ v r, vs = v :: r ∧ VR L φ H (.int n) v ∧ VRs L φ H (ns.map .int) r from h)
    obtain rfl : v = .int n := h1
    rw [ints_vrs h2]; rfl
theorem vrs_ints {L : Lk} {φ : List Addr} {H : Hp} : ∀ (ns : List Int), VRs L φ H (ns.map .int) (ns.map V.int)
  | [] => rfl
  | n :: ns => ⟨.int n, _, rfl, rfl, vrs_ints ns⟩
theorem map_int_inj : ∀ {a b : List Int}, a.map PV.int = b.map PV.int → a = b
  | [], [], _ => rfl
  | x :: a, y :: b, h => by
    rw [List.map_cons, List.map_cons] at h
    have e1 : x = y := by injection h with h1 h2; injection h1
    have e2 : a.map PV.int = b.map PV.int := by injection h
    rw [e1, map_int_inj e2]
  | [], _ :: _, h => by cases h
  | _ :: _, [], h => by cases h
def stT (L : Lk) (ys : List PV) (T : List (Addr × List Int)) (H : Hp) : Prop := ys.Perm (T.map fun p => .tup (p.2.map .int)) ∧ ∀ p ∈ T, SqT L.K H p.1 (p.2.map V.int)
theorem stT_step {L : Lk} {φ : List Addr} {H : Hp} {ys : List PV} {t : List (Addr × List Int)} {y : PV} {v : V} (h : stT L ys t H) (hy : ∃ ns : List Int, y = .tup (ns.map .int)) (hl : ys.length < 60) (hv : VR L φ H y v) :
    ∃ i : Addr × List Int, ∀ (X : Cx) (pins : List (Addr × Obj)) (σ : L2.St) (s : Shared) (z : Value), X.prog = L.P → X.w = L.w → X.K = L.K → Inv X pins σ H s → RelV v z →
      (z = .ref i.1 ∧ IsT L.P L.w s.heap i.2 i.1 ∧ (∀ p ∈ t, IsT L.P L.w s.heap p.2 p.1) ∧ t.length + 1 < 64) ∧ ∀ t' : List (Addr × List Int), ((i.2 ∈ t.map (·.2) → t' = t) ∧ (i.2 ∉ t.map (·.2) → t'.Perm (i :: t))) → stT L (addS ys y) t' H := by
  obtain ⟨ns, rfl⟩ := hy
  obtain ⟨h1, h2⟩ := h
  obtain ⟨a, vs, rfl, ha, hvs⟩ := (show ∃ (a : Addr) (vs : List V), v = .ref a ∧ SqT L.K H a vs ∧ VRs L φ H (ns.map .int) vs from hv)
  obtain rfl := ints_vrs hvs
  have mem : PV.tup (ns.map .int) ∈ ys ↔ ns ∈ t.map (·.2) := by
    rw [h1.mem_iff, List.mem_map, List.mem_map]
    exact ⟨fun ⟨p, hp, e⟩ => ⟨p, hp, map_int_inj (by injection e)⟩, fun ⟨p, hp, e⟩ => ⟨p, hp, by rw [e]⟩⟩
  refine ⟨(a, ns), fun X pins σ sh z hP hW hK I r => ?_⟩
  obtain rfl : z = .ref a := r
  have isT : ∀ {b : Addr} {ms : List Int}, SqT L.K H b (ms.map V.int) → IsT L.P L.w sh.heap ms b := fun {b ms} q => by rw [← hP, ← hW]; exact I.isT (by rw [hK]; exact q)
  refine ⟨⟨rfl, isT ha, fun p hp => isT (h2 p hp), ?_⟩, fun t' ⟨ht1, ht2⟩ => ?_⟩
  · have := h1.length_eq
    rw [List.length_map] at this
    rw [← this]; omega
  · by_cases hm : PV.tup (ns.map .int) ∈ ys
    · rw [addS_in hm, ht1 (mem.mp hm)]; exact ⟨h1, h2⟩
    · have pm := ht2 fun q => hm (mem.mpr q)
      rw [addS_new hm]
      refine ⟨(h1.append_right _).trans ((List.perm_append_comm).trans ((pm.map fun p : Addr × List Int => PV.tup (p.2.map PV.int)).symm)), fun p hp => ?_⟩
      rcases List.mem_cons.mp (pm.mem_iff.mp hp) with rfl | hp
      · exact ha
      · exact h2 p hp
def krT (L : Lk) : KR L (kindT L.P L.w) where
  ok := fun y => ∃ ns : List Int, y = .tup (ns.map .int)
  most := 60
  st := stT L
  ini := fun _ => ⟨.refl _, fun p hp => nomatch hp⟩
  mono := fun kp h => ⟨h.1, fun p hp => kp.sqT (h.2 p hp)⟩
  step := fun h hy hl hv => stT_step h hy hl hv
  fin := fun {H ys t a} h e => .inr (.inr ⟨t, e, h⟩)
theorem allS {xs : List PV} (h : xs.all isS = true) : ∀ x ∈ xs, ∃ s, x = .str s := fun x hx => by
  have := List.all_eq_true.mp h x hx
  cases x <;> first | exact ⟨_, rfl⟩ | cases this
theorem allI {xs : List PV} (h : xs.all isI = true) : ∀ x ∈ xs, ∃ i, x = .int i := fun x hx => by
  have := List.all_eq_true.mp h x hx
  cases x <;> first | exact ⟨_, rfl⟩ | cases this
theorem ints_of_all : ∀ {xs : List PV}, xs.all isI = true → ∃ ns : List Int, xs = ns.map .int
  | [], _ => ⟨[], rfl⟩
  | x :: xs, h => by
    rw [List.all_cons, Bool.and_eq_true] at h
    obtain ⟨ns, e⟩ := ints_of_all h.2
    cases x with
    | int i => exact ⟨i :: ns, by rw [e]; rfl⟩
    | _ => exact absurd h.1 (by simp [isI])
theorem allT {xs : List PV} (h : xs.all isTI = true) : ∀ x ∈ xs, ∃ ns : List Int, x = .tup (ns.map .int) := fun x hx => by
  have := List.all_eq_true.mp h x hx
  cases x with
  | tup ys => obtain ⟨ns, e⟩ := ints_of_all this; exact ⟨ns, by rw [e]⟩
  | _ => cases this
/-- the kind by what comes into the set -/
theorem kind_of (L : Lk) {xs : List PV} (h : setOk xs = true) : ∃ (κ : SKind L.P L.w) (R : KR L κ), (∀ x ∈ xs, R.ok x) ∧ xs.length ≤ R.most := by
  unfold setOk at h
  rw [Bool.or_eq_true, Bool.or_eq_true, Bool.and_eq_true, Bool.and_eq_true, Bool.and_eq_true, decide_eq_true_eq, decide_eq_true_eq] at h
  rcases h with (h | h) | h
  · exact ⟨_, krK L, allS h.1, h.2⟩
  · exact ⟨_, krO L, allI h.1, h.2⟩
  · exact ⟨_, krT L, allT h.1, h.2⟩
section
variable {c : Ctx} {k : Nat} {L : Lk} {S : Sk} {X : Cx} {W : WX} {pos : Pos} {tg : Expr}
theorem sc_go (hp : ∀ f vs, Pres (c.fn f vs)) {e : Ex} {own : List Nat} (hban : ∀ i ∈ own, ∀ p ∈ L.sl, p.1 ≠ i) {t : Tg} {it : Itr} {ifs : List Ex} {σ : L2.St} {H : Hp} {Q : VK} (hown : ∀ j ∈ tgN t, j ∈ own) (h : tE L W (fun ρ => evE c ρ (.sc e (.mk own t it ifs))) σ H Q) :
    tScG L.P L.w L.K (tI L W fun ρ => evIt c ρ it) (exG fun Y => tG (L.hold Y) (tgN t) fun ρ v => M.quiet (asgT c ρ t v)) (exT fun Y => tTs (L.hold Y) fun ρ => evTs c ρ ifs) (exE fun Y => tE (L.hold Y) WF fun ρ => evE c ρ e) own σ H Q := by
  obtain ⟨φ, ρ, st, R, E, P⟩ := h
  have P1 : PostE L W σ φ H (frame (evIt c ρ it >>= fun w => M.quiet (locked w.held (turns (turnF c e own t ifs ρ) w.items)) >>= fun xs => M.guard (setOk xs) >>= fun _ => alloc (.set (dedup xs))) st) Q := by simp only [evE] at P; exact P
  have hpt : ∀ x, Pres (turnF c e own t ifs ρ x) := fun x => Pres.bind (pres_asgT hp _ t x) fun ρ' => Pres.bind (pres_evTs hp ρ' ifs) fun k => by
    cases k
    · exact Pres.pure
    · exact Pres.bind (pres_evE hp ρ' e) fun _ => Pres.pure
  have P2 := frame_post (Pres.bind (pres_evIt hp ρ it) fun w => Pres.bind (Pres.quiet (Pres.locked (Pres.turns hpt _))) fun _ => Pres.bind Pres.guard fun _ => Pres.alloc) R P1
  refine ⟨φ, ρ, { st with low := st.objs.length }, R.setLow, E, (PostW.bindE P2).imp fun J H1 ⟨φ1, t1, w, ew, S1, R1, ⟨Y, hY, hR, hJ⟩, P3⟩ => ?_⟩
  intro D hD
  cases er : turns (turnF c e own t ifs ρ) w.items { t1 with lk := w.held ++ t1.lk } with
  | exc y u =>
    have : M.quiet (locked w.held (turns (turnF c e own t ifs ρ) w.items)) t1 = .stuck := quiet_exc (x := y) (t := { u with lk := t1.lk }) (by unfold locked; rw [er])
    rw [bind_stuck this] at P3; exact (show False from P3).elim
  | stuck =>
    have : M.quiet (locked w.held (turns (turnF c e own t ifs ρ) w.items)) t1 = .stuck := quiet_stuck (by unfold locked; rw [er])
    rw [bind_stuck this] at P3; exact (show False from P3).elim
  | ok xs u =>
    have el : M.quiet (locked w.held (turns (turnF c e own t ifs ρ) w.items)) t1 = .ok xs { u with lk := t1.lk } := quiet_ok (by unfold locked; rw [er])
    rw [bind_ok el] at P3
    cases hset : setOk xs with
    | false => rw [guard_no hset] at P3; exact (show False from P3).elim
    | true =>
      rw [guard_ok hset] at P3
      obtain ⟨κ, K, hok, hmost⟩ := kind_of L hset
      have Rstart := hR (w.held ++ t1.lk) (fun i hi => List.mem_append_right _ hi) (fun i hi => List.mem_append_left _ hi)
      have E1 := E.mono S1
      refine ⟨κ, fun i m H2 => m = w.items.length - i ∧ i ≤ w.items.length ∧ ∃ φ2 t2 acc tv rest, Step φ1 H1 φ2 H2 ∧ Rl (L.hold Y) φ2 t2 H2 ∧ Le { t1 with lk := w.held ++ t1.lk } t2 ∧ D ∉ φ2 ∧ H2 D = some (κ.so D tv) ∧ K.st (dedup acc) tv H2 ∧
        turns (turnF c e own t ifs ρ) (w.items.drop i) t2 = .ok rest u ∧ acc ++ rest = xs, ⟨w.items.length, ?_⟩, ?_⟩
      · have nD : D ∉ φ1 := R1.fresh hD
        exact ⟨by simp, Nat.zero_le _, φ1, _, [], κ.e0, xs, Step.side hD, Rstart.side hD, Le.refl, nD, upd_same, K.ini _, by rw [List.drop_zero]; exact er, rfl⟩
      · rintro i m H2 ⟨rfl, hi, φ2, t2, acc, tv, rest, S2, R2, L2', nD, hDv, hacc, hrest, hxs⟩
        have held : ∀ r ∈ w.held, r < t1.objs.length → t2.objs[r]? = t1.objs[r]? := fun r hr hlt => L2'.at_ r hlt (.inr (List.mem_append_left _ hr))
        obtain ⟨hgo, hstop⟩ := hJ φ2 t2 H2 i S2.k R2 held
        by_cases hlt : i < w.items.length
        · refine .inr ⟨(hgo w.items[i] (List.getElem?_eq_getElem hlt)).1, fun H' => ∃ φ2 t2 acc tv rest, Step φ1 H1 φ2 H' ∧ Rl (L.hold Y) φ2 t2 H' ∧ Le { t1 with lk := w.held ++ t1.lk } t2 ∧ D ∉ φ2 ∧ H' D = some (κ.so D tv) ∧ K.st (dedup acc) tv H' ∧
            turns (turnF c e own t ifs ρ) (w.items.drop (i + 1)) t2 = .ok rest u ∧ acc ++ rest = xs, fun H' h => ⟨w.items.length - (i + 1), by omega, rfl, hlt, h⟩, fun v H' hy => ?_⟩
          obtain ⟨Sy, Ry, Vy⟩ := (hgo w.items[i] (List.getElem?_eq_getElem hlt)).2 v H' hy
          rw [List.drop_eq_getElem_cons hlt] at hrest
          obtain ⟨r, u1, zs, hf, hz, hr⟩ := turns_cons hrest
          have Lf : Le t2 u1 := by have := hpt w.items[i] t2; rw [hf] at this; exact this
          obtain ⟨ρ', s1, ha, b, s2, hb, hcase⟩ := turnF_ok hf
          have Ey : ER (L.hold Y) φ2 H' (wipeE ρ own) (L2.wipe σ own) := ER.hold.mpr (((E1.mono S2).mono Sy).wipe own hban)
          refine ⟨Y, φ2, wipeE ρ own, t2, w.items[i], Ry, Ey, (VR.hold _ _).mpr Vy, ?_⟩
          show PostG (L.hold Y) _ φ2 H' (tgN t) (M.quiet (asgT c (wipeE ρ own) t w.items[i]) t2) _
          rw [quiet_ok ha]
          intro φ3 H3 σ3 S3 R3 E3 O3
          refine ⟨wipe_only O3 hown, Y, φ3, ρ', s1, R3, E3, ?_⟩
          show (match evTs c ρ' ifs s1 with | .ok b t => ∀ φ' H', Step φ3 H3 φ' H' → Rl (L.hold Y) φ' t H' → _ | _ => False)
          rw [hb]
          intro φ4 H4 S4 R4
          have Sall : Step φ2 H2 φ4 H4 := (Sy.trans S3).trans S4
          rcases hcase with ⟨rfl, y, he, rfl⟩ | ⟨rfl, rfl, rfl⟩
          · rw [if_pos rfl]
            refine ⟨Y, φ4, ρ', s2, R4, E3.mono S4, ?_⟩
            show PostE (L.hold Y) WF σ3 φ4 H4 (evE c ρ' e s2) _
            rw [he]
            intro φ5 H5 v5 S5 R5 V5
            obtain ⟨nD5, hD5⟩ := (Sall.trans S5).out D _ nD hDv
            have hx2 : acc.length < xs.length := by rw [← hxs, hr]; simp
            have hyx : y ∈ xs := by rw [← hxs, hr]; simp
            obtain ⟨ii, hstep⟩ := K.step (K.mono (Sall.trans S5).kp hacc) (hok y hyx) (Nat.lt_of_le_of_lt dedup_le (Nat.lt_of_lt_of_le hx2 hmost)) ((VR.hold _ _).mp V5)
            refine ⟨tv, ii, hD5, fun X' pins σ' sh z hP hW hK I r => ?_⟩
            obtain ⟨g1, g2⟩ := hstep X' pins σ' sh z hP hW hK I r
            refine ⟨g1, fun t' hn => ⟨φ5, u1, acc ++ [y], t', zs, (S2.trans (Sall.trans S5)).beside hD hD5 κ.mu, R5.beside nD5 hD5 κ.mu, L2'.trans Lf, nD5, upd_same, ?_, hz, by rw [← hxs, hr]; simp⟩⟩
            rw [dedup_snoc]
            exact K.mono (Kept.put hD5 κ.mu) (g2 t' hn)
          · rw [if_neg Bool.false_ne_true]
            obtain ⟨nD4, hD4⟩ := Sall.out D _ nD hDv
            exact ⟨φ4, u1, acc, tv, zs, S2.trans Sall, R4, L2'.trans Lf, nD4, hD4, K.mono Sall.kp hacc, hz, by rw [← hxs, hr]; simp⟩
        · refine .inl ⟨hstop (Nat.le_of_not_lt hlt), ?_⟩
          rw [List.drop_eq_nil_of_le (Nat.le_of_not_lt hlt)] at hrest
          simp only [turns] at hrest
          cases hrest
          rw [List.append_nil] at hxs
          subst hxs
          have R3 : Rl L φ2 { u with lk := t1.lk } H2 := (R2.unhold hY).relk (fun i hi => (R1.fr i hi).1) fun p hp => (R1.fx p hp).1
          refine P3 (φ2 ++ [D]) H2 (.ref D) (S2.adopt hD) (R3.adopt nD (ob := .set (dedup acc)) (K.fin hacc hDv)) ⟨D, rfl, ?_⟩
          show (φ2 ++ [D])[u.objs.length]? = some D
          rw [← R2.len]; simp
theorem sc_ok (G : Good c k L S X) (hc : S.cold = true) (hp : ∀ f vs, Pres (c.fn f vs)) {e : Ex} {own : List (Str × Nat)} {t : Tg} {it : Itr} {ifs : List Ex} {elt iter : Expr} {tests : List Expr} {scope : Scope} (hown : ∀ j ∈ tgN t, j ∈ own.map (·.2)) (hban : (own.all fun p => !S.ban.contains p.2) = true) (hs : notSet iter = true)
    (ok : BlkOk X.N X.env.scope scope own) (hi : PI X tg iter (tI L W fun ρ => evIt c ρ it))
    (hg : ∀ X' L', Good c k L' (S.blk scope) X' → PG X' tg (tG L' (tgN t) fun ρ v => M.quiet (asgT c ρ t v)))
    (ht : ∀ X' L', Good c k L' (S.blk scope) X' → PTs X' tests (tTs L' fun ρ => evTs c ρ ifs))
    (he : ∀ X' L', Good c k L' (S.blk scope) X' → PE X' elt (tE L' WF fun ρ => evE c ρ e)) :
    PE X (.SetComp elt [⟨tg, iter, tests, 0⟩] scope pos) (tE L W fun ρ => evE c ρ (.sc e (.mk (own.map (·.2)) t it ifs))) :=
  peI (pe_scG (G.calm hc).1 G.units G.nd hi ok (fun s H C cl fp => pg_ex fun Y => hg _ _ ((G.hold Y).blk s H scope C cl fp)) (fun s H C cl fp => pts_ex fun Y => ht _ _ ((G.hold Y).blk s H scope C cl fp)) (fun s H C cl fp => pe_ex fun Y => he _ _ ((G.hold Y).blk s H scope C cl fp)) fun x => notFold_ok hs)
    fun σ H Q h => by rw [G.hP, G.hW, G.hK]; exact sc_go hp (bans_of G hban) hown h
end
end TL
end

section
set_option maxRecDepth 100000
set_option maxHeartbeats 2000000
set_option autoImplicit false
/-! TL: list comprehensions of two clauses. -/
namespace TL
open PySem PySem.Spec PyProof.Rows L2
section
variable {c : Ctx} {k : Nat} {L : Lk} {S : Sk} {X : Cx} {W : WX} {pos : Pos} {tg tg1 : Expr}
/-- a turn of the outer clause -/
def turn2F (c : Ctx) (e : Ex) (own own2 : List Nat) (tg tg2 : Tg) (it2 : Itr) (ifs ifs2 : List Ex) (ρ : Env) (x : PV) : M (List PV) := do
  let ρ' ← asgT c (wipeE ρ own) tg x
  match ← evTs c ρ' ifs with
  | true => do
    let w2 ← evIt c ρ' it2
    locked w2.held (turns (turnF c e own2 tg2 ifs2 ρ') w2.items)
  | false => return []
theorem turns2_cons {f : PV → M (List PV)} {x : PV} {xs ys : List PV} {st t : Sto} (h : turns2 f (x :: xs) st = .ok ys t) : ∃ r u zs, f x st = .ok r u ∧ turns2 f xs u = .ok zs t ∧ ys = r ++ zs := by
  simp only [turns2] at h
  obtain ⟨r, u, h1, h⟩ := bind_inv h
  obtain ⟨zs, s2, h2, h⟩ := bind_inv h
  cases h
  exact ⟨r, u, zs, h1, h2, rfl⟩
theorem turn2F_ok {e : Ex} {own own2 : List Nat} {t t2 : Tg} {it2 : Itr} {ifs ifs2 : List Ex} {ρ : Env} {x : PV} {st t' : Sto} {r : List PV} (h : turn2F c e own own2 t t2 it2 ifs ifs2 ρ x st = .ok r t') :
    ∃ ρ' s1, asgT c (wipeE ρ own) t x st = .ok ρ' s1 ∧ ∃ b s2, evTs c ρ' ifs s1 = .ok b s2 ∧ ((b = true ∧ ∃ w2 s3 u2, evIt c ρ' it2 s2 = .ok w2 s3 ∧ turns (turnF c e own2 t2 ifs2 ρ') w2.items { s3 with lk := w2.held ++ s3.lk } = .ok r u2 ∧ t' = { u2 with lk := s3.lk }) ∨ (b = false ∧ r = [] ∧ t' = s2)) := by
  unfold turn2F at h
  obtain ⟨ρ', s1, h1, h⟩ := bind_inv h
  obtain ⟨b, s2, h2, h⟩ := bind_inv h
  refine ⟨ρ', s1, h1, b, s2, h2, ?_⟩
  cases b with
  | true =>
    obtain ⟨w2, s3, h3, h⟩ := bind_inv h
    refine .inl ⟨rfl, w2, s3, ?_⟩
    unfold locked at h
    cases e5 : turns (turnF c e own2 t2 ifs2 ρ') w2.items { s3 with lk := w2.held ++ s3.lk } with
    | ok ys u2 => rw [e5] at h; cases h; exact ⟨u2, h3, rfl, rfl⟩
    | exc y u2 => rw [e5] at h; cases h
    | stuck => rw [e5] at h; cases h
  | false => cases h; exact .inr ⟨rfl, rfl, rfl⟩
def exI (f : List (Nat × Addr × HO) → TI) : TI := fun σ H R => ∃ Y, f Y σ H R
theorem pi_ex {e : Expr} {f : List (Nat × Addr × HO) → TI} (h : ∀ Y, PI X tg e (f Y)) : PI X tg e (exI f) := ⟨fun pins s σ H R I ⟨Y, q⟩ => (h Y).run pins s σ H R I q⟩
theorem lc2_go (hp : ∀ f vs, Pres (c.fn f vs)) {e : Ex} {own own2 : List Nat} (hban : ∀ i ∈ own, ∀ p ∈ L.sl, p.1 ≠ i) (hban2 : ∀ i ∈ own2, ∀ p ∈ L.sl, p.1 ≠ i) {t ti : Tg} {it it2 : Itr} {ifs ifs2 : List Ex} {σ : L2.St} {H : Hp} {Q : VK} (hown : ∀ j ∈ tgN t, j ∈ own) (hown2 : ∀ j ∈ tgN ti, j ∈ own2)
    (h : tE L W (fun ρ => evE c ρ (.lc2 e (.mk own t it ifs) (.mk own2 ti it2 ifs2))) σ H Q) :
    tLc2 (tI L W fun ρ => evIt c ρ it) (exG fun Y => tG (L.hold Y) (tgN t) fun ρ v => M.quiet (asgT c ρ t v)) (exT fun Y => tTs (L.hold Y) fun ρ => evTs c ρ ifs)
      (exI fun Y => tI (L.hold Y) WF fun ρ => evIt c ρ it2) (exG fun Y => tG (L.hold Y) (tgN ti) fun ρ v => M.quiet (asgT c ρ ti v)) (exT fun Y => tTs (L.hold Y) fun ρ => evTs c ρ ifs2) (exE fun Y => tE (L.hold Y) WF fun ρ => evE c ρ e) own own2 σ H Q := by
  obtain ⟨φ, ρ, st, R, E, P⟩ := h
  have P1 : PostE L W σ φ H (frame (evIt c ρ it >>= fun w => M.quiet (locked w.held (turns2 (turn2F c e own own2 t ti it2 ifs ifs2 ρ) w.items)) >>= fun xs => M.guard (xs.length ≤ lineN) >>= fun _ => alloc (.list xs)) st) Q := by simp only [evE] at P; exact P
  have hpt1 : ∀ ρ' x, Pres (turnF c e own2 ti ifs2 ρ' x) := fun ρ0 x => Pres.bind (pres_asgT hp _ ti x) fun ρ' => Pres.bind (pres_evTs hp ρ' ifs2) fun k => by
    cases k
    · exact Pres.pure
    · exact Pres.bind (pres_evE hp ρ' e) fun _ => Pres.pure
  have hpt : ∀ x, Pres (turn2F c e own own2 t ti it2 ifs ifs2 ρ x) := fun x => Pres.bind (pres_asgT hp _ t x) fun ρ' => Pres.bind (pres_evTs hp ρ' ifs) fun k => by
    cases k
    · exact Pres.pure
    · exact Pres.bind (pres_evIt hp ρ' it2) fun w2 => Pres.locked (Pres.turns (hpt1 ρ') _)
  have P2 := frame_post (Pres.bind (pres_evIt hp ρ it) fun w => Pres.bind (Pres.quiet (Pres.locked (Pres.turns2 hpt _))) fun _ => Pres.bind Pres.guard fun _ => Pres.alloc) R P1
  refine ⟨φ, ρ, { st with low := st.objs.length }, R.setLow, E, (PostW.bindE P2).imp fun J H1 ⟨φ1, t1, w, ew, S1, R1, ⟨Y, hY, hR, hJ⟩, P3⟩ => ?_⟩
  intro D hD
  cases er : turns2 (turn2F c e own own2 t ti it2 ifs ifs2 ρ) w.items { t1 with lk := w.held ++ t1.lk } with
  | exc y u =>
    have : M.quiet (locked w.held (turns2 (turn2F c e own own2 t ti it2 ifs ifs2 ρ) w.items)) t1 = .stuck := quiet_exc (x := y) (t := { u with lk := t1.lk }) (by unfold locked; rw [er])
    rw [bind_stuck this] at P3; exact (show False from P3).elim
  | stuck =>
    have : M.quiet (locked w.held (turns2 (turn2F c e own own2 t ti it2 ifs ifs2 ρ) w.items)) t1 = .stuck := quiet_stuck (by unfold locked; rw [er])
    rw [bind_stuck this] at P3; exact (show False from P3).elim
  | ok xs u =>
    have el : M.quiet (locked w.held (turns2 (turn2F c e own own2 t ti it2 ifs ifs2 ρ) w.items)) t1 = .ok xs { u with lk := t1.lk } := quiet_ok (by unfold locked; rw [er])
    rw [bind_ok el] at P3
    by_cases hlen : xs.length ≤ lineN
    · rw [guard_ok (by simpa using hlen)] at P3
      have Rstart := hR (w.held ++ t1.lk) (fun i hi => List.mem_append_right _ hi) (fun i hi => List.mem_append_left _ hi)
      have E1 := E.mono S1
      refine ⟨fun i m H2 => m = w.items.length - i ∧ i ≤ w.items.length ∧ ∃ φ2 t2 acc accV rest, Step φ1 H1 φ2 H2 ∧ Rl (L.hold Y) φ2 t2 H2 ∧ Le { t1 with lk := w.held ++ t1.lk } t2 ∧ D ∉ φ2 ∧ H2 D = some (.lst accV) ∧ VRs L φ2 H2 acc accV ∧
        turns2 (turn2F c e own own2 t ti it2 ifs ifs2 ρ) (w.items.drop i) t2 = .ok rest u ∧ acc ++ rest = xs, ⟨w.items.length, ?_⟩, ?_⟩
      · have nD : D ∉ φ1 := R1.fresh hD
        exact ⟨by simp, Nat.zero_le _, φ1, _, [], [], xs, Step.side hD, Rstart.side hD, Le.refl, nD, upd_same, rfl, by rw [List.drop_zero]; exact er, rfl⟩
      · rintro i m H2 ⟨rfl, hi, φ2, t2, acc, accV, rest, S2, R2, L2', nD, hDv, hacc, hrest, hxs⟩
        have held : ∀ r ∈ w.held, r < t1.objs.length → t2.objs[r]? = t1.objs[r]? := fun r hr hlt => L2'.at_ r hlt (.inr (List.mem_append_left _ hr))
        obtain ⟨hgo, hstop⟩ := hJ φ2 t2 H2 i S2.k R2 held
        by_cases hlt : i < w.items.length
        · refine .inr ⟨(hgo w.items[i] (List.getElem?_eq_getElem hlt)).1, fun H' => ∃ φ2 t2 acc accV rest, Step φ1 H1 φ2 H' ∧ Rl (L.hold Y) φ2 t2 H' ∧ Le { t1 with lk := w.held ++ t1.lk } t2 ∧ D ∉ φ2 ∧ H' D = some (.lst accV) ∧ VRs L φ2 H' acc accV ∧
            turns2 (turn2F c e own own2 t ti it2 ifs ifs2 ρ) (w.items.drop (i + 1)) t2 = .ok rest u ∧ acc ++ rest = xs, fun H' h => ⟨w.items.length - (i + 1), by omega, rfl, hlt, h⟩, fun v H' hy => ?_⟩
          obtain ⟨Sy, Ry, Vy⟩ := (hgo w.items[i] (List.getElem?_eq_getElem hlt)).2 v H' hy
          rw [List.drop_eq_getElem_cons hlt] at hrest
          obtain ⟨r, u1, zs, hf, hz, hr⟩ := turns2_cons hrest
          have Lf : Le t2 u1 := by have := hpt w.items[i] t2; rw [hf] at this; exact this
          obtain ⟨ρ', s1, ha, b, s2, hb, hcase⟩ := turn2F_ok hf
          have Ey : ER (L.hold Y) φ2 H' (wipeE ρ own) (L2.wipe σ own) := ER.hold.mpr (((E1.mono S2).mono Sy).wipe own hban)
          refine ⟨Y, φ2, wipeE ρ own, t2, w.items[i], Ry, Ey, (VR.hold _ _).mpr Vy, ?_⟩
          show PostG (L.hold Y) _ φ2 H' (tgN t) (M.quiet (asgT c (wipeE ρ own) t w.items[i]) t2) _
          rw [quiet_ok ha]
          intro φ3 H3 σ3 S3 R3 E3 O3
          refine ⟨wipe_only O3 hown, Y, φ3, ρ', s1, R3, E3, ?_⟩
          show (match evTs c ρ' ifs s1 with | .ok b t => ∀ φ' H', Step φ3 H3 φ' H' → Rl (L.hold Y) φ' t H' → _ | _ => False)
          rw [hb]
          intro φ4 H4 S4 R4
          have Sall : Step φ2 H2 φ4 H4 := (Sy.trans S3).trans S4
          obtain ⟨nD4, hD4⟩ := Sall.out D _ nD hDv
          have E4 := E3.mono S4
          rcases hcase with ⟨rfl, w2, s3, u2, hit, hin, rfl⟩ | ⟨rfl, rfl, rfl⟩
          · rw [if_pos rfl]
            refine ⟨Y, φ4, ρ', s2, R4, E4, ?_⟩
            show PostW (L.hold Y) WF σ3 φ4 H4 (evIt c ρ' it2 s2) _
            rw [hit]
            intro φ5 H5 J1 S5 R5 ⟨Y2, hY2, hR2, hJ2⟩
            obtain ⟨nD5, hD5⟩ := S5.out D _ nD4 hD4
            have E5 := E4.mono S5
            have Rin := hR2 (w2.held ++ s3.lk) (fun i hi => List.mem_append_right _ hi) (fun i hi => List.mem_append_left _ hi)
            refine ⟨fun j k H6 => k = w2.items.length - j ∧ j ≤ w2.items.length ∧ ∃ φ6 t6 acc2 accV2 rest2, StepK φ5 H5 φ6 H6 ∧ Rl (L.hold Y2) φ6 t6 H6 ∧ Le { s3 with lk := w2.held ++ s3.lk } t6 ∧ D ∉ φ6 ∧ H6 D = some (.lst accV2) ∧ VRs L φ6 H6 (acc ++ acc2) accV2 ∧
              Step φ1 H1 φ6 H6 ∧ turns (turnF c e own2 ti ifs2 ρ') (w2.items.drop j) t6 = .ok rest2 u2 ∧ acc2 ++ rest2 = r, ⟨w2.items.length, ?_⟩, ?_⟩
            · refine ⟨by simp, Nat.zero_le _, φ5, _, [], accV, r, StepK.refl, Rin, Le.refl, nD5, hD5, ?_, S2.trans (Sall.trans S5), by rw [List.drop_zero]; exact hin, rfl⟩
              rw [List.append_nil]
              exact hacc.mono (Sall.trans S5)
            · rintro j kk H6 ⟨rfl, hj, φ6, t6, acc2, accV2, rest2, S6, R6, L6, nD6, hD6, hacc6, S16, hrest6, hr6⟩
              have held2 : ∀ r ∈ w2.held, r < s3.objs.length → t6.objs[r]? = s3.objs[r]? := fun r hr hlt => L6.at_ r hlt (.inr (List.mem_append_left _ hr))
              obtain ⟨hgo2, hstop2⟩ := hJ2 φ6 t6 H6 j S6 R6 held2
              by_cases hlt2 : j < w2.items.length
              · refine .inr ⟨(hgo2 w2.items[j] (List.getElem?_eq_getElem hlt2)).1, fun H6 => ∃ φ6 t6 acc2 accV2 rest2, StepK φ5 H5 φ6 H6 ∧ Rl (L.hold Y2) φ6 t6 H6 ∧ Le { s3 with lk := w2.held ++ s3.lk } t6 ∧ D ∉ φ6 ∧ H6 D = some (.lst accV2) ∧ VRs L φ6 H6 (acc ++ acc2) accV2 ∧
                  Step φ1 H1 φ6 H6 ∧ turns (turnF c e own2 ti ifs2 ρ') (w2.items.drop (j + 1)) t6 = .ok rest2 u2 ∧ acc2 ++ rest2 = r, fun H' h => ⟨w2.items.length - (j + 1), by omega, rfl, hlt2, h⟩, fun v2 H7 hy2 => ?_⟩
                obtain ⟨Sy2, Ry2, Vy2⟩ := (hgo2 w2.items[j] (List.getElem?_eq_getElem hlt2)).2 v2 H7 hy2
                rw [List.drop_eq_getElem_cons hlt2] at hrest6
                obtain ⟨r2, u3, zs2, hf2, hz2, hr2⟩ := turns_cons hrest6
                have Lf2 : Le t6 u3 := by have := hpt1 ρ' w2.items[j] t6; rw [hf2] at this; exact this
                obtain ⟨ρ2, q1, ha2, b2, q2, hb2, hcase2⟩ := turnF_ok hf2
                have Ey2 : ER (L.hold Y2) φ6 H7 (wipeE ρ' own2) (L2.wipe σ3 own2) := ER.hold.mpr ((((ER.hold.mp E5).monoK S6 (E1.mono S16).xc).mono Sy2).wipe own2 hban2)
                refine ⟨Y2, φ6, wipeE ρ' own2, t6, w2.items[j], Ry2, Ey2, (VR.hold _ _).mpr ((VR.hold _ _).mp Vy2), ?_⟩
                show PostG (L.hold Y2) _ φ6 H7 (tgN ti) (M.quiet (asgT c (wipeE ρ' own2) ti w2.items[j]) t6) _
                rw [quiet_ok ha2]
                intro φ8 H8 σ8 S8 R8 E8 O8
                refine ⟨wipe_only O8 hown2, Y2, φ8, ρ2, q1, R8, E8, ?_⟩
                show (match evTs c ρ2 ifs2 q1 with | .ok b t => ∀ φ' H', Step φ8 H8 φ' H' → Rl (L.hold Y2) φ' t H' → _ | _ => False)
                rw [hb2]
                intro φ9 H9 S9 R9
                have Sin : Step φ6 H6 φ9 H9 := (Sy2.trans S8).trans S9
                rcases hcase2 with ⟨rfl, y, he, rfl⟩ | ⟨rfl, rfl, rfl⟩
                · rw [if_pos rfl]
                  refine ⟨Y2, φ9, ρ2, q2, R9, E8.mono S9, ?_⟩
                  show PostE (L.hold Y2) WF σ8 φ9 H9 (evE c ρ2 e q2) _
                  rw [he]
                  intro φa Ha va Sa Ra Va
                  obtain ⟨nDa, hDa⟩ := (Sin.trans Sa).out D _ nD6 hD6
                  have hx2 : accV2.length < xs.length := by rw [hacc6.length, ← hxs, hr, ← hr6, hr2]; simp only [List.length_append, List.length_cons]; omega
                  refine ⟨accV2, hDa, Nat.lt_of_lt_of_le hx2 (Nat.le_trans hlen lineN_le), φa, u3, acc2 ++ [y], accV2 ++ [va], zs2, ?_, Ra.beside nDa hDa (by trivial), L6.trans Lf2, nDa, upd_same, ?_, ?_, hz2, by rw [← hr6, hr2]; simp⟩
                  · have sk := S6.trans (Sin.trans Sa).k
                    exact ⟨sk.pre, sk.len, sk.kp.trans (Kept.put hDa (by trivial))⟩
                  · rw [← List.append_assoc]
                    have kp : Kept Ha (upd Ha D (.lst (accV2 ++ [va]))) := Kept.put hDa (by trivial)
                    exact VRs.append (VRs.mono0 (fun _ _ h => h) kp _ _ (hacc6.mono (Sin.trans Sa))) (VRs.one (VR.mono0 (fun _ _ h => h) kp _ _ ((VR.hold _ _).mp Va)))
                  · exact (S16.trans (Sin.trans Sa)).beside hD hDa (by trivial)
                · rw [if_neg Bool.false_ne_true]
                  obtain ⟨nD9, hD9⟩ := Sin.out D _ nD6 hD6
                  exact ⟨φ9, u3, acc2, accV2, zs2, S6.trans Sin.k, R9, L6.trans Lf2, nD9, hD9, hacc6.mono Sin, S16.trans Sin, hz2, by rw [← hr6, hr2]; simp⟩
              · refine .inl ⟨hstop2 (Nat.le_of_not_lt hlt2), ?_⟩
                rw [List.drop_eq_nil_of_le (Nat.le_of_not_lt hlt2)] at hrest6
                simp only [turns] at hrest6
                cases hrest6
                rw [List.append_nil] at hr6
                subst hr6
                have R7 : Rl (L.hold Y) φ6 { u2 with lk := s3.lk } H6 := (Rl.unhold (L := L.hold Y) (Y := Y2) R6 hY2).relk (fun i hi => (R5.fr i hi).1) fun p hp => (R5.fx p hp).1
                exact ⟨φ6, _, acc ++ acc2, accV2, zs, S16, R7, L2'.trans Lf, nD6, hD6, hacc6, hz, by rw [List.append_assoc, ← hr, hxs]⟩
          · rw [if_neg Bool.false_ne_true]
            exact ⟨φ4, u1, acc, accV, zs, S2.trans Sall, R4, L2'.trans Lf, nD4, hD4, hacc.mono Sall, hz, by rw [← hxs, hr]; simp⟩
        · refine .inl ⟨hstop (Nat.le_of_not_lt hlt), ?_⟩
          rw [List.drop_eq_nil_of_le (Nat.le_of_not_lt hlt)] at hrest
          simp only [turns2] at hrest
          cases hrest
          rw [List.append_nil] at hxs
          subst hxs
          have R3 : Rl L φ2 { u with lk := t1.lk } H2 := (R2.unhold hY).relk (fun i hi => (R1.fr i hi).1) fun p hp => (R1.fx p hp).1
          refine P3 (φ2 ++ [D]) H2 (.ref D) (S2.adopt hD) (R3.adopt nD ⟨accV, ?_, SqL.of hDv, by rw [hDv]; rfl, fun _ => hDv⟩) ⟨D, rfl, ?_⟩
          · exact VRs.mono0 (fun r x h => by rw [List.getElem?_append_left (List.getElem?_eq_some_iff.mp h).1]; exact h) Kept.refl _ _ hacc
          · show (φ2 ++ [D])[u.objs.length]? = some D
            rw [← R2.len]; simp
    · rw [guard_no (by simpa using hlen)] at P3; exact (show False from P3).elim
theorem lc2_ok (G : Good c k L S X) (hc : S.cold = true) (hp : ∀ f vs, Pres (c.fn f vs)) {e : Ex} {own own2 : List (Str × Nat)} {t ti : Tg} {it it2 : Itr} {ifs ifs2 : List Ex} {elt iter iter1 : Expr} {tests tests1 : List Expr} {scope : Scope} (hown : ∀ j ∈ tgN t, j ∈ own.map (·.2)) (hown2 : ∀ j ∈ tgN ti, j ∈ own2.map (·.2)) (hsub : ∀ j ∈ own2.map (·.2), j ∈ own.map (·.2))
    (hban : (own.all fun p => !S.ban.contains p.2) = true) (hs : notSet iter = true) (hs1 : notSet iter1 = true) (ok : BlkOk X.N X.env.scope scope own) (hi : PI X tg iter (tI L W fun ρ => evIt c ρ it))
    (hg : ∀ X' L', Good c k L' (S.blk scope) X' → PG X' tg (tG L' (tgN t) fun ρ v => M.quiet (asgT c ρ t v)))
    (ht : ∀ X' L', Good c k L' (S.blk scope) X' → PTs X' tests (tTs L' fun ρ => evTs c ρ ifs))
    (hi1 : ∀ X' L', Good c k L' (S.blk scope) X' → PI X' tg1 iter1 (tI L' WF fun ρ => evIt c ρ it2))
    (hg1 : ∀ X' L', Good c k L' (S.blk scope) X' → PG X' tg1 (tG L' (tgN ti) fun ρ v => M.quiet (asgT c ρ ti v)))
    (ht1 : ∀ X' L', Good c k L' (S.blk scope) X' → PTs X' tests1 (tTs L' fun ρ => evTs c ρ ifs2))
    (he : ∀ X' L', Good c k L' (S.blk scope) X' → PE X' elt (tE L' WF fun ρ => evE c ρ e)) :
    PE X (.ListComp elt [⟨tg, iter, tests, 0⟩, ⟨tg1, iter1, tests1, 0⟩] scope pos) (tE L W fun ρ => evE c ρ (.lc2 e (.mk (own.map (·.2)) t it ifs) (.mk (own2.map (·.2)) ti it2 ifs2))) :=
  peI (pe_lc2 (G.calm hc).1 G.nd hi ok (vs1 := own2.map (·.2)) hsub (fun s H C cl fp => pg_ex fun Y => hg _ _ ((G.hold Y).blk s H scope C cl fp)) (fun s H C cl fp => pts_ex fun Y => ht _ _ ((G.hold Y).blk s H scope C cl fp))
    (fun s H C cl fp => pi_ex fun Y => hi1 _ _ ((G.hold Y).blk s H scope C cl fp)) (fun s H C cl fp => pg_ex fun Y => hg1 _ _ ((G.hold Y).blk s H scope C cl fp)) (fun s H C cl fp => pts_ex fun Y => ht1 _ _ ((G.hold Y).blk s H scope C cl fp))
    (fun s H C cl fp => pe_ex fun Y => he _ _ ((G.hold Y).blk s H scope C cl fp)) (fun x => notFold_ok hs) fun env x => notFold_ok hs1)
    fun σ H Q h => lc2_go hp (bans_of G hban) (fun i hi => bans_of G hban i (hsub i hi)) hown hown2 h
end
end TL
end

section
set_option maxRecDepth 100000
set_option maxHeartbeats 1000000
set_option autoImplicit false
/-! TL: set(l). -/
namespace TL
open PySem PySem.Spec PyProof.Rows L2
section
variable {c : Ctx} {k : Nat} {L : Lk} {S : Sk} {X : Cx} {W : WX} {pos : Pos}
theorem take_next' {α : Type} {l : List α} {i : Nat} {x : α} (h : l[i]? = some x) : l.take (i + 1) = l.take i ++ [x] := by
  rw [List.take_add_one, h]; rfl
/-- what the kinds ask of each item, by a list of items that stands -/
theorem set_steps (hK : X.K = L.K) (hP : X.prog = L.P) (hW : X.w = L.w) {κ : SKind L.P L.w} (K : KR L κ) {pins : List (Addr × Obj)} {s : Shared} {σ : L2.St} {H : Hp} {φ : List Addr} {xs : List PV} {vs : List V} {items : List Value} (I : Inv X pins σ H s)
    (hv : VRs L φ H xs vs) (rv : Vals vs items) (hok : ∀ x ∈ xs, K.ok x) (hm : xs.length ≤ K.most) :
    ∀ (i : Nat) (v : Value) (t : κ.T) (h : Heap), i < items.toArray.size → items.toArray[i]? = some v → K.st (dedup (xs.take i)) t H → (∀ b o, s.heap.get? b = some o → h.get? b = some o) → ∃ ii, κ.pre h t v ii ∧ ∀ t', κ.nxt t v ii t' → K.st (dedup (xs.take (i + 1))) t' H := by
  intro i v t h hi hv' hst kp
  have hl : i < xs.length := by
    have e1 := rv.length
    have e2 := hv.length
    have : i < items.length := by simpa using hi
    omega
  have hx : xs[i]? = some xs[i] := List.getElem?_eq_getElem hl
  obtain ⟨w, hw, VV⟩ := hv.get hx
  obtain ⟨u, hu, ru⟩ := rv.get hw
  have ev : u = v := by
    have : items[i]? = some v := by simpa using hv'
    rw [hu] at this; exact Option.some.inj this
  subst ev
  have hd : (dedup (xs.take i)).length < K.most := by
    have := dedup_le (xs := xs.take i)
    rw [List.length_take] at this
    omega
  obtain ⟨ii, hs⟩ := K.step hst (hok _ (List.mem_of_getElem? hx)) hd VV
  have I' : Inv X pins σ H { s with heap := h } := I.call' (ch := []) rfl (Un.kept kp) (I.hok.kept kp) I.bare (fun _ z => nomatch z)
  obtain ⟨g1, g2⟩ := hs X pins σ { s with heap := h } u hP hW hK I' ru
  refine ⟨ii, g1, fun t' hn => ?_⟩
  rw [take_next' hx, dedup_snoc]
  exact g2 t' hn
theorem bi_set (G : Good c k L S X) (hc : S.cold = true) : CallR X (.type "set") (rB L c .set) := by
  intro pins s σ H vs us Q I r h
  obtain ⟨φ, st, xs, R, hv, P⟩ := h
  match xs, hv, P with
  | [x], hv, P =>
    obtain ⟨v, rfl, VV⟩ := hv.one_of
    obtain ⟨u, rfl, rx⟩ := vals1 r
    have go : ∀ {ys : List PV} {ws : List V} {its : List Value} {l : Addr}, VRs L φ H ys ws → Vals ws its → PostE L (fun _ _ _ _ => False) [] φ H ((M.guard (setOk ys) >>= fun _ => alloc (.set (dedup ys))) st) Q →
        (∀ (κ : SKind L.P L.w) (rel : Nat → κ.T → Prop) (Q' : Value → Shared → Prop), rel 0 κ.e0 → (∀ i v t (h : Heap), i < its.toArray.size → its.toArray[i]? = some v → rel i t → (∀ b o, s.heap.get? b = some o → h.get? b = some o) → ∃ ii, κ.pre h t v ii ∧ ∀ t', κ.nxt t v ii t' → rel (i + 1) t') →
          (∀ (h' : Heap) (tk : Nat) (t : κ.T), κ.hp h' s.heap.objs.size t → rel its.toArray.size t → (∀ b o, s.heap.get? b = some o → h'.get? b = some o) → Q' (.ref s.heap.objs.size) { s with heap := h', toks := tk }) →
          wpAny (model X.prog X.w) X.A (call (.type "set") [.ref l]) Q' X.xe s) → wpAny (model X.prog X.w) X.A (call (.type "set") [.ref l]) (EP X pins σ Q) X.xe s := by
      intro ys ws its l hw rv P1 rule
      cases hset : setOk ys with
      | false => rw [guard_no hset] at P1; exact (show False from P1).elim
      | true =>
        rw [guard_ok hset] at P1
        obtain ⟨κ, K, hok, hmost⟩ := kind_of L hset
        have hn : H s.heap.objs.size = none := I.hok.fresh (Nat.le_refl _)
        refine rule κ (fun i t => K.st (dedup (ys.take i)) t H) _ (K.ini H) (set_steps G.hK G.hP G.hW K I hw rv hok hmost) fun h' tk t ht hst kp => ?_
        have hlen : its.toArray.size = ys.length := by rw [List.size_toArray, ← rv.length, hw.length]
        rw [hlen, List.take_length] at hst
        have hObj : ObjOk X.prog X.w (upd H s.heap.objs.size (κ.so s.heap.objs.size t)) h' s.heap.objs.size (κ.so s.heap.objs.size t) := by rw [G.hP, G.hW]; exact κ.ok ht
        refine ⟨.ref s.heap.objs.size, upd H s.heap.objs.size (κ.so s.heap.objs.size t), I.laid (t' := tk) kp (Nat.le_refl _) hObj, rfl, ?_⟩
        have S1 : Step φ H (φ ++ [s.heap.objs.size]) (upd H s.heap.objs.size (κ.so s.heap.objs.size t)) := Step.new hn
        exact P1 (φ ++ [s.heap.objs.size]) _ (.ref s.heap.objs.size) S1 (R.alloc hn (ob := .set (dedup ys)) (K.fin (K.mono (Kept.new hn) hst) upd_same)) ⟨_, rfl, by rw [← R.len]; simp⟩
    cases x with
    | tup ys =>
      obtain ⟨a, ws, rfl, ha, hw⟩ := (show ∃ (a : Addr) (vs : List V), v = .ref a ∧ SqT L.K H a vs ∧ VRs L φ H ys vs from VV)
      cases rx
      obtain ⟨its, rv, ht, hz⟩ := I.tuple (by rw [G.hK]; exact ha)
      refine go hw rv P fun κ rel Q' r0 st hQ => ?_
      rw [G.hP, G.hW]
      exact call_set_tuple κ (I.ok.hd (G.calm hc).1) G.units ht rel r0 st hQ
    | ref q =>
      obtain ⟨a, rfl, ha⟩ := (show ∃ a : Addr, v = .ref a ∧ φ[q]? = some a from VV)
      cases rx
      have P' : PostE L (fun _ _ _ _ => False) [] φ H ((seqT (.ref q) >>= fun l => M.guard (setOk l) >>= fun _ => alloc (.set (dedup l))) st) Q := P
      cases e : st.objs[q]? with
      | none =>
        have : seqT (.ref q) st = .stuck := getOb_no e
        rw [bind_stuck this] at P'; exact (show False from P').elim
      | some ob =>
        cases ob with
        | list ys =>
          have : seqT (.ref q) st = .ok ys st := getOb_bind e
          rw [bind_ok this] at P'
          obtain ⟨a2, ws, i1, i2, i3, i4, i5⟩ := R.lst e
          rw [ha] at i1; cases i1
          obtain ⟨its, rv, pl, hz⟩ := I.list (by rw [G.hK]; exact i3)
          refine go i2 rv P' fun κ rel Q' r0 st hQ => ?_
          rw [G.hP, G.hW]
          exact call_set_list κ (I.ok.hd (G.calm hc).1) G.units pl.isList rel r0 st hQ
        | _ =>
          have : seqT (.ref q) st = .stuck := by show (getOb q >>= _) st = _; rw [getOb_bind e]; rfl
          rw [bind_stuck this] at P'; exact (show False from P').elim
    | _ => exact (show False from P).elim
  | [], hv, P => exact (show False from P).elim
  | _ :: _ :: _, hv, P => exact (show False from P).elim
end
end TL
end

section
set_option maxRecDepth 100000
set_option maxHeartbeats 2000000
set_option autoImplicit false
/-! TL: trees against the text: a check that the kernel runs. -/
namespace TL
open PySem PySem.Spec PyProof.Rows L2
/-! ### the check -/
def okVar (S : Sk) (i : Nat) (x : Str) : Bool := decide (S.N[i]? = some x) && visB S.sc x && plainNm x
def okGl (S : Sk) (x : Str) : Bool := glB S.sc x && plainNm x
def isFn (S : Sk) (x : Str) (f : Nat) : Bool := match S.gl x with
  | some (.fn g) => Nat.beq g f
  | _ => false
def isCls (S : Sk) (x : Str) (k : Nat) : Bool := match S.gl x with
  | some (.cls g) => Nat.beq g k
  | _ => false
def isCon (S : Sk) (x : Str) (k : Nat) : Bool := match S.gl x with
  | some (.con g) => Nat.beq g k
  | _ => false
def isBlt (S : Sk) (x : Str) : Bool := match S.gl x with
  | some .blt => true
  | _ => false
def biNm : BI → Option (Str × Value)
  | .len => some ("len", .builtin "len")
  | .all => some ("all", .builtin "all")
  | .any => some ("any", .builtin "any")
  | .sum => some ("sum", .builtin "sum")
  | .abs => some ("abs", .builtin "abs")
  | .sorted => some ("sorted", .builtin "sorted")
  | .tuple => some ("tuple", .type "tuple")
  | .list => some ("list", .type "list")
  | .set => some ("set", .type "set")
  | _ => none
def tyNm : Ty → Option (Str × String)
  | .tint => some ("int", "int")
  | .tbool => some ("bool", "bool")
  | .tstr => some ("str", "str")
  | .tlist => some ("list", "list")
  | .ttuple => some ("tuple", "tuple")
  | .tcls _ => none
def bmNm : BM → Option Str
  | .append => some "append"
  | _ => none
def okTy (S : Sk) (t : Ty) (x : Str) : Bool := match t with
  | .tcls j => isCls S x j && S.tb.cs.contains j
  | t => match tyNm t with
    | some (y, _) => decide (x = y) && isBlt S x
    | none => false
/-- the slots of a block, with their names -/
def ownOf (S : Sk) (own : List Nat) : List (Str × Nat) := own.filterMap fun i => match S.N[i]? with
  | some x => some (x, i)
  | none => none
def okBlk (S : Sk) (scope : Scope) (own : List Nat) : Bool :=
  decide ((ownOf S own).map (·.2) = own) && decide (scope.kind = .function) && (scope.names.all fun y => decide (scope.names.lookup y.1 = some y.2)) &&
    (scope.names.all fun y => !(decide (y.2 = .free)) || decide (S.sc.names.lookup y.1 = some .cell) || decide (S.sc.names.lookup y.1 = some .free)) &&
    (scope.names.all fun y => !(decide (y.2 = .local) || decide (y.2 = .cell)) || ((ownOf S own).map (·.1)).contains y.1 || !(S.N.contains y.1)) && own.all fun i => !S.ban.contains i
mutual
def ckE : Ex → Sk → Expr → Bool
  | .var i, S, e => match e with
    | .Name x _ => okVar S i x
    | _ => false
  | .cst p, S, e => match e with
    | .Constant q _ _ => match constV q with
      | some p' => PV.beq p' p
      | none => false
    | _ => false
  | .glob g, S, e => match e with
    | .Name x _ => isCon S x g && okGl S x
    | _ => false
  | .tup es, S, e => match e with
    | .Tuple xs _ _ => ckEs es S xs
    | _ => false
  | .lst es, S, e => match e with
    | .List xs _ => ckEs es S xs
    | _ => false
  | .dic kvs, S, e => match e with
    | .Dict [] [] _ => kvs.isEmpty
    | _ => false
  | .bin o a b, S, e => match e with
    | .BinOp e1 p e2 _ => decide (p = opS o) && ckE a S e1 && ckE b S e2
    | _ => false
  | .neg a, S, e => match e with
    | .UnaryOp .USub e1 _ => ckE a S e1
    | _ => false
  | .notE a, S, e => match e with
    | .UnaryOp .Not e1 _ => ckE a S e1
    | _ => false
  | .andE a b, S, e => match e with
    | .BoolOp .And (e1 :: e2 :: rest) p => ckE a S e1 && (match rest with
      | [] => ckE b S e2
      | _ => ckE b S (.BoolOp .And (e2 :: rest) p))
    | _ => false
  | .orE a b, S, e => match e with
    | .BoolOp .Or (e1 :: e2 :: rest) p => ckE a S e1 && (match rest with
      | [] => ckE b S e2
      | _ => ckE b S (.BoolOp .Or (e2 :: rest) p))
    | _ => false
  | .cmp o a b, S, e => match e with
    | .Compare e1 [p] [e2] _ => S.cold && decide (p = cmpS' o) && notSet e2 && ckE a S e1 && ckE b S e2
    | _ => false
  | .chn o o2 a b d, S, e => match e with
    | .Compare e1 [p, p2] [e2, e3] _ => S.cold && decide (p = cmpS' o) && decide (p2 = cmpS' o2) && notSet e3 && ckE a S e1 && ckE b S e2 && ckE d S e3
    | _ => false
  | .ite q a b, S, e => match e with
    | .IfExp e1 e2 e3 _ => ckE q S e1 && ckE a S e2 && ckE b S e3
    | _ => false
  | .fld f o, S, e => match e with
    | .Attribute e1 x _ => decide (x = S.tb.nm f) && noCall e1 && S.tb.fl.contains f && ckE o S e1
    | _ => false
  | .exf f, S, e => match e with
    | .Attribute (.Name n _) x _ => (match S.cau with
      | some i => okVar S i n
      | none => false) && decide (x = S.tb.nm f) && S.xf.contains f
    | _ => false
  | .idx o i, S, e => match e with
    | .Subscript e1 e2 _ => notSl e2 && ckE o S e1 && ckE i S e2
    | _ => false
  | .slc o l u, S, e => match e with
    | .Subscript e1 (.Slice lo hi none _) _ => ckE o S e1 && ckO l S lo && ckO u S hi
    | _ => false
  | .rev o, S, e => match e with
    | .Subscript e1 (.Slice none none (some (.UnaryOp .USub (.Constant (.int i) _ _) _)) _) _ => decide (i = 1) && ckE o S e1
    | _ => false
  | .stp _ _ _, _, _ => false
  | .call f es b, S, e => match e with
    | .Call (.Name x _) xs [] _ => S.cold && isFn S x f && okGl S x && xs.all noStar && decide (xs.length = es.length) && S.tb.bF f es.length b && ckEs es S xs
    | _ => false
  | .new kk es b, S, e => match e with
    | .Call (.Name x _) xs [] _ => S.cold && isCls S x kk && okGl S x && xs.all noStar && decide (xs.length = es.length) && (match S.tb.inits.lookup kk with
      | some f => S.tb.bM f es.length b
      | none => false) && ckEs es S xs
    | _ => false
  | .meth m o es b, S, e => match e with
    | .Call (.Attribute e1 x ap) xs [] p => S.cold && decide (x = S.tb.nm m) && noCall e1 && xs.all noStar && decide (xs.length = es.length) && decide (xs.length < 30) && (ap.endLine == p.line) &&
        (S.tb.meths.all fun q => !(Nat.beq q.1.2 m) || S.tb.bM q.2 es.length b) && ckE o S e1 && ckEs es S xs
    | _ => false
  | .bi b es, S, e => match e with
    | .Call (.Name x _) (e1 :: xs) [] _ => S.cold && (match biNm b with
      | some (y, _) => decide (x = y)
      | none => false) && isBlt S x && okGl S x && (e1 :: xs).all noStar && ckEs es S (e1 :: xs)
    | _ => false
  | .bm m o es, S, e => match e with
    | .Call (.Attribute e1 x ap) (e2 :: xs) [] p => (match bmNm m with
      | some y => decide (x = y)
      | none => false) && noCall e1 && (e2 :: xs).all noStar && decide ((e2 :: xs).length < 30) && (ap.endLine == p.line) && ckE o S e1 && ckEs es S (e2 :: xs)
    | _ => false
  | .isi a ts, S, e => match e with
    | .Call (.Name x _) [e1, .Name y _] [] _ => decide (x = "isinstance") && isBlt S x && okGl S x && noStar e1 && (match ts with
      | [t] => okTy S t y
      | _ => false) && okGl S y && ckE a S e1
    | _ => false
  | .lc el (.mk own tg it ifs), S, e => match e with
    | .ListComp elt [⟨tg', iter, tests, asy⟩] scope _ => S.cold && decide (asy = 0) && okBlk S scope own && (tgN tg).all own.contains && notSet iter && ckI it S iter && ckT tg (S.blk scope) tg' && ckL ifs (S.blk scope) tests && ckE el (S.blk scope) elt
    | _ => false
  | .lc2 el (.mk own tg it ifs) (.mk own2 tg2 it2 ifs2), S, e => match e with
    | .ListComp elt [⟨tg', iter, tests, asy⟩, ⟨tg2', iter2, tests2, asy2⟩] scope _ => S.cold && decide (asy = 0) && decide (asy2 = 0) && okBlk S scope own && decide ((ownOf S own2).map (·.2) = own2) && own2.all own.contains && (tgN tg).all own.contains && (tgN tg2).all own2.contains &&
        notSet iter && notSet iter2 && ckI it S iter && ckT tg (S.blk scope) tg' && ckL ifs (S.blk scope) tests && ckI it2 (S.blk scope) iter2 && ckT tg2 (S.blk scope) tg2' && ckL ifs2 (S.blk scope) tests2 && ckE el (S.blk scope) elt
    | _ => false
  | .sc el (.mk own tg it ifs), S, e => match e with
    | .SetComp elt [⟨tg', iter, tests, asy⟩] scope _ => S.cold && decide (asy = 0) && okBlk S scope own && (tgN tg).all own.contains && notSet iter && ckI it S iter && ckT tg (S.blk scope) tg' && ckL ifs (S.blk scope) tests && ckE el (S.blk scope) elt
    | _ => false
  | .dc _ _ _, _, _ => false
  | .fst _, _, _ => false
def ckEs : List Ex → Sk → List Expr → Bool
  | [], _, xs => xs.isEmpty
  | a :: es, S, xs => match xs with
    | e :: r => noStar e && ckE a S e && ckEs es S r
    | [] => false
def ckL : List Ex → Sk → List Expr → Bool
  | [], _, xs => xs.isEmpty
  | a :: es, S, xs => match xs with
    | [e] => es.isEmpty && ckE a S e
    | _ => false
def ckO : Option Ex → Sk → Option Expr → Bool
  | none, _, x => x.isNone
  | some a, S, x => match x with
    | some e => ckE a S e
    | none => false
def ckI : Itr → Sk → Expr → Bool
  | .any a, S, e => ckE a S e
  | .rng1 a, S, e => match e with
    | .Call (.Name x _) [e1] [] _ => decide (x = "range") && isBlt S "range" && glB S.sc "range" && noStar e1 && ckE a S e1
    | _ => false
  | .rng2 a b, S, e => match e with
    | .Call (.Name x _) [e1, e2] [] _ => decide (x = "range") && isBlt S "range" && glB S.sc "range" && noStar e1 && noStar e2 && ckE a S e1 && ckE b S e2
    | _ => false
  | .rng3 _ _ _, _, _ => false
  | .enum _, _, _ => false
  | .zip _ _, _, _ => false
def ckT : Tg → Sk → Expr → Bool
  | .nm i, S, e => match e with
    | .Name x _ => decide (S.N[i]? = some x) && stoB S x && !S.ban.contains i
    | _ => false
  | .tp ts, S, e => match e with
    | .Tuple es _ _ => S.cold && es.all noStar && decide (es.length = ts.length) && ckTs ts S es
    | _ => false
  | .star _ _ _, _, _ => false
  | .fld f o, S, e => match e with
    | .Attribute e1 x _ => decide (x = S.tb.nm f) && S.tb.fl.contains f && ckE o S e1
    | _ => false
  | .sub o i, S, e => match e with
    | .Subscript e1 e2 _ => notSl e2 && ckE o S e1 && ckE i S e2
    | _ => false
def ckTs : List Tg → Sk → List Expr → Bool
  | [], _, xs => xs.isEmpty
  | a :: es, S, xs => match xs with
    | e :: r => noStar e && ckT a S e && ckTs es S r
    | [] => false
end
end TL
end

section
set_option maxRecDepth 100000
set_option maxHeartbeats 4000000
set_option autoImplicit false
/-! TL: what is checked runs as its tree: expressions. -/
namespace TL
open PySem PySem.Spec PyProof.Rows L2
section
variable {c : Ctx} {k : Nat} {L : Lk} {S : Sk} {X : Cx} {W : WX} {pos : Pos} {a b d : Ex} {e1 e2 e3 : Expr}
theorem okVar_of {i : Nat} {x : Str} (h : okVar S i x = true) : S.N[i]? = some x ∧ visB S.sc x = true ∧ plainNm x = true := by
  unfold okVar at h
  rw [Bool.and_eq_true, Bool.and_eq_true, decide_eq_true_eq] at h
  exact ⟨h.1.1, h.1.2, h.2⟩
theorem okGl_of {x : Str} (h : okGl S x = true) : glB S.sc x = true ∧ plainNm x = true := by
  unfold okGl at h
  rw [Bool.and_eq_true] at h
  exact h
theorem isFn_of {x : Str} {f : Nat} (h : isFn S x f = true) : S.gl x = some (.fn f) := by
  unfold isFn at h
  split at h
  · rename_i g e
    rw [e, Nat.eq_of_beq_eq_true h]
  · cases h
theorem isCls_of {x : Str} {f : Nat} (h : isCls S x f = true) : S.gl x = some (.cls f) := by
  unfold isCls at h
  split at h
  · rename_i g e
    rw [e, Nat.eq_of_beq_eq_true h]
  · cases h
theorem isCon_of {x : Str} {f : Nat} (h : isCon S x f = true) : S.gl x = some (.con f) := by
  unfold isCon at h
  split at h
  · rename_i g e
    rw [e, Nat.eq_of_beq_eq_true h]
  · cases h
theorem isBlt_of {x : Str} (h : isBlt S x = true) : S.gl x = some .blt := by
  unfold isBlt at h
  split at h
  · assumption
  · cases h
/-- a built-in's rule -/
theorem biRule (G : Good c k L S X) (hc : S.cold = true) {b : BI} {y : Str} {f : Value} (h : biNm b = some (y, f)) : ((∃ id, f = .builtin id) ∨ ∃ T, f = .type T) ∧ bootBuiltins y = some f ∧ CallR X f (rB L c b) := by
  cases b <;> (unfold biNm at h; cases h)
  · exact ⟨.inl ⟨_, rfl⟩, PyProof.Rows.Boot.«len», bi_len G hc⟩
  · exact ⟨.inl ⟨_, rfl⟩, PyProof.Rows.Boot.«sum», bi_sum G hc⟩
  · exact ⟨.inl ⟨_, rfl⟩, PyProof.Rows.Boot.«all», bi_all G hc⟩
  · exact ⟨.inl ⟨_, rfl⟩, PyProof.Rows.Boot.«any», bi_any G hc⟩
  · exact ⟨.inl ⟨_, rfl⟩, PyProof.Rows.Boot.«sorted», bi_sorted G⟩
  · exact ⟨.inr ⟨_, rfl⟩, PyProof.Rows.Boot.«list», bi_list G hc⟩
  · exact ⟨.inr ⟨_, rfl⟩, PyProof.Rows.Boot.«tuple», bi_tuple G⟩
  · exact ⟨.inr ⟨_, rfl⟩, PyProof.Rows.Boot.«set», bi_set G hc⟩
  · exact ⟨.inl ⟨_, rfl⟩, PyProof.Rows.Boot.«abs», bi_abs⟩
/-- a type's name -/
theorem tyRule (G : Good c k L S X) {t : Ty} {x : Str} {p : Pos} (h : okTy S t x = true) (hg : okGl S x = true) : ∃ w, PE X (.Name x p) (tC w) ∧ (∀ u, L2.RelV w u → u = tyC L t) ∧ ∀ j, t = .tcls j → j ∈ L.cs := by
  obtain ⟨g1, g2⟩ := okGl_of hg
  have go : ∀ {n : String} {t : Ty}, isBlt S x = true → bootBuiltins x = some (.type n) → tyC L t = .type n → (∀ j, t ≠ .tcls j) → ∃ w, PE X (.Name x p) (tC w) ∧ (∀ u, L2.RelV w u → u = tyC L t) ∧ ∀ j, t = .tcls j → j ∈ L.cs := fun {n t} hb hv ht hn =>
    ⟨.ty n, pe_bltn (gl_of G g1) (G.gblt x (isBlt_of hb)) hv rfl (plainNm_3 g2) (plainNm_1 g2), fun u r => by rw [ht]; exact r, fun j e => absurd e (hn j)⟩
  cases t with
  | tcls j =>
    unfold okTy at h
    simp only [Bool.and_eq_true] at h
    have hm : j ∈ L.cs := by rw [G.tb.cs]; exact List.contains_iff_mem.mp h.2
    exact ⟨.ref (L.cl j), pe_glob (gl_of G g1) (G.gcl x j (isCls_of h.1)) rfl (plainNm_1 g2), fun u r => r, fun i e => by cases e; exact hm⟩
  | tint => simp only [okTy, tyNm, Bool.and_eq_true, decide_eq_true_eq] at h; obtain ⟨rfl, hb⟩ := h; exact go hb PyProof.Rows.Boot.«int» rfl fun _ z => nomatch z
  | tbool => simp only [okTy, tyNm, Bool.and_eq_true, decide_eq_true_eq] at h; obtain ⟨rfl, hb⟩ := h; exact go hb PyProof.Rows.Boot.«bool» rfl fun _ z => nomatch z
  | tstr => simp only [okTy, tyNm, Bool.and_eq_true, decide_eq_true_eq] at h; obtain ⟨rfl, hb⟩ := h; exact go hb PyProof.Rows.Boot.«str» rfl fun _ z => nomatch z
  | tlist => simp only [okTy, tyNm, Bool.and_eq_true, decide_eq_true_eq] at h; obtain ⟨rfl, hb⟩ := h; exact go hb PyProof.Rows.Boot.«list» rfl fun _ z => nomatch z
  | ttuple => simp only [okTy, tyNm, Bool.and_eq_true, decide_eq_true_eq] at h; obtain ⟨rfl, hb⟩ := h; exact go hb PyProof.Rows.Boot.«tuple» rfl fun _ z => nomatch z
theorem own_ix {own : List Nat} : ∀ p ∈ ownOf S own, S.N[p.2]? = some p.1 := fun p hp => by
  obtain ⟨i, hi, e⟩ := List.mem_filterMap.mp hp
  cases h : S.N[i]? with
  | none => rw [h] at e; cases e
  | some x => rw [h] at e; cases e; exact h
theorem okBlk_of (G : Good c k L S X) {scope : Scope} {own : List Nat} (h : okBlk S scope own = true) : (ownOf S own).map (·.2) = own ∧ BlkOk X.N X.env.scope scope (ownOf S own) ∧ ((ownOf S own).all fun p => !S.ban.contains p.2) = true := by
  unfold okBlk at h
  simp only [Bool.and_eq_true, decide_eq_true_eq] at h
  obtain ⟨⟨⟨⟨⟨h1, h2⟩, h3⟩, h4⟩, h5⟩, h6⟩ := h
  refine ⟨h1, ⟨h2, fun y hy => ?_, fun p hp => ?_, fun y hy e => ?_, fun y hy e => ?_⟩, List.all_eq_true.mpr fun p hp => ?_⟩
  · have := List.all_eq_true.mp h3 y hy
    simpa using this
  · rw [G.hN]; exact own_ix p hp
  · have := List.all_eq_true.mp h4 y hy
    rw [G.sc]
    rw [decide_eq_true e] at this
    simp only [Bool.not_true, Bool.false_or, Bool.or_eq_true, decide_eq_true_eq] at this
    exact this
  · have := List.all_eq_true.mp h5 y hy
    rw [G.hN]
    have e' : (decide (y.2 = .local) || decide (y.2 = .cell)) = true := by
      rw [Bool.or_eq_true, decide_eq_true_eq, decide_eq_true_eq]; exact e
    rw [e'] at this
    simp only [Bool.not_true, Bool.false_or, Bool.or_eq_true, Bool.not_eq_true'] at this
    rcases this with q | q
    · exact .inl (List.contains_iff_mem.mp q)
    · exact .inr fun z => by rw [List.contains_iff_mem.mpr z] at q; cases q
  · have hm : p.2 ∈ own := by rw [← h1]; exact List.mem_map.mpr ⟨p, hp, rfl⟩
    exact List.all_eq_true.mp h6 p.2 hm
theorem subs_of {own ns : List Nat} (h : ns.all own.contains = true) : ∀ j ∈ ns, j ∈ own := fun j hj => List.contains_iff_mem.mp (List.all_eq_true.mp h j hj)
/-- a chain of and (or) is whole at any place -/
def BothX (X : Cx) (e : Expr) (t : TE) : Prop := match e with
  | .BoolOp .. => BothB X e t
  | _ => Both X e t
theorem BothX.both {e : Expr} {t : TE} (h : BothX X e t) : Both X e t := by
  cases e <;> first | exact h | exact BothB.both h
theorem pt_ite {tA ta tb : TT} (hc : PT X e1 tA) (ha : PT X e2 ta) (hb : PT X e3 tb) : PT X (.IfExp e1 e2 e3 pos) (fun σ H Q => tA σ H fun q H1 => if q = true then ta σ H1 Q else tb σ H1 Q) := by
  refine ⟨fun pins s σ H Q I h => ?_⟩
  rw [arm_isTrue_IfExp]
  refine wpAny_bind (thn (hc.run pins s σ H _ I h) fun q s1 ⟨H1, I1, q1⟩ => ?_)
  cases q with
  | true => exact ha.run pins s1 σ H1 Q I1 q1
  | false => exact hb.run pins s1 σ H1 Q I1 q1
theorem ite_both (h1 : Both X e1 (tE L W fun ρ => evE c ρ a)) (h2 : Both X e2 (tE L W fun ρ => evE c ρ b)) (h3 : Both X e3 (tE L W fun ρ => evE c ρ d)) : Both X (.IfExp e1 e2 e3 pos) (tE L W fun ρ => evE c ρ (.ite a b d)) :=
  ⟨ite_ok h1 h2 h3, ptI (pt_ite h1.2 h2.2 h3.2) fun σ H Q h => by
    have h' : tE L W (fun ρ => evE c ρ a >>= fun x => asB x >>= fun k => match k with
      | true => evE c ρ b
      | false => evE c ρ d) σ H (fun v H1 => ∃ b, v = .bl b ∧ Q b H1) := by
        have h0 : tE L W (fun ρ => evE c ρ (.ite a b d)) σ H (fun v H1 => ∃ b, v = .bl b ∧ Q b H1) := h
        simp only [evE] at h0; exact h0
    refine tE_imp (tE_test (k := fun k ρ => match k with
      | true => evE c ρ b
      | false => evE c ρ d) h') fun v H1 ⟨k, e, q⟩ => ⟨k, e, ?_⟩
    cases k with
    | true => exact q
    | false => exact q⟩
theorem tsub_ok (G : Good c k L S X) (hn : notSl e2 = true) (h1 : PE X e1 (tE L WF fun ρ => evE c ρ a)) (h2 : PE X e2 (tE L WF fun ρ => evE c ρ b)) : PG X (.Subscript e1 e2 pos) (tG L (tgN (.sub a b)) fun ρ v => M.quiet (asgT c ρ (.sub a b) v)) :=
  pgI (pg_sub h1 h2 (setItem_set G) (ha := fun v => by cases e2 <;> first | rfl | cases hn)) fun v σ H Q h => by
    obtain ⟨φ, ρ, st, x, R, E, VV, P⟩ := h
    have P' : PostG L σ φ H [] (M.quiet (evE c ρ a >>= fun o => evE c ρ b >>= fun i => setItem o i x >>= fun _ => M.ret ρ) st) Q := by simp only [asgT] at P; exact P
    refine ⟨φ, ρ, st, R, E, (PostG.bindE P').imp fun o H1 ⟨φ1, t1, po, S1, R1, V1, P1⟩ => ?_⟩
    have P1' : PostG L σ φ1 H1 [] (M.quiet (evE c ρ b >>= fun i => setItem po i x >>= fun _ => M.ret ρ) t1) Q := P1
    refine ⟨φ1, ρ, t1, R1, E.mono S1, (PostG.bindE P1').imp fun i H2 ⟨φ2, t2, pi, S2, R2, V2, P2⟩ => ?_⟩
    have P2' : PostG L σ φ2 H2 [] (M.quiet (setItem po pi x >>= fun _ => M.ret ρ) t2) Q := P2
    refine ⟨φ2, t2, po, pi, x, R2, V1.mono S2, V2, VV.mono (S1.trans S2), fun e => ?_, fun t3 H3 e S3 R3 => ?_⟩
    · rw [quiet_stuck (bind_stuck e)] at P2'; exact P2'
    · rw [quiet_ok (show (setItem po pi x >>= fun _ => M.ret ρ) t2 = .ok ρ t3 from by rw [bind_ok e]; rfl)] at P2'
      exact P2' _ H3 σ S3 R3 ((E.mono (S1.trans S2)).mono S3) OnlyN.refl
theorem wf_takes : Takes X WF := takes_none5
theorem and_two {e1 e2 : Expr} (h1 : Both X e1 (tE L W fun ρ => evE c ρ a)) (h2 : Both X e2 (tE L W fun ρ => evE c ρ b)) : BothB X (.BoolOp .And [e1, e2] pos) (tE L W fun ρ => evE c ρ (.andE a b)) := and_ok h1 (and_one h2)
theorem or_two {e1 e2 : Expr} (h1 : Both X e1 (tE L W fun ρ => evE c ρ a)) (h2 : Both X e2 (tE L W fun ρ => evE c ρ b)) : BothB X (.BoolOp .Or [e1, e2] pos) (tE L W fun ρ => evE c ρ (.orE a b)) := or_ok h1 (or_one h2)
end
mutual
theorem ckE_ok : ∀ (t : Ex) {S : Sk} {e : Expr}, ckE t S e = true → ∀ {c : Ctx} {k : Nat} {L : Lk} {X : Cx} {W : WX}, Good c k L S X → (S.cold = true → Takes X W) → BothX X e (tE L W fun ρ => evE c ρ t)
  | .var i, S, e, h, c, k, L, X, W, G, tk => by
    simp only [ckE] at h
    split at h
    · obtain ⟨h1, h2, h3⟩ := okVar_of h
      exact Both.val (var_ok G h1 h2 h3) fun _ => rfl
    · cases h
  | .cst p, S, e, h, c, k, L, X, W, G, tk => by
    simp only [ckE] at h
    split at h
    · split at h
      · rename_i q _ _ p' hp
        rw [PV.eq_of_beq _ _ h] at hp
        exact Both.val (cst_ok hp) fun _ => rfl
      · cases h
    · cases h
  | .glob g, S, e, h, c, k, L, X, W, G, tk => by
    simp only [ckE] at h
    split at h
    · rw [Bool.and_eq_true] at h
      obtain ⟨h1, h2⟩ := okGl_of h.2
      exact Both.val (glob_ok G (isCon_of h.1) h1 h2) fun _ => rfl
    · cases h
  | .tup es, S, e, h, c, k, L, X, W, G, tk => by
    simp only [ckE] at h
    split at h
    · exact Both.val (tup_ok (ckEs_ok es h G tk)) fun _ => rfl
    · cases h
  | .lst es, S, e, h, c, k, L, X, W, G, tk => by
    simp only [ckE] at h
    split at h
    · exact Both.val (lst_ok (ckEs_ok es h G tk)) fun _ => rfl
    · cases h
  | .dic kvs, S, e, h, c, k, L, X, W, G, tk => by
    simp only [ckE] at h
    split at h
    · obtain rfl : kvs = [] := by simpa using h
      exact Both.val dic0_ok fun _ => rfl
    · cases h
  | .bin o a b, S, e, h, c, k, L, X, W, G, tk => by
    simp only [ckE] at h
    split at h
    · rw [Bool.and_eq_true, Bool.and_eq_true, decide_eq_true_eq] at h
      obtain ⟨⟨rfl, h1⟩, h2⟩ := h
      exact Both.val (bin_ok' G (ckE_ok a h1 G tk).both.1 (ckE_ok b h2 G tk).both.1) fun _ => rfl
    · cases h
  | .neg a, S, e, h, c, k, L, X, W, G, tk => by
    simp only [ckE] at h
    split at h
    · exact Both.val (neg_ok (ckE_ok a h G tk).both.1) fun _ => rfl
    · cases h
  | .notE a, S, e, h, c, k, L, X, W, G, tk => by
    simp only [ckE] at h
    split at h
    · exact not_ok (ckE_ok a h G tk).both
    · cases h
  | .andE a b, S, e, h, c, k, L, X, W, G, tk => by
    simp only [ckE] at h
    split at h
    · rename_i e1 e2 rest p
      rw [Bool.and_eq_true] at h
      have h1 := (ckE_ok a h.1 G tk).both
      cases rest with
      | nil => exact and_two h1 (ckE_ok b h.2 G tk).both
      | cons e3 r => exact and_ok h1 (ckE_ok b h.2 G tk)
    · cases h
  | .orE a b, S, e, h, c, k, L, X, W, G, tk => by
    simp only [ckE] at h
    split at h
    · rename_i e1 e2 rest p
      rw [Bool.and_eq_true] at h
      have h1 := (ckE_ok a h.1 G tk).both
      cases rest with
      | nil => exact or_two h1 (ckE_ok b h.2 G tk).both
      | cons e3 r => exact or_ok h1 (ckE_ok b h.2 G tk)
    · cases h
  | .cmp o a b, S, e, h, c, k, L, X, W, G, tk => by
    simp only [ckE] at h
    split at h
    · simp only [Bool.and_eq_true, decide_eq_true_eq] at h
      obtain ⟨⟨⟨⟨hc, rfl⟩, hs⟩, h1⟩, h2⟩ := h
      exact cmp_ok G hc (ckE_ok a h1 G tk).both.1 (ckE_ok b h2 G tk).both.1 hs
    · cases h
  | .chn o o2 a b d, S, e, h, c, k, L, X, W, G, tk => by
    simp only [ckE] at h
    split at h
    · simp only [Bool.and_eq_true, decide_eq_true_eq] at h
      obtain ⟨⟨⟨⟨⟨⟨hc, rfl⟩, rfl⟩, hs⟩, h1⟩, h2⟩, h3⟩ := h
      exact chn_ok G hc (ckE_ok a h1 G tk).both.1 (ckE_ok b h2 G tk).both.1 (ckE_ok d h3 G tk).both.1 hs
    · cases h
  | .ite q a b, S, e, h, c, k, L, X, W, G, tk => by
    simp only [ckE] at h
    split at h
    · simp only [Bool.and_eq_true] at h
      exact ite_both (ckE_ok q h.1.1 G tk).both (ckE_ok a h.1.2 G tk).both (ckE_ok b h.2 G tk).both
    · cases h
  | .fld f o, S, e, h, c, k, L, X, W, G, tk => by
    simp only [ckE] at h
    split at h
    · simp only [Bool.and_eq_true, decide_eq_true_eq] at h
      obtain ⟨⟨⟨rfl, h1⟩, h2⟩, h3⟩ := h
      rw [← G.tb.nm f]
      exact Both.val (fld_ok G (ckE_ok o h3 G tk).both.1 h1 h2) fun _ => rfl
    · cases h
  | .exf f, S, e, h, c, k, L, X, W, G, tk => by
    simp only [ckE] at h
    split at h
    · simp only [Bool.and_eq_true, decide_eq_true_eq] at h
      obtain ⟨⟨h1, rfl⟩, h3⟩ := h
      split at h1
      · rename_i i hi
        obtain ⟨g1, g2, g3⟩ := okVar_of h1
        rw [← G.tb.nm f]
        exact Both.val (exf_ok G hi g1 g2 g3 (List.contains_iff_mem.mp h3)) fun _ => rfl
      · cases h1
    · cases h
  | .idx o i, S, e, h, c, k, L, X, W, G, tk => by
    simp only [ckE] at h
    split at h
    · simp only [Bool.and_eq_true] at h
      exact Both.val (idx_ok G (ckE_ok o h.1.2 G tk).both.1 (ckE_ok i h.2 G tk).both.1 h.1.1) fun _ => rfl
    · cases h
  | .slc o l u, S, e, h, c, k, L, X, W, G, tk => by
    simp only [ckE] at h
    split at h
    · simp only [Bool.and_eq_true] at h
      exact Both.val (slc_ok G (ckE_ok o h.1.1 G tk).both.1 (ckO_ok l h.1.2 G tk) (ckO_ok u h.2 G tk)) fun _ => rfl
    · cases h
  | .rev o, S, e, h, c, k, L, X, W, G, tk => by
    simp only [ckE] at h
    split at h
    · simp only [Bool.and_eq_true, decide_eq_true_eq] at h
      obtain ⟨rfl, h1⟩ := h
      exact Both.val (rev_ok G (ckE_ok o h1 G tk).both.1) fun _ => rfl
    · cases h
  | .stp _ _ _, S, e, h, _, _, _, _, _, _, _ => by simp only [ckE] at h; cases h
  | .call f es b, S, e, h, c, k, L, X, W, G, tk => by
    simp only [ckE] at h
    split at h
    · simp only [Bool.and_eq_true, decide_eq_true_eq] at h
      obtain ⟨⟨⟨⟨⟨⟨hc, h1⟩, h2⟩, h3⟩, h4⟩, h5⟩, h6⟩ := h
      obtain ⟨g1, g2⟩ := okGl_of h2
      exact Both.val (call_ok G hc (tk hc) (isFn_of h1) g1 g2 (ckEs_ok es h6 G tk) h3 h4 (G.tb.bF f _ b h5)) fun _ => rfl
    · cases h
  | .new kk es b, S, e, h, c, k, L, X, W, G, tk => by
    simp only [ckE] at h
    split at h
    · simp only [Bool.and_eq_true, decide_eq_true_eq] at h
      obtain ⟨⟨⟨⟨⟨⟨hc, h1⟩, h2⟩, h3⟩, h4⟩, h5⟩, h6⟩ := h
      obtain ⟨g1, g2⟩ := okGl_of h2
      split at h5
      · rename_i f hf
        exact Both.val (new_ok G hc (tk hc) G.tb.pres (isCls_of h1) g1 g2 (by rw [G.tb.inits]; exact hf) (ckEs_ok es h6 G tk) h3 h4 (G.tb.bM f _ b h5)) fun _ => rfl
      · cases h5
    · cases h
  | .meth m o es b, S, e, h, c, k, L, X, W, G, tk => by
    simp only [ckE] at h
    split at h
    · simp only [Bool.and_eq_true, decide_eq_true_eq] at h
      obtain ⟨⟨⟨⟨⟨⟨⟨⟨⟨hc, rfl⟩, h2⟩, h3⟩, h4⟩, h5⟩, h6⟩, h7⟩, h8⟩, h9⟩ := h
      rw [← G.tb.nm m]
      refine Both.val (meth_ok G hc (tk hc) (ckE_ok o h8 G tk).both.1 h2 (ckEs_ok es h9 G tk) h3 h4 h5 h6 fun f i hf => G.tb.bM f _ b ?_) fun _ => rfl
      rw [G.tb.meths] at hf
      have look : ∀ l : List ((Nat × Nat) × Nat), lookM l i m = some f → ((i, m), f) ∈ l := by
        intro l
        induction l with
        | nil => intro z; cases z
        | cons p r ih =>
          obtain ⟨⟨d, n⟩, g⟩ := p
          intro z
          have z' : (match Nat.beq d i && Nat.beq n m with | true => some g | false => lookM r i m) = some f := z
          cases q : (Nat.beq d i && Nat.beq n m) with
          | true =>
            rw [q] at z'
            rw [Bool.and_eq_true] at q
            cases z'
            rw [Nat.eq_of_beq_eq_true q.1, Nat.eq_of_beq_eq_true q.2]
            exact List.mem_cons_self ..
          | false => rw [q] at z'; exact List.mem_cons_of_mem _ (ih z')
      have := List.all_eq_true.mp h7 _ (look _ hf)
      simp only [Nat.beq_refl, Bool.not_true, Bool.false_or] at this
      exact this
    · cases h
  | .bi b es, S, e, h, c, k, L, X, W, G, tk => by
    simp only [ckE] at h
    split at h
    · simp only [Bool.and_eq_true] at h
      obtain ⟨⟨⟨⟨⟨hc, h1⟩, h2⟩, h3⟩, h4⟩, h5⟩ := h
      obtain ⟨g1, g2⟩ := okGl_of h3
      split at h1
      · rename_i y f hb
        rw [decide_eq_true_eq] at h1
        subst h1
        obtain ⟨q1, q2, q3⟩ := biRule G hc hb
        exact Both.val (bi_ok G G.tb.pres q1 (isBlt_of h2) g1 g2 q2 q3 (ckEs_ok es h5 G tk) h4) fun _ => rfl
      · cases h1
    · cases h
  | .bm m o es, S, e, h, c, k, L, X, W, G, tk => by
    simp only [ckE] at h
    split at h
    · simp only [Bool.and_eq_true, decide_eq_true_eq] at h
      obtain ⟨⟨⟨⟨⟨⟨h1, h2⟩, h3⟩, h4⟩, h5⟩, h6⟩, h7⟩ := h
      cases m <;> (simp only [bmNm] at h1; try (cases h1))
      rw [decide_eq_true_eq] at h1
      subst h1
      exact Both.val (bml_ok G rfl PySem.F.slot_list_append PySem.F.type_list_append m_append (ckE_ok o h6 G tk).both.1 h2 (ckEs_ok es h7 G tk) h3 h4 h5) fun _ => rfl
    · cases h
  | .isi a ts, S, e, h, c, k, L, X, W, G, tk => by
    simp only [ckE] at h
    split at h
    · simp only [Bool.and_eq_true, decide_eq_true_eq] at h
      obtain ⟨⟨⟨⟨⟨⟨rfl, h2⟩, h3⟩, h4⟩, h5⟩, h6⟩, h7⟩ := h
      split at h5
      · obtain ⟨w, w1, w2, w3⟩ := tyRule G h5 h6
        exact Both.val (isi_ok G (isBlt_of h2) (okGl_of h3).1 (ckE_ok a h7 G tk).both.1 w1 w2 w3 h4 rfl) fun _ => rfl
      · cases h5
    · cases h
  | .lc el (.mk own tg it ifs), S, e, h, c, k, L, X, W, G, tk => by
    simp only [ckE] at h
    split at h
    · simp only [Bool.and_eq_true, decide_eq_true_eq] at h
      obtain ⟨⟨⟨⟨⟨⟨⟨⟨hc, rfl⟩, h1⟩, h2⟩, h3⟩, h4⟩, h5⟩, h6⟩, h7⟩ := h
      obtain ⟨o1, o2, o3⟩ := okBlk_of G h1
      have := lc_ok (pos := by assumption) G hc G.tb.pres (by rw [o1]; exact subs_of h2) o3 h3 o2 (ckI_ok it h4 G tk) (fun X' L' G' => ckT_ok tg h5 G') (fun X' L' G' => ckL_ok ifs h6 G') (fun X' L' G' => (ckE_ok el h7 G' fun _ => wf_takes).both.1)
      rw [o1] at this
      exact Both.val this fun _ => rfl
    · cases h
  | .lc2 el (.mk own tg it ifs) (.mk own2 tg2 it2 ifs2), S, e, h, c, k, L, X, W, G, tk => by
    simp only [ckE] at h
    split at h
    · simp only [Bool.and_eq_true, decide_eq_true_eq] at h
      obtain ⟨⟨⟨⟨⟨⟨⟨⟨⟨⟨⟨⟨⟨⟨⟨⟨hc, rfl⟩, rfl⟩, h1⟩, h1b⟩, h1c⟩, h2⟩, h2b⟩, h3⟩, h3b⟩, h4⟩, h5⟩, h6⟩, h8⟩, h9⟩, h10⟩, h7⟩ := h
      obtain ⟨o1, o2, o3⟩ := okBlk_of G h1
      have := lc2_ok (pos := by assumption) (own2 := ownOf S own2) G hc G.tb.pres (by rw [o1]; exact subs_of h2) (by rw [h1b]; exact subs_of h2b) (by rw [o1, h1b]; exact subs_of h1c) o3 h3 h3b o2 (ckI_ok it h4 G tk) (fun X' L' G' => ckT_ok tg h5 G') (fun X' L' G' => ckL_ok ifs h6 G')
        (fun X' L' G' => ckI_ok it2 h8 G' fun _ => wf_takes) (fun X' L' G' => ckT_ok tg2 h9 G') (fun X' L' G' => ckL_ok ifs2 h10 G') (fun X' L' G' => (ckE_ok el h7 G' fun _ => wf_takes).both.1)
      rw [o1, h1b] at this
      exact Both.val this fun _ => rfl
    · cases h
  | .sc el (.mk own tg it ifs), S, e, h, c, k, L, X, W, G, tk => by
    simp only [ckE] at h
    split at h
    · simp only [Bool.and_eq_true, decide_eq_true_eq] at h
      obtain ⟨⟨⟨⟨⟨⟨⟨⟨hc, rfl⟩, h1⟩, h2⟩, h3⟩, h4⟩, h5⟩, h6⟩, h7⟩ := h
      obtain ⟨o1, o2, o3⟩ := okBlk_of G h1
      have := sc_ok (pos := by assumption) G hc G.tb.pres (by rw [o1]; exact subs_of h2) o3 h3 o2 (ckI_ok it h4 G tk) (fun X' L' G' => ckT_ok tg h5 G') (fun X' L' G' => ckL_ok ifs h6 G') (fun X' L' G' => (ckE_ok el h7 G' fun _ => wf_takes).both.1)
      rw [o1] at this
      exact Both.val this fun _ => rfl
    · cases h
  | .dc _ _ _, S, e, h, _, _, _, _, _, _, _ => by simp only [ckE] at h; cases h
  | .fst _, S, e, h, _, _, _, _, _, _, _ => by simp only [ckE] at h; cases h
theorem ckEs_ok : ∀ (ts : List Ex) {S : Sk} {es : List Expr}, ckEs ts S es = true → ∀ {c : Ctx} {k : Nat} {L : Lk} {X : Cx} {W : WX}, Good c k L S X → (S.cold = true → Takes X W) → PA X es (tA L W fun ρ => evEs c ρ ts)
  | [], S, es, h, c, k, L, X, W, G, tk => by
    simp only [ckEs] at h
    obtain rfl : es = [] := by simpa using h
    exact anil_ok
  | a :: ts, S, es, h, c, k, L, X, W, G, tk => by
    simp only [ckEs] at h
    split at h
    · simp only [Bool.and_eq_true] at h
      exact acons_ok (ckE_ok a h.1.2 G tk).both.1 (ckEs_ok ts h.2 G tk) h.1.1
    · cases h
theorem ckL_ok : ∀ (ts : List Ex) {S : Sk} {es : List Expr}, ckL ts S es = true → ∀ {c : Ctx} {k : Nat} {L : Lk} {X : Cx}, Good c k L S X → PTs X es (tTs L fun ρ => evTs c ρ ts)
  | [], S, es, h, c, k, L, X, G => by
    simp only [ckL] at h
    obtain rfl : es = [] := by simpa using h
    exact tsnil_ok
  | a :: ts, S, es, h, c, k, L, X, G => by
    simp only [ckL] at h
    split at h
    · simp only [Bool.and_eq_true] at h
      obtain rfl : ts = [] := by simpa using h.1
      exact tsone_ok (ckE_ok a h.2 G fun _ => wf_takes).both
    · cases h
theorem ckO_ok : ∀ (t : Option Ex) {S : Sk} {e : Option Expr}, ckO t S e = true → ∀ {c : Ctx} {k : Nat} {L : Lk} {X : Cx} {W : WX}, Good c k L S X → (S.cold = true → Takes X W) → PO X e (tO L W fun ρ => evO c ρ t)
  | none, S, e, h, c, k, L, X, W, G, tk => by
    simp only [ckO] at h
    obtain rfl : e = none := by simpa using h
    exact onone_ok
  | some a, S, e, h, c, k, L, X, W, G, tk => by
    simp only [ckO] at h
    split at h
    · exact osome_ok (ckE_ok a h G tk).both.1
    · cases h
theorem ckI_ok : ∀ (t : Itr) {S : Sk} {e : Expr}, ckI t S e = true → ∀ {c : Ctx} {k : Nat} {L : Lk} {X : Cx} {W : WX} {tg : Expr}, Good c k L S X → (S.cold = true → Takes X W) → PI X tg e (tI L W fun ρ => evIt c ρ t)
  | .any a, S, e, h, c, k, L, X, W, tg, G, tk => by
    simp only [ckI] at h
    have := any_ok (tg := tg) G (ckE_ok a h G tk).both.1
    simp only [evIt]
    exact this
  | .rng1 a, S, e, h, c, k, L, X, W, tg, G, tk => by
    simp only [ckI] at h
    split at h
    · simp only [Bool.and_eq_true, decide_eq_true_eq] at h
      obtain ⟨⟨⟨⟨rfl, h1⟩, h2⟩, h3⟩, h4⟩ := h
      exact rng1_ok (x := Expr.Starred default default) G h2 (isBlt_of h1) (ckE_ok a h4 G tk).both.1 h3
    · cases h
  | .rng2 a b, S, e, h, c, k, L, X, W, tg, G, tk => by
    simp only [ckI] at h
    split at h
    · simp only [Bool.and_eq_true, decide_eq_true_eq] at h
      obtain ⟨⟨⟨⟨⟨⟨rfl, h1⟩, h2⟩, h3⟩, h3b⟩, h4⟩, h5⟩ := h
      exact rng2_ok G h2 (isBlt_of h1) (ckE_ok a h4 G tk).both.1 (ckE_ok b h5 G tk).both.1 h3 h3b
    · cases h
  | .rng3 _ _ _, S, e, h, _, _, _, _, _, _, _, _ => by simp only [ckI] at h; cases h
  | .enum _, S, e, h, _, _, _, _, _, _, _, _ => by simp only [ckI] at h; cases h
  | .zip _ _, S, e, h, _, _, _, _, _, _, _, _ => by simp only [ckI] at h; cases h
theorem ckT_ok : ∀ (t : Tg) {S : Sk} {e : Expr}, ckT t S e = true → ∀ {c : Ctx} {k : Nat} {L : Lk} {X : Cx}, Good c k L S X → PG X e (tG L (tgN t) fun ρ v => M.quiet (asgT c ρ t v))
  | .nm i, S, e, h, c, k, L, X, G => by
    simp only [ckT] at h
    split at h
    · simp only [Bool.and_eq_true, decide_eq_true_eq, Bool.not_eq_true'] at h
      exact nm_ok G h.1.1 h.1.2 h.2
    · cases h
  | .tp ts, S, e, h, c, k, L, X, G => by
    simp only [ckT] at h
    split at h
    · simp only [Bool.and_eq_true, decide_eq_true_eq] at h
      obtain ⟨⟨⟨hc, h1⟩, h2⟩, h3⟩ := h
      exact tp_ok G hc (ckTs_ok ts h3 G) h1 h2
    · cases h
  | .star _ _ _, S, e, h, _, _, _, _, _ => by simp only [ckT] at h; cases h
  | .fld f o, S, e, h, c, k, L, X, G => by
    simp only [ckT] at h
    split at h
    · simp only [Bool.and_eq_true, decide_eq_true_eq] at h
      obtain ⟨⟨rfl, h2⟩, h3⟩ := h
      rw [← G.tb.nm f]
      exact tfld_ok G (ckE_ok o h3 G fun _ => wf_takes).both.1 h2
    · cases h
  | .sub o i, S, e, h, c, k, L, X, G => by
    simp only [ckT] at h
    split at h
    · simp only [Bool.and_eq_true] at h
      exact tsub_ok G h.1.1 (ckE_ok o h.1.2 G fun _ => wf_takes).both.1 (ckE_ok i h.2 G fun _ => wf_takes).both.1
    · cases h
theorem ckTs_ok : ∀ (ts : List Tg) {S : Sk} {es : List Expr}, ckTs ts S es = true → ∀ {c : Ctx} {k : Nat} {L : Lk} {X : Cx}, Good c k L S X → PGs X es (tGs L (tgsN ts) fun ρ vs => M.quiet (asgTs c ρ ts vs))
  | [], S, es, h, c, k, L, X, G => by
    simp only [ckTs] at h
    obtain rfl : es = [] := by simpa using h
    exact gnil_ok
  | a :: ts, S, es, h, c, k, L, X, G => by
    simp only [ckTs] at h
    split at h
    · simp only [Bool.and_eq_true] at h
      exact gcons_ok (ckT_ok a h.1.2 G) (ckTs_ok ts h.2 G) h.1.1
    · cases h
end
end TL
end

section
set_option maxRecDepth 100000
set_option maxHeartbeats 4000000
set_option autoImplicit false
/-! TL: what is checked runs as its tree: statements. -/
namespace TL
open PySem PySem.Spec PyProof.Rows L2
/-- name = [..] on one line -/
def ckSw (t : Tg) (a : Ex) (S : Sk) (tg e : Expr) : Bool := match t with
  | .nm i => (match a with
    | .lc el (.mk own t2 it ifs) => (match tg with
      | .Name x px => (match e with
        | .ListComp elt [⟨tg', iter, tests, asy⟩] scope lpos => S.cold && decide (asy = 0) && okBlk S scope own && (tgN t2).all own.contains && notSet iter && ckI it S iter && ckT t2 (S.blk scope) tg' && ckL ifs (S.blk scope) tests && ckE el (S.blk scope) elt &&
            decide (S.N[i]? = some x) && locB S.sc x && decide (S.sc.kind = .function) && (px.line == lpos.line) && !(scope.names.any fun (n, k) => n == x && (k == .local || k == .cell)) && !S.ban.contains i
        | _ => false)
      | _ => false)
    | _ => false)
  | _ => false
def okTst (cs : List Nat) (S : Sk) (t : Expr) : Bool := match cs, t with
  | [j], .Name x _ => isCls S x j && okGl S x
  | [j, l], .Tuple [.Name x _, .Name y _] _ _ => isCls S x j && okGl S x && isCls S y l && okGl S y
  | _, _ => false
mutual
def ckS : TL.St → Sk → Stmt → Bool
  | .set t a, S, s => match s with
    | .Assign [tg] e _ => (noSw tg e S.sc && noSS tg e && noStar tg && ckE a S e && ckT t S tg) || ckSw t a S tg e
    | _ => false
  | .aug i o a, S, s => match s with
    | .AugAssign (.Name x _) p e _ => decide (p = opS o) && decide (S.N[i]? = some x) && stoB S x && !S.ban.contains i && ckE a S e
    | _ => false
  | .augF _ _ _ _, _, _ => false
  | .augI _ _ _ _, _, _ => false
  | .ifs a x y, S, s => match s with
    | .If e xs ys _ => ckE a S e && ckSs x S xs && ckSs y S ys
    | _ => false
  | .whl a x, S, s => match s with
    | .While e xs [] _ => S.cold && ckE a S e && ckSs x S xs
    | _ => false
  | .fors t it x, S, s => match s with
    | .For tg iter xs [] _ => S.cold && notSet iter && ckI it S iter && ckT t S tg && ckSs x S xs
    | _ => false
  | .ret a, S, s => match s with
    | .Return (some e) _ => ckE a S e
    | _ => false
  | .retN, S, s => match s with
    | .Return none _ => true
    | _ => false
  | .exp a, S, s => match s with
    | .Expr e _ => noComp e && ckE a S e
    | _ => false
  | .rse kk es, S, s => match s with
    | .Raise (some (.Call (.Name x _) xs [] _)) none _ => S.cold && isCls S x kk && okGl S x && xs.all noStar && decide (xs.length = es.length) && decide (es.length = S.tb.en kk) && decide (es.length ≤ 1000) && (S.tb.flds.lookup kk).isSome && ckEs es S xs
    | _ => false
  | .tryE b hs, S, s => match s with
    | .Try body (h0 :: hds) [] [] _ => S.cold && S.top && ckSs b S.tr body && ckH hs S (h0 :: hds)
    | _ => false
  | .tryF _ _, _, _ => false
  | .brk, _, s => match s with
    | .Break _ => true
    | _ => false
  | .cnt, _, s => match s with
    | .Continue _ => true
    | _ => false
  | .pass, _, s => match s with
    | .Pass _ => true
    | _ => false
def ckSs : List TL.St → Sk → List Stmt → Bool
  | [], _, ss => ss.isEmpty
  | x :: xs, S, ss => match ss with
    | s :: r => ckS x S s && ckSs xs S r
    | [] => false
def ckH : List Hd → Sk → List ExceptHandler → Bool
  | [], _, hs => hs.isEmpty
  | .mk cs as_ b :: r, S, hds => match hds with
    | .ExceptHandler (some t) nm (b0 :: suite) _ :: hr => cs.all S.xs.contains && okTst cs S t && (match as_, nm with
        | none, none => true
        | some i, some n => decide (S.N[i]? = some n) && decide (S.sc.names.lookup n = some .local) && !S.ban.contains i
        | _, _ => false) && ckSs b (S.suite as_) (b0 :: suite) && ckH r S hr
    | _ => false
end
section
variable {c : Ctx} {k : Nat} {L : Lk} {S : Sk} {X : Cx} {W : WX} {pos : Pos}
theorem names_of (G : Good c k L S X) {x : Str} {j : Nat} (h1 : isCls S x j = true) (h2 : okGl S x = true) : Names X x (.ref (L.cl j)) := by
  obtain ⟨g1, g2⟩ := okGl_of h2
  exact ⟨gl_of G g1, plainNm_1 g2, .inl (G.gcl x j (isCls_of h1))⟩
theorem tst_ok (G : Good c k L S X) {cs : List Nat} {t : Expr} (h : okTst cs S t = true) : ∀ cls d, PySem.W.exmAny X.K cls (cs.map fun j => .ref (L.cl j)) = some d → ClTest X t cls d := by
  intro cls d hd
  unfold okTst at h
  split at h
  · rw [Bool.and_eq_true] at h
    obtain ⟨b1, d1, h1, h2, rfl⟩ := PySem.W.exmAny_cons hd
    have : d1 = false := by unfold PySem.W.exmAny at h2; cases h2; rfl
    subst this
    rw [Bool.or_false]
    exact cl_one (names_of G h.1 h.2) h1
  · simp only [Bool.and_eq_true] at h
    exact cl_two (names_of G h.1.1.1 h.1.1.2) (names_of G h.1.2 h.2) hd
  · cases h
theorem ckSw_ok {t : Tg} {a : Ex} {tg e : Expr} (h : ckSw t a S tg e = true) (G : Good c k L S X) (tk : S.cold = true → Takes X W) : PS X (.Assign [tg] e pos) (tS L W (exS c (.set t a))) := by
  unfold ckSw at h
  split at h
  · split at h
    · split at h
      · split at h
        · simp only [Bool.and_eq_true, decide_eq_true_eq, Bool.not_eq_true'] at h
          obtain ⟨⟨⟨⟨⟨⟨⟨⟨⟨⟨⟨⟨⟨⟨hc, rfl⟩, h1⟩, h2⟩, h3⟩, h4⟩, h5⟩, h6⟩, h7⟩, h8⟩, h9⟩, h10⟩, h11⟩, h12⟩, h13⟩ := h
          obtain ⟨o1, o2, o3⟩ := okBlk_of G h1
          have := setLc_ok (pos := pos) (W := W) G hc G.tb.pres (by rw [o1]; exact subs_of h2) o3 h13 h3 h8 h9 h10 h11 h12 o2 (ckI_ok _ h4 G tk) (fun X' L' G' => ckT_ok _ h5 G') (fun X' L' G' => ckL_ok _ h6 G') (fun X' L' G' => (ckE_ok _ h7 G' fun _ => wf_takes).both.1)
          rw [o1] at this
          exact this
        · cases h
      · cases h
    · cases h
  · cases h
end
mutual
theorem ckS_ok : ∀ (t : TL.St) {S : Sk} {s : Stmt}, ckS t S s = true → ∀ {c : Ctx} {k : Nat} {L : Lk} {X : Cx} {W : WX}, Good c k L S X → (S.cold = true → Takes X W ∧ PassesOwn (model X.prog X.w) X.A X.env X.xe) → PS X s (tS L W (exS c t))
  | .set t a, S, s, h, c, k, L, X, W, G, tk => by
    simp only [ckS] at h
    split at h
    · rw [Bool.or_eq_true] at h
      rcases h with h | h
      · simp only [Bool.and_eq_true] at h
        exact set_ok G (ckE_ok a h.1.2 G fun z => (tk z).1).both.1 (ckT_ok t h.2 G) h.1.1.1.1 h.1.1.1.2 h.1.1.2
      · exact ckSw_ok h G fun z => (tk z).1
    · cases h
  | .aug i o a, S, s, h, c, k, L, X, W, G, tk => by
    simp only [ckS] at h
    split at h
    · simp only [Bool.and_eq_true, decide_eq_true_eq, Bool.not_eq_true'] at h
      obtain ⟨⟨⟨⟨rfl, h1⟩, h2⟩, h3⟩, h4⟩ := h
      exact aug_ok G h1 h2 h3 (ckE_ok a h4 G fun z => (tk z).1).both.1
    · cases h
  | .augF _ _ _ _, S, s, h, _, _, _, _, _, _, _ => by simp only [ckS] at h; cases h
  | .augI _ _ _ _, S, s, h, _, _, _, _, _, _, _ => by simp only [ckS] at h; cases h
  | .ifs a x y, S, s, h, c, k, L, X, W, G, tk => by
    simp only [ckS] at h
    split at h
    · simp only [Bool.and_eq_true] at h
      exact if_ok (ckE_ok a h.1.1 G fun z => (tk z).1).both (ckSs_ok x h.1.2 G tk) (ckSs_ok y h.2 G tk)
    · cases h
  | .whl a x, S, s, h, c, k, L, X, W, G, tk => by
    simp only [ckS] at h
    split at h
    · simp only [Bool.and_eq_true] at h
      exact whl_ok (tk h.1.1).2 (ckE_ok a h.1.2 G fun z => (tk z).1).both (ckSs_ok x h.2 G tk)
    · cases h
  | .fors t it x, S, s, h, c, k, L, X, W, G, tk => by
    simp only [ckS] at h
    split at h
    · simp only [Bool.and_eq_true] at h
      obtain ⟨⟨⟨⟨hc, h1⟩, h2⟩, h3⟩, h4⟩ := h
      exact fors_ok G hc G.tb.pres (tk hc).2 (ckI_ok it h2 G fun z => (tk z).1) h1 (fun L' G' => ckT_ok t h3 G') (fun L' G' => ckSs_ok x h4 G' tk)
    · cases h
  | .ret a, S, s, h, c, k, L, X, W, G, tk => by
    simp only [ckS] at h
    split at h
    · exact ret_ok (ckE_ok a h G fun z => (tk z).1).both.1
    · cases h
  | .retN, S, s, h, c, k, L, X, W, G, tk => by
    simp only [ckS] at h
    split at h
    · exact retN_ok
    · cases h
  | .exp a, S, s, h, c, k, L, X, W, G, tk => by
    simp only [ckS] at h
    split at h
    · simp only [Bool.and_eq_true] at h
      exact exp_ok (ckE_ok a h.2 G fun z => (tk z).1).both.1 h.1
    · cases h
  | .rse kk es, S, s, h, c, k, L, X, W, G, tk => by
    simp only [ckS] at h
    split at h
    · simp only [Bool.and_eq_true, decide_eq_true_eq] at h
      obtain ⟨⟨⟨⟨⟨⟨⟨⟨hc, h1⟩, h2⟩, h3⟩, h4⟩, h5⟩, h6⟩, h7⟩, h8⟩ := h
      obtain ⟨g1, g2⟩ := okGl_of h2
      exact rse_ok G hc (tk hc).1 (isCls_of h1) g1 g2 (ckEs_ok es h8 G fun z => (tk z).1) h3 h4 (by rw [G.tb.en]; exact h5) h6 (by rw [G.tb.flds]; exact h7)
    · cases h
  | .tryE b hs, S, s, h, c, k, L, X, W, G, tk => by
    simp only [ckS] at h
    split at h
    · simp only [Bool.and_eq_true] at h
      obtain ⟨⟨⟨hc, h1⟩, h2⟩, h3⟩ := h
      exact try_ok G h1 (tk hc).1 (fun X' W' G' t1 t2 => ckSs_ok b h2 G' fun _ => ⟨t1, t2⟩) (ckH_ok hs h3 G)
    · cases h
  | .tryF _ _, S, s, h, _, _, _, _, _, _, _ => by simp only [ckS] at h; cases h
  | .brk, S, s, h, c, k, L, X, W, G, tk => by
    simp only [ckS] at h
    split at h
    · exact brk_ok
    · cases h
  | .cnt, S, s, h, c, k, L, X, W, G, tk => by
    simp only [ckS] at h
    split at h
    · exact cnt_ok
    · cases h
  | .pass, S, s, h, c, k, L, X, W, G, tk => by
    simp only [ckS] at h
    split at h
    · exact pass_ok
    · cases h
theorem ckSs_ok : ∀ (ts : List TL.St) {S : Sk} {ss : List Stmt}, ckSs ts S ss = true → ∀ {c : Ctx} {k : Nat} {L : Lk} {X : Cx} {W : WX}, Good c k L S X → (S.cold = true → Takes X W ∧ PassesOwn (model X.prog X.w) X.A X.env X.xe) → PSs X ss (tS L W (exSs c ts))
  | [], S, ss, h, c, k, L, X, W, G, tk => by
    simp only [ckSs] at h
    obtain rfl : ss = [] := by simpa using h
    exact ssnil_ok
  | x :: xs, S, ss, h, c, k, L, X, W, G, tk => by
    simp only [ckSs] at h
    split at h
    · simp only [Bool.and_eq_true] at h
      exact sscons_ok (ckS_ok x h.1 G tk) (ckSs_ok xs h.2 G tk)
    · cases h
theorem ckH_ok : ∀ (hs : List Hd) {S : Sk} {hds : List ExceptHandler}, ckH hs S hds = true → ∀ {c : Ctx} {k : Nat} {L : Lk} {X : Cx}, Good c k L S X → HdsT c k L S X hs hds
  | [], S, hds, h, c, k, L, X, G => by
    simp only [ckH] at h
    obtain rfl : hds = [] := by simpa using h
    exact .nil
  | .mk cs none b :: r, S, hds, h, c, k, L, X, G => by
    simp only [ckH] at h
    split at h
    · simp only [Bool.and_eq_true] at h
      obtain ⟨⟨⟨⟨h1, h2⟩, h3⟩, h4⟩, h5⟩ := h
      split at h3
      · exact .non (fun j hj => List.contains_iff_mem.mp (List.all_eq_true.mp h1 j hj)) (tst_ok G h2) (fun X' a x dd _ G' => ckSs_ok b h4 G' fun z => by cases z) (ckH_ok r h5 G)
      · rename_i q; cases q
      · cases h3
    · cases h
  | .mk cs (some i) b :: r, S, hds, h, c, k, L, X, G => by
    simp only [ckH] at h
    split at h
    · rename_i t nm b0 suite pos' hr
      simp only [Bool.and_eq_true] at h
      obtain ⟨⟨⟨⟨h1, h2⟩, h3⟩, h4⟩, h5⟩ := h
      cases nm with
      | none => cases h3
      | some n =>
        simp only [Bool.and_eq_true, decide_eq_true_eq, Bool.not_eq_true'] at h3
        exact .as (fun j hj => List.contains_iff_mem.mp (List.all_eq_true.mp h1 j hj)) (tst_ok G h2) h3.1.1 h3.1.2 (fun z => by rw [List.contains_iff_mem.mpr z] at h3; cases h3.2) (fun X' a x dd _ G' => ckSs_ok b h4 G' fun z => by cases z) (ckH_ok r h5 G)
    · cases h
end
end TL
end

section
set_option maxRecDepth 100000
set_option maxHeartbeats 2000000
set_option autoImplicit false
/-! TL: what the head tells of a text. -/
namespace TL
open PySem PySem.Spec PyProof.Rows L2
/-! ### names by numbers -/
def nmOf (l : List Str) (i : Nat) : Str := match l[i]? with
  | some x => x
  | none => ⟨(List.replicate (i + 1) 35).toArray⟩
def hashy (x : Str) : Bool := match x.cps.toList with
  | c :: _ => Nat.beq c 35
  | [] => false
def nmsB (l : List Str) : Bool := decide l.Nodup && l.all fun x => !(hashy x)
theorem nmOf_inj {l : List Str} (h : nmsB l = true) : ∀ i j, nmOf l i = nmOf l j → i = j := by
  unfold nmsB at h
  rw [Bool.and_eq_true, decide_eq_true_eq] at h
  obtain ⟨h1, h2⟩ := h
  have hh : ∀ i, hashy ⟨(List.replicate (i + 1) 35).toArray⟩ = true := fun i => by
    unfold hashy
    simp [List.replicate_succ]
  have ne : ∀ (x : Str) (i : Nat), x ∈ l → x ≠ ⟨(List.replicate (i + 1) 35).toArray⟩ := fun x i hx e => by
    have := List.all_eq_true.mp h2 x hx
    rw [e, hh] at this
    cases this
  intro i j e
  unfold nmOf at e
  cases ei : l[i]? with
  | some x =>
    rw [ei] at e
    cases ej : l[j]? with
    | some y =>
      rw [ej] at e
      dsimp only at e
      subst e
      obtain ⟨hi, e1⟩ := List.getElem?_eq_some_iff.mp ei
      obtain ⟨hj, e2⟩ := List.getElem?_eq_some_iff.mp ej
      exact (List.getElem_inj h1).mp (e1.trans e2.symm)
    | none =>
      rw [ej] at e
      exact absurd e (ne x j (List.mem_of_getElem? ei))
  | none =>
    rw [ei] at e
    cases ej : l[j]? with
    | some y =>
      rw [ej] at e
      exact absurd e.symm (ne y i (List.mem_of_getElem? ej))
    | none =>
      rw [ej] at e
      dsimp only at e
      have e2 := congrArg (fun z : Str => z.cps.size) e
      simp only [List.size_toArray, List.length_replicate] at e2
      omega
/-! ### a text -/
structure Tx where
  prog : Prog
  names : List Str
  fl : List Nat
  fns : List He.DefD
  Ns : List (List Str)
  pss : List (List Str)
  clss : List Str
  cs : List Nat
  gls : List (Str × GK)
  xs : List Nat
  xf : List Nat
  ens : List (Nat × Nat)
  xis : List (Nat × Nat)
  bfs : List (Nat × Nat × List Src)
  bms : List (Nat × Nat × List Src)
def srcB : Src → Src → Bool
  | .arg i, .arg j => Nat.beq i j
  | .dfl x, .dfl y => PV.beq x y
  | _, _ => false
def srcsB : List Src → List Src → Bool
  | [], [] => true
  | a :: r, b :: q => srcB a b && srcsB r q
  | _, _ => false
theorem srcB_eq {a b : Src} (h : srcB a b = true) : a = b := by
  cases a <;> cases b <;> simp only [srcB] at h
  · rw [Nat.eq_of_beq_eq_true h]
  · cases h
  · cases h
  · rw [PV.eq_of_beq _ _ h]
theorem srcsB_eq : ∀ {a b : List Src}, srcsB a b = true → a = b
  | [], [], _ => rfl
  | a :: r, b :: q, h => by
    simp only [srcsB, Bool.and_eq_true] at h
    rw [srcB_eq h.1, srcsB_eq h.2]
  | [], _ :: _, h => by simp only [srcsB] at h; cases h
  | _ :: _, [], h => by simp only [srcsB] at h; cases h
def hasB (l : List (Nat × Nat × List Src)) (f n : Nat) (b : List Src) : Bool := l.any fun p => Nat.beq p.1 f && Nat.beq p.2.1 n && srcsB p.2.2 b
theorem hasB_mem {l : List (Nat × Nat × List Src)} {f n : Nat} {b : List Src} (h : hasB l f n b = true) : (f, n, b) ∈ l := by
  obtain ⟨⟨f', n', b'⟩, hm, e⟩ := List.any_eq_true.mp h
  simp only [Bool.and_eq_true] at e
  rw [← Nat.eq_of_beq_eq_true e.1.1, ← Nat.eq_of_beq_eq_true e.1.2, ← srcsB_eq e.2]
  exact hm
def plainP (a : Arguments) (ps : List Str) : Bool := match a with
  | ⟨[], as, none, [], [], none, []⟩ => decide (as.map (·.arg) = ps) && decide ps.Nodup
  | _ => false
def argsTo (n : Nat) : List Src := (List.range n).map Src.arg
namespace Tx
variable (T : Tx)
/-- a def of n plain parameters -/
def plainAt (f n : Nat) : Bool := match T.fns[f]? with
  | some d => d.dfl.isEmpty && d.kwd.isEmpty && plainP d.params (T.pss.getD f []) && Nat.beq (T.pss.getD f []).length n
  | none => false
def cn (i : Nat) : Str := T.clss.getD i ""
def en (k : Nat) : Nat := match T.ens.lookup k with
  | some n => n
  | none => 0
def tb : Tb := { nm := nmOf T.names, fl := T.fl, meths := T.prog.meths, inits := T.prog.inits, flds := T.prog.flds, en := T.en, cs := T.cs, bF := fun f n b => (T.plainAt f n && srcsB b (argsTo n)) || hasB T.bfs f n b, bM := fun f n b => (T.plainAt f (n + 1) && srcsB b (argsTo n)) || hasB T.bms f n b }
def sk (N : List Str) (sc : Scope) : Sk := { gl := fun x => T.gls.lookup x, N := N, sc := sc, st := fun _ => true, cold := true, ban := [], xs := T.xs, xf := T.xf, cau := none, top := true, tb := T.tb }
def fa (K : PySem.W.Frag) (f : Nat) : Addr := match T.fns[f]? with
  | some d => He.fAd K d.at_
  | none => 0
def fd (K : PySem.W.Frag) (f : Nat) : FuncData := match K.lookup (T.fa K f) with
  | some ⟨_, _, .func fd, _⟩ => fd
  | _ => default
/-- the law of a text at a part of the heap -/
def lk (h : nmsB T.names = true) (K : PySem.W.Frag) (P : Program) (w : World) : Lk where
  K := K
  nm := nmOf T.names
  cl := fun i => He.ga K (T.cn i)
  cs := T.cs
  F := []
  fa := T.fa K
  fd := T.fd K
  ps := fun f => T.pss.getD f []
  en := T.en
  inj := nmOf_inj h
  P := P
  w := w
  dy := []
  sl := []
  xc := []
/-! ### what is looked at -/
def at_ (f : Nat) (p : Str × Option Str) : Bool := match T.fns[f]? with
  | some d => decide (d.at_ = p)
  | none => false
def glB (K : PySem.W.Frag) (x : Str) : GK → Bool
  | .fn f => T.at_ f (x, none) && (He.Fa.glo x).ok K && Nat.blt f T.fns.length
  | .cls c => decide (T.clss[c]? = some x) && (He.Fa.glo x).ok K
  | .con g => (match T.prog.globs[g]? with
    | some (.int i) => (He.Fa.int x i).ok K
    | some (.str z) => (He.Fa.str x ⟨z.toArray⟩).ok K
    | _ => false)
  | .blt => (He.Fa.free x).ok K
def oneB (o : Option Bool) (b : Bool) : Bool := match o with
  | some c => c == b
  | none => false
end Tx
theorem oneB_eq {o : Option Bool} {b : Bool} (h : Tx.oneB o b = true) : o = some b := by
  cases o with
  | none => cases h
  | some c =>
    have e : (c == b) = true := h
    rw [beq_iff_eq.mp e]
def oexcB (K : PySem.W.Frag) (C : Addr) : Bool := (match K.lookup C with
  | some ⟨.type "type", _, .cls cd, sl⟩ => (match cd.mro, sl.toList with
    | .ref C' :: bm, [_, _, _, _, some (.builtin n), _] => C' == C && n == "ValueError.__new__" && !cd.hasDel && cd.hasDict && PySem.HandSPX.refsVE bm
    | _, _ => false)
  | _ => false) && decide (PySem.W.findIn K (.ref C) "__setattr__" = some (some (.builtin "object.__setattr__"))) && Tx.oneB (PySem.W.subIn K (.ref C) (.type "BaseException")) true && decide (PySem.W.typeIn K (.ref C) = some (.type "type")) && PySem.W.keepIn K (.ref C)
theorem oexcB_ok {K : PySem.W.Frag} {C : Addr} (h : oexcB K C = true) : OexC K C := by
  unfold oexcB at h
  simp only [Bool.and_eq_true, decide_eq_true_eq] at h
  obtain ⟨⟨⟨⟨q, h2⟩, h3⟩, h4⟩, h5⟩ := h
  refine ⟨?_, h2, oneB_eq h3, h4, h5⟩
  split at q
  · rename_i dd cd sl ho
    split at q
    · rename_i C' bm k0 k1 k2 k3 n k5 hm hs
      simp only [Bool.and_eq_true, beq_iff_eq, Bool.not_eq_true'] at q
      obtain ⟨⟨⟨⟨rfl, rfl⟩, hdel⟩, hdi⟩, ht⟩ := q
      obtain ⟨nm, bs, mro, ns, qn, hd, sn, sub, ab, col, del⟩ := cd
      dsimp only at hm hdel hdi
      subst hm hdel hdi
      have hsl : sl = #[k0, k1, k2, k3, some (.builtin "ValueError.__new__"), k5] := by
        obtain ⟨l⟩ := sl
        simp only at hs
        rw [hs]
      subst hsl
      exact ⟨nm, qn, ns, bs, bm, sn, sub, ab, col, dd, k0, k1, k2, k3, k5, ho, ht⟩
    · cases q
  · cases q
namespace Tx
variable (T : Tx)
def cK (K : PySem.W.Frag) (i : Nat) : Addr := He.ga K (T.cn i)
def clsB (K : PySem.W.Frag) (i : Nat) : Bool := (He.Fa.cls (T.cn i)).ok K && (["int", "bool", "str", "list", "tuple"].all fun t => oneB (PySem.W.kitOne K (.ref (T.cK K i)) (.type t)) false) &&
  (T.cs.all fun j => oneB (PySem.W.kitOne K (.ref (T.cK K i)) (.ref (T.cK K j))) (Nat.beq j i)) && (["NoneType", "int", "bool", "str", "list", "tuple", "dict", "set"].all fun t => oneB (PySem.W.kitOne K (.type t) (.ref (T.cK K i))) false) &&
  decide (PySem.W.findIn K (.ref (T.cK K i)) "__class__" = some (some (.builtin "object.__class__"))) && oneB (PySem.W.mroIn K (T.cK K i) (.type "object")) true && (T.fl.all fun f => (He.Fa.noat (T.cn i) (nmOf T.names f)).ok K)
def getB (K : PySem.W.Frag) : Bool := decide (PySem.W.specialIn K (.builtin "object.__class__") "__get__" = some (some (.builtin "getset_descriptor.__get__"))) && oneB (PySem.W.takesIn K (.builtin "object.__class__")) true
def methB (K : PySem.W.Frag) (p : (Nat × Nat) × Nat) : Bool := (He.Fa.meth (T.cn p.1.1) (nmOf T.names p.1.2)).ok K && T.at_ p.2 (T.cn p.1.1, some (nmOf T.names p.1.2))
def initB (K : PySem.W.Frag) (p : Nat × Nat) : Bool := T.cs.contains p.1 && (He.Fa.mkr (T.cn p.1)).ok K && T.at_ p.2 (T.cn p.1, some "__init__")
def excB (K : PySem.W.Frag) (p : Nat × Nat) : Bool := oexcB K (T.cK K p.1) && decide (PySem.W.findIn K (.ref (T.cK K p.1)) "__init__" = some (some (.ref (T.fa K p.2)))) && decide (PySem.W.typeIn K (.ref (T.fa K p.2)) = some (.type "function"))
def fldB (K : PySem.W.Frag) (p : Nat × List (Nat × Src)) : Bool := p.2.all fun q => decide (PySem.W.findIn K (.ref (T.cK K p.1)) (nmOf T.names q.1) = some none)
def subB (K : PySem.W.Frag) (p : Nat × List Nat) : Bool := (T.xs.all fun j => oneB (PySem.W.exmOne K (.ref (T.cK K p.1)) (.ref (T.cK K j))) (p.2.any fun e => Nat.beq j e)) && xfB K (T.cK K p.1) && T.xf.all fun f => decide (PySem.W.findIn K (.ref (T.cK K p.1)) (nmOf T.names f) = some none)
/-- all of it -/
def headB (K : PySem.W.Frag) : Bool := (T.gls.all fun p => T.glB K p.1 p.2) && T.cs.all (T.clsB K) && getB K && T.prog.meths.all (T.methB K) && T.prog.inits.all (T.initB K) && T.xis.all (T.excB K) && T.prog.flds.all (T.fldB K) && T.prog.subs.all (T.subB K)
abbrev Al : Type := Bool × He.AlD
def obs (K : PySem.W.Frag) : Al := (T.headB K, He.obsD [] T.fns K)
def val : Al := (true, He.valD T.fns)
def Says (K : PySem.W.Frag) : Prop := T.headB K = true ∧ He.SaysD [] T.fns K
def obsG (n : Nat) (g : Addr → Option Obj) : Al := T.obs (He.frG g (He.asD g n))
def hook (n : Nat) : PySem.W.Hook where
  α := Al
  obs := fun s => T.obsG n s.heap.get?
  val := fun _ => T.val
  says := fun _ h => ∃ K : PySem.W.Frag, K.In h ∧ T.Says K
  of := fun _ _ e => ⟨_, He.frG_in, congrArg (fun z : Al => z.1) e, congrArg (fun z : Al => z.2) e⟩
  keeps := fun _ _ _ ⟨K, hK, c⟩ k => ⟨K, PySem.W.Frag.In.keeps hK k, c⟩
theorem obsG_eq {n : Nat} {g : Addr → Option Obj} {s : Shared} (h : ∀ a, g a = s.heap.get? a) : T.obsG n g = (T.hook n).obs s := by
  have e : g = s.heap.get? := funext h
  rw [e] <;> rfl
end Tx
end TL
end

section
set_option maxRecDepth 100000
set_option maxHeartbeats 2000000
set_option autoImplicit false
/-! TL: every def of a checked text keeps its promise. -/
namespace TL
open PySem PySem.Spec PyProof.Rows L2
/-! ### how calls bind -/
theorem zip_look {α : Type} : ∀ {ns : List Str} {us : List α}, us.length = ns.length → ns.Nodup → (ns.filterMap fun n => ((ns.zip us).lookup n).map fun v => (n, v)) = ns.zip us := by
  have go : ∀ (ns : List Str) (us : List α) (l : List (Str × α)), us.length = ns.length → ns.Nodup → (∀ n ∈ ns, ∀ v, (n, v) ∈ ns.zip us → l.lookup n = some v) → (ns.filterMap fun n => (l.lookup n).map fun v => (n, v)) = ns.zip us := by
    intro ns
    induction ns with
    | nil => intro us l _ _ _; cases us <;> rfl
    | cons n ns ih =>
      intro us l hl hn h
      cases us with
      | nil => cases hl
      | cons u us =>
        rw [List.filterMap_cons, h n (List.mem_cons_self ..) u (List.mem_cons_self ..)]
        show (n, u) :: _ = (n, u) :: ns.zip us
        rw [ih us l (Nat.succ.inj hl) (List.nodup_cons.mp hn).2 fun m hm v hv => h m (List.mem_cons_of_mem _ hm) v (List.mem_cons_of_mem _ hv)]
  intro ns us hl hn
  refine go ns us _ hl hn fun n _ v hv => ?_
  have look : ∀ {ns : List Str} {us : List α}, ns.Nodup → (n, v) ∈ ns.zip us → (ns.zip us).lookup n = some v := by
    intro ns
    induction ns with
    | nil => intro us _ z; cases z
    | cons m ns ih =>
      intro us hn z
      cases us with
      | nil => cases z
      | cons u us =>
        rw [List.zip_cons_cons] at z ⊢
        rcases List.mem_cons.mp z with z | z
        · cases z; simp [List.lookup]
        · have hne : (n == m) = false := beq_eq_false_iff_ne.mpr fun q => (List.nodup_cons.mp hn).1 (by rw [← q]; exact (List.of_mem_zip z).1)
          simp only [List.lookup, hne]
          exact ih (List.nodup_cons.mp hn).2 z
  exact look hn hv
theorem zip_some {α : Type} : ∀ {ns : List Str} {us : List α} {n : Str}, us.length = ns.length → n ∈ ns → ((ns.zip us).lookup n).isSome = true
  | [], _, _, _, h => by cases h
  | m :: ns, [], _, h, _ => by cases h
  | m :: ns, u :: us, n, hl, h => by
    rw [List.zip_cons_cons]
    cases e : (n == m) with
    | true => simp [List.lookup, e]
    | false =>
      simp only [List.lookup, e]
      rcases List.mem_cons.mp h with h | h
      · rw [h, beq_self_eq_true] at e; cases e
      · exact zip_some (Nat.succ.inj hl) h
theorem bindArgs_plain {x qual : Str} {body : List Stmt} {scope : Scope} {kV doc pm cdv ct : Value} {an : Option Addr} {args : List Arg} {us : List Value} (nd : (args.map (·.arg)).Nodup) (hl : us.length = args.length) :
    bindArgs (PySem.W.fnOf x qual ⟨[], args, none, [], [], none, []⟩ body scope .none kV doc pm an cdv ct) ⟨us, []⟩ = pure ((args.map (·.arg)).zip us) := by
  have hl' : us.length = (args.map (·.arg)).length := by rw [hl, List.length_map]
  have e2 : ((args.map (·.arg)).filter fun n => (((args.map (·.arg)).zip us).lookup n).isNone) = [] := by
    rw [List.filter_eq_nil_iff]
    intro n hn
    have := zip_some hl' hn
    cases h : ((args.map (·.arg)).zip us).lookup n with
    | none => rw [h] at this; cases this
    | some v => simp
  have e3 := zip_look hl' nd
  have q : seqItems? Value.none = pure none := rfl
  unfold bindArgs
  simp [PySem.W.fnOf, q, hl]
  rw [if_neg ?h]
  · refine congrArg pure ?_
    rw [← List.filterMap_map]
    exact e3
  case h =>
    simp only [List.map_nil, List.nil_append, List.drop_nil, List.length_nil, Nat.sub_zero, List.take_length, e2]
    decide

theorem plainP_binds {K : PySem.W.Frag} {x qual : Str} {params : Arguments} {body : List Stmt} {scope : Scope} {f : Addr} {fd : FuncData} {ps : List Str} (F : FunD K x qual params body scope [] [] f fd) (h : plainP params ps = true) : Binds K fd ps [] := by
  unfold plainP at h
  split at h
  · rename_i as
    rw [Bool.and_eq_true, decide_eq_true_eq, decide_eq_true_eq] at h
    obtain ⟨rfl, nd⟩ := h
    exact F.bindsN fun _ _ _ _ _ _ us hl => bindArgs_plain nd (by rw [hl, List.length_map])
  · cases h
theorem bindS_args {xs ys : List PV} {n : Nat} (hn : xs.length = n) (h : bindS xs (argsTo n) = some ys) : ys = xs := by
  subst hn
  unfold argsTo at h
  have go : ∀ (l : List Nat) (ys : List PV), bindS xs (l.map Src.arg) = some ys → ys.length = l.length ∧ ∀ (i j : Nat), l[i]? = some j → ys[i]? = xs[j]? := by
    intro l
    induction l with
    | nil => intro ys h; simp only [List.map_nil, bindS] at h; cases h; exact ⟨rfl, fun i j e => by simp at e⟩
    | cons a l ih =>
      intro ys h
      simp only [List.map_cons, bindS] at h
      cases e1 : xs[a]? with
      | none => rw [e1] at h; cases h
      | some v =>
        cases e2 : bindS xs (l.map Src.arg) with
        | none => rw [e1, e2] at h; cases h
        | some r =>
          rw [e1, e2] at h
          cases h
          obtain ⟨g1, g2⟩ := ih r e2
          refine ⟨by rw [List.length_cons, List.length_cons, g1], fun i j e => ?_⟩
          cases i with
          | zero => simp at e; subst e; simp [e1]
          | succ i => simpa using g2 i j (by simpa using e)
  obtain ⟨g1, g2⟩ := go _ _ h
  apply List.ext_getElem?
  intro i
  by_cases hi : i < xs.length
  · exact g2 i i (by rw [List.getElem?_range hi])
  · rw [List.getElem?_eq_none (by rw [g1, List.length_range]; omega), List.getElem?_eq_none (by omega)]
/-! ### a text's facts -/
structure Bds (T : Tx) (h : nmsB T.names = true) (K : PySem.W.Frag) (P : Program) (w : World) : Prop where
  f : ∀ p ∈ T.bfs, BindOk (T.lk h K P w) p.1 p.2.1 [] p.2.2
  m : ∀ p ∈ T.bms, BindOkM (T.lk h K P w) p.1 p.2.1 [] p.2.2
section
variable {T : Tx} {h : nmsB T.names = true} {K : PySem.W.Frag} {P : Program} {w : World} {mg : Str → Option Value} {base : Heap}
theorem says_fun (c : T.Says K) {f : Nat} {d : He.DefD} (e : T.fns[f]? = some d) : FunD K d.name d.qual d.params d.body d.scope (d.dvs K) (d.kws K) (T.fa K f) (T.fd K f) := by
  obtain ⟨fd, F⟩ := c.2.def_ f e
  have ea : T.fa K f = He.fAd K d.at_ := by unfold Tx.fa; rw [e]
  obtain ⟨oc, od, dV, kV, doc, pm, an, cdv, ct, osl, e1, lk, q⟩ := F.ex
  have ed : T.fd K f = fd := by
    unfold Tx.fd
    rw [ea, lk]
  rw [ea, ed]
  exact F
theorem plain_binds (c : T.Says K) {f n : Nat} (hp : T.plainAt f n = true) : Binds K (T.fd K f) (T.pss.getD f []) [] ∧ (T.pss.getD f []).length = n := by
  unfold Tx.plainAt at hp
  split at hp
  · rename_i d e
    simp only [Bool.and_eq_true] at hp
    obtain ⟨⟨⟨h1, h2⟩, h3⟩, h4⟩ := hp
    have F := says_fun c e
    have e1 : d.dvs K = [] := by unfold He.DefD.dvs; rw [List.isEmpty_iff.mp h1]; rfl
    have e2 : d.kws K = [] := by unfold He.DefD.kws; rw [List.isEmpty_iff.mp h2]; rfl
    rw [e1, e2] at F
    exact ⟨plainP_binds F h3, Nat.eq_of_beq_eq_true h4⟩
  · cases hp
theorem plain_kbn {fd : FuncData} {ps : List Str} {n : Nat} (b : Binds K fd ps []) (hl : ps.length = n) : KBn K fd ps n [] (fun us _ => us) (fun vs _ => vs) :=
  ⟨fun s us ws X h1 h2 => by
    have := b s us X (by rw [List.append_nil, h1, hl])
    rw [List.append_nil] at this
    exact this, fun r1 _ => r1⟩
theorem tbOk (c : T.Says K) (bd : Bds T h K P w) {fn : Nat → List PV → M PV} (hp : ∀ f vs, Pres (fn f vs)) : TbOk T.tb (T.prog.ctx fn) (T.lk h K P w) where
  nm := fun _ => rfl
  meths := rfl
  inits := rfl
  flds := rfl
  en := fun _ => rfl
  cs := rfl
  bF := fun f n b hb => by
    have hb' : ((T.plainAt f n && srcsB b (argsTo n)) || hasB T.bfs f n b) = true := hb
    rw [Bool.or_eq_true, Bool.and_eq_true] at hb'
    rcases hb' with ⟨h1, h2⟩ | h1
    · obtain ⟨g1, g2⟩ := plain_binds c h1
      rw [srcsB_eq h2]
      refine ⟨_, _, plain_kbn g1 g2, fun φ H xs zs vs ws ys h1 h2 h3 h4 h5 => ?_⟩
      obtain rfl : zs = [] := List.eq_nil_of_length_eq_zero h4
      rw [List.append_nil] at h5
      rw [bindS_args h3 h5]
      exact h1
    · exact bd.f _ (hasB_mem h1)
  bM := fun f n b hb => by
    have hb' : ((T.plainAt f (n + 1) && srcsB b (argsTo n)) || hasB T.bms f n b) = true := hb
    rw [Bool.or_eq_true, Bool.and_eq_true] at hb'
    rcases hb' with ⟨h1, h2⟩ | h1
    · obtain ⟨g1, g2⟩ := plain_binds c h1
      rw [srcsB_eq h2]
      refine ⟨_, _, plain_kbn g1 g2, fun φ H x v xs zs vs ws ys h0 h1 h2 h3 h4 h5 => ?_⟩
      obtain rfl : zs = [] := List.eq_nil_of_length_eq_zero h4
      rw [List.append_nil] at h5
      rw [bindS_args h3 h5]
      exact ⟨v, vs, rfl, h0, h1⟩
    · exact bd.m _ (hasB_mem h1)
  pres := hp
end
/-! ### an exception's own __init__ -/
def ckX1 (nm : Nat → Str) (N : List Str) (sc : Scope) (p : Nat × Src) (s : Stmt) : Bool := match s with
  | .Assign [.Attribute (.Name x _) f _] e _ => decide (N[0]? = some x) && visB sc x && plainNm x && decide (f = nm p.1) && (match p.2 with
    | .arg i => (match e with
      | .Name y _ => decide (N[i + 1]? = some y) && visB sc y && plainNm y
      | _ => false)
    | .dfl (.str z) => (match e with
      | .Constant (.str w) _ _ => decide (w = ⟨z.toArray⟩)
      | _ => false)
    | _ => false)
  | _ => false
def ckXs (nm : Nat → Str) (N : List Str) (sc : Scope) : List (Nat × Src) → List Stmt → Bool
  | [], ss => ss.isEmpty
  | p :: r, ss => match ss with
    | s :: q => ckX1 nm N sc p s && ckXs nm N sc r q
    | [] => false
def tXe : Src → TE
  | .arg i => tVar (i + 1)
  | .dfl (.str z) => tC (.str ⟨z.toArray⟩)
  | .dfl _ => tC .non
def tXs (K : PySem.W.Frag) (nm : Nat → Str) : List (Nat × Src) → TS
  | [] => tNext
  | p :: r => tSeq (tOst K (nm p.1) (tVar 0) (tXe p.2)) (tXs K nm r)
section
variable {X : Cx} {L : Lk} {nm : Nat → Str} {N : List Str} {sc : Scope}
theorem ckX1_ok {p : Nat × Src} {s : Stmt} (hN : X.N = N) (hs : X.env.scope = sc) (hc : ckX1 nm N sc p s = true) : PS X s (tOst X.K (nm p.1) (tVar 0) (tXe p.2)) := by
  unfold ckX1 at hc
  split at hc
  · simp only [Bool.and_eq_true, decide_eq_true_eq] at hc
    obtain ⟨⟨⟨⟨h1, h2⟩, h3⟩, rfl⟩, h5⟩ := hc
    have v0 := fun pos => pe_var (X := X) (pos := pos) (i := 0) (by rw [hN]; exact h1) (by rw [hs]; exact vis_of h2) (plainNm_1 h3) (plainNm_2 h3)
    obtain ⟨f, b⟩ := p
    cases b with
    | arg i =>
      dsimp only at h5
      split at h5
      · simp only [Bool.and_eq_true, decide_eq_true_eq] at h5
        exact ps_ost (v0 _) (pe_var (i := i + 1) (by rw [hN]; exact h5.1.1) (by rw [hs]; exact vis_of h5.1.2) (plainNm_1 h5.2) (plainNm_2 h5.2))
      · cases h5
    | dfl x =>
      cases x with
      | str z =>
        dsimp only at h5
        split at h5
        · rw [decide_eq_true_eq] at h5
          subst h5
          exact ps_ost (v0 _) pe_str
        · cases h5
      | _ => cases h5
  · cases hc
theorem ckXs_ok (hN : X.N = N) (hs : X.env.scope = sc) : ∀ {fs : List (Nat × Src)} {ss : List Stmt}, ckXs nm N sc fs ss = true → PSs X ss (tXs X.K nm fs)
  | [], ss, hc => by
    obtain rfl : ss = [] := by simpa [ckXs] using hc
    exact pss_nil
  | p :: r, ss, hc => by
    simp only [ckXs] at hc
    split at hc
    · rw [Bool.and_eq_true] at hc
      exact pss_cons (ckX1_ok hN hs hc.1) (ckXs_ok hN hs hc.2)
    · cases hc
variable {D : Ends} {σ : L2.St} {a C d : Addr} {ws : List L2.V}
theorem tXe_run {b : Src} {v : L2.V} {H : Hp} {Q : VK} (hσ : ∀ i v, ws[i]? = some v → σ[i + 1]? = some (some v)) (e : srcV ws b = some v) (q : Q v H) : tXe b σ H Q := by
  cases b with
  | arg i => exact ⟨v, hσ i v e, q⟩
  | dfl x =>
    cases x with
    | str z => simp only [srcV] at e; cases e; exact q
    | _ => simp only [srcV] at e; cases e
theorem srcVs_cons {p : Nat × Src} {r : List (Nat × Src)} {gs : List (Str × L2.V)} (e : srcVs L ws (p :: r) = some gs) : ∃ v l, srcV ws p.2 = some v ∧ srcVs L ws r = some l ∧ gs = (L.nm p.1, v) :: l := by
  obtain ⟨f, b⟩ := p
  simp only [srcVs] at e
  cases e1 : srcV ws b with
  | none => rw [e1] at e; cases e
  | some v =>
    cases e2 : srcVs L ws r with
    | none => rw [e1, e2] at e; cases e
    | some l => rw [e1, e2] at e; cases e; exact ⟨v, l, rfl, rfl, rfl⟩
theorem tXs_old {K : PySem.W.Frag} (T : OexC K C) (hσ0 : σ[0]? = some (some (.ref a))) (hσ : ∀ i v, ws[i]? = some v → σ[i + 1]? = some (some v)) (hne : d ≠ a) : ∀ {fs : List (Nat × Src)} {gs done : List (Str × L2.V)} {H : Hp},
    (∀ p ∈ fs, PySem.W.findIn K (.ref C) (L.nm p.1) = some none) → srcVs L ws fs = some gs → H a = some (exo a C (some d)) → H d = some (exd d done) → done.length + fs.length ≤ 900 → D.nx σ (upd H d (exd d (gs.reverse ++ done))) → tXs K L.nm fs D σ H
  | [], gs, done, H, _, e, h1, h2, _, q => by
    simp only [srcVs] at e
    cases e
    have : upd H d (exd d ([].reverse ++ done)) = H := by
      funext b
      by_cases hb : b = d
      · rw [hb, upd_same]; exact h2.symm
      · rw [upd_ne hb]
    rw [this] at q
    exact q
  | p :: r, gs, done, H, hf, e, h1, h2, hl, q => by
    obtain ⟨v, l, e1, e2, rfl⟩ := srcVs_cons e
    rw [List.length_cons] at hl
    refine tXe_run hσ e1 ⟨_, hσ0, a, C, rfl, T, hf p (List.mem_cons_self ..), .inr ⟨d, done, h1, h2, by omega, ?_⟩⟩
    refine tXs_old T hσ0 hσ hne (gs := l) (done := (L.nm p.1, v) :: done) (fun p hp => hf p (List.mem_cons_of_mem _ hp)) e2 (by rw [upd_ne hne.symm]; exact h1) upd_same (by rw [List.length_cons]; omega) ?_
    have : upd (upd H d (exd d ((L.nm p.1, v) :: done))) d (exd d (l.reverse ++ (L.nm p.1, v) :: done)) = upd H d (exd d (((L.nm p.1, v) :: l).reverse ++ done)) := by
      funext b
      by_cases hb : b = d
      · rw [hb, upd_same, upd_same, List.reverse_cons, List.append_assoc]; rfl
      · rw [upd_ne hb, upd_ne hb, upd_ne hb]
    rw [this]
    exact q
theorem tXs_new {K : PySem.W.Frag} (T : OexC K C) (hσ0 : σ[0]? = some (some (.ref a))) (hσ : ∀ i v, ws[i]? = some v → σ[i + 1]? = some (some v)) {p : Nat × Src} {fs : List (Nat × Src)} {gs : List (Str × L2.V)} {H : Hp}
    (hf : ∀ q ∈ p :: fs, PySem.W.findIn K (.ref C) (L.nm q.1) = some none) (e : srcVs L ws (p :: fs) = some gs) (h1 : H a = some (exo a C none)) (hl : fs.length ≤ 800)
    (q : ∀ d, H d = none → d ≠ a → D.nx σ (upd (upd H d (exd d gs.reverse)) a (exo a C (some d)))) : tXs K L.nm (p :: fs) D σ H := by
  obtain ⟨v, l, e1, e2, rfl⟩ := srcVs_cons e
  refine tXe_run hσ e1 ⟨_, hσ0, a, C, rfl, T, hf p (List.mem_cons_self ..), .inl ⟨h1, fun d hd hne => ?_⟩⟩
  refine tXs_old T hσ0 hσ hne (gs := l) (done := [(L.nm p.1, v)]) (fun p hp => hf p (List.mem_cons_of_mem _ hp)) e2 upd_same (by rw [upd_ne hne, upd_same]) (by rw [List.length_singleton]; omega) ?_
  have : upd (upd (upd H d (exd d [(L.nm p.1, v)])) a (exo a C (some d))) d (exd d (l.reverse ++ [(L.nm p.1, v)])) = upd (upd H d (exd d (((L.nm p.1, v) :: l).reverse))) a (exo a C (some d)) := by
    funext b
    by_cases hb : b = d
    · rw [hb, upd_same, upd_ne hne, upd_same, List.reverse_cons]
    · rw [upd_ne hb]
      by_cases ha : b = a
      · rw [ha, upd_same, upd_same]
      · rw [upd_ne ha, upd_ne ha, upd_ne hb, upd_ne hb]
  rw [this]
  exact q d hd hne
end
end TL
end

section
set_option maxRecDepth 100000
set_option maxHeartbeats 2000000
set_option autoImplicit false
/-! TL: every def of a checked text keeps its promise. -/
namespace TL
open PySem PySem.Spec PyProof.Rows L2
def scopeB (N ps : List Str) (sc : Scope) : Bool := decide (sc.kind = .function) && !sc.isCoroutine && !sc.isGenerator && decide N.Nodup && decide (N.take ps.length = ps) &&
  (ps.all fun x => decide (sc.names.lookup x = some .local) || decide (sc.names.lookup x = some .cell)) && sc.names.all fun y => !(decide (y.2 = .free))
theorem scopeB_ok {N ps : List Str} {sc : Scope} (h : scopeB N ps sc = true) : FnScope N ps sc := by
  unfold scopeB at h
  simp only [Bool.and_eq_true, decide_eq_true_eq, Bool.not_eq_true'] at h
  obtain ⟨⟨⟨⟨⟨⟨h1, h2⟩, h3⟩, h4⟩, h5⟩, h6⟩, h7⟩ := h
  refine ⟨h1, h2, h3, h4, h5, fun x hx => ?_, fun y hy => ?_⟩
  · have := List.all_eq_true.mp h6 x hx
    simpa using this
  · have := List.all_eq_true.mp h7 y hy
    simpa using this
def stuckB (b : List TL.St) : Bool := match b with
  | [.exp (.neg (.cst .non))] => true
  | _ => false
def strB (fs : List (Nat × Src)) : Bool := fs.all fun p => match p.2 with | .arg _ => true | .dfl (.str _) => true | .dfl _ => false
namespace Tx
variable (T : Tx)
def defB (f : Nat) : Bool := match T.prog.defs[f]? with
  | some df => stuckB df.body || (match T.fns[f]? with
    | some d => scopeB (T.Ns.getD f []) (T.pss.getD f []) d.scope && Nat.beq df.nps (T.pss.getD f []).length && Nat.beq df.nN (T.Ns.getD f []).length && ckSs df.body (T.sk (T.Ns.getD f []) d.scope) d.body
    | none => false)
  | none => true
def xB (p : Nat × List (Nat × Src)) : Bool := match T.xis.lookup p.1 with
  | some f => (match T.fns[f]? with
    | some d => (match p.2 with
      | [] => false
      | _ :: r => Nat.ble r.length 800) && scopeB (T.Ns.getD f []) (T.pss.getD f []) d.scope && ckXs (nmOf T.names) (T.Ns.getD f []) d.scope p.2 d.body && T.plainAt f (T.en p.1 + 1) && strB p.2 && decide (p.2.map (·.1)).Nodup
    | none => false)
  | none => false
def textB : Bool := ((List.range T.prog.defs.length).all T.defB) && T.prog.flds.all T.xB && (T.prog.meths.all fun p => Nat.blt 3 p.1.2 || T.plainAt p.2 (T.pss.getD p.2 []).length) &&
  decide (T.names[0]? = some ("__len__" : Str)) && decide (T.names[1]? = some ("__eq__" : Str)) && decide (T.names[2]? = some ("__str__" : Str)) && decide (T.names[3]? = some ("__repr__" : Str))
end Tx
theorem memLk {α β : Type} [BEq α] [LawfulBEq α] {x : α} {y : β} : ∀ {l : List (α × β)}, l.lookup x = some y → (x, y) ∈ l
  | [], e => by cases e
  | (a, b) :: l, e => by
    cases q : (x == a) with
    | true =>
      simp only [List.lookup, q] at e
      cases e
      rw [eq_of_beq q]
      exact List.mem_cons_self ..
    | false =>
      simp only [List.lookup, q] at e
      exact List.mem_cons_of_mem _ (memLk e)
theorem lookM_mem {i m f : Nat} : ∀ {l : List ((Nat × Nat) × Nat)}, lookM l i m = some f → ((i, m), f) ∈ l
  | [], z => by cases z
  | ((d, n), g) :: r, z => by
    have z' : (match Nat.beq d i && Nat.beq n m with | true => some g | false => lookM r i m) = some f := z
    cases q : (Nat.beq d i && Nat.beq n m) with
    | true =>
      rw [q] at z'
      rw [Bool.and_eq_true] at q
      cases z'
      rw [Nat.eq_of_beq_eq_true q.1, Nat.eq_of_beq_eq_true q.2]
      exact List.mem_cons_self ..
    | false => rw [q] at z'; exact List.mem_cons_of_mem _ (lookM_mem z')
section
variable {T : Tx} {h : nmsB T.names = true} {K : PySem.W.Frag} {P : Program} {w : World} {mg : Str → Option Value} {base : Heap}
structure HB (T : Tx) (K : PySem.W.Frag) : Prop where
  gls : ∀ p ∈ T.gls, T.glB K p.1 p.2 = true
  cls : ∀ i ∈ T.cs, T.clsB K i = true
  get : Tx.getB K = true
  meths : ∀ p ∈ T.prog.meths, T.methB K p = true
  inits : ∀ p ∈ T.prog.inits, T.initB K p = true
  xis : ∀ p ∈ T.xis, T.excB K p = true
  flds : ∀ p ∈ T.prog.flds, T.fldB K p = true
  subs : ∀ p ∈ T.prog.subs, T.subB K p = true
theorem hb_of (c : T.Says K) : HB T K := by
  have q := c.1
  unfold Tx.headB at q
  simp only [Bool.and_eq_true] at q
  obtain ⟨⟨⟨⟨⟨⟨⟨q1, q2⟩, q3⟩, q4⟩, q5⟩, q6⟩, q7⟩, q8⟩ := q
  exact ⟨fun p hp => List.all_eq_true.mp q1 p hp, fun p hp => List.all_eq_true.mp q2 p hp, q3, fun p hp => List.all_eq_true.mp q4 p hp, fun p hp => List.all_eq_true.mp q5 p hp, fun p hp => List.all_eq_true.mp q6 p hp, fun p hp => List.all_eq_true.mp q7 p hp, fun p hp => List.all_eq_true.mp q8 p hp⟩
theorem at_of {f : Nat} {p : Str × Option Str} (e : T.at_ f p = true) : ∃ d, T.fns[f]? = some d ∧ T.fa K f = He.fAd K p := by
  unfold Tx.at_ at e
  unfold Tx.fa
  cases q : T.fns[f]? with
  | none => rw [q] at e; cases e
  | some d =>
    rw [q] at e
    rw [decide_eq_true_eq] at e
    exact ⟨d, rfl, by dsimp only; rw [e]⟩
structure ClF (T : Tx) (K : PySem.W.Frag) (i : Nat) : Prop where
  c : Cls K (T.cK K i)
  b : ∀ t ∈ (["int", "bool", "str", "list", "tuple"] : List String), PySem.W.kitOne K (.ref (T.cK K i)) (.type t) = some false
  o : ∀ j ∈ T.cs, PySem.W.kitOne K (.ref (T.cK K i)) (.ref (T.cK K j)) = some (Nat.beq j i)
  t : ∀ t ∈ (["NoneType", "int", "bool", "str", "list", "tuple", "dict", "set"] : List String), PySem.W.kitOne K (.type t) (.ref (T.cK K i)) = some false
  k : PySem.W.findIn K (.ref (T.cK K i)) "__class__" = some (some (.builtin "object.__class__")) ∧ PySem.W.mroIn K (T.cK K i) (.type "object") = some true
  n : ∀ f ∈ T.fl, NoAttr K (T.cK K i) (nmOf T.names f)
theorem clF (c : HB T K) {i : Nat} (hi : i ∈ T.cs) : ClF T K i := by
  have q := c.cls i hi
  unfold Tx.clsB at q
  simp only [Bool.and_eq_true, decide_eq_true_eq] at q
  obtain ⟨⟨⟨⟨⟨⟨q1, q2⟩, q3⟩, q4⟩, q5⟩, q6⟩, q7⟩ := q
  exact ⟨He.cls_ok q1, fun t ht => oneB_eq (List.all_eq_true.mp q2 t ht), fun t ht => oneB_eq (List.all_eq_true.mp q3 t ht), fun t ht => oneB_eq (List.all_eq_true.mp q4 t ht), ⟨q5, oneB_eq q6⟩, fun f hf => He.noat_ok (List.all_eq_true.mp q7 f hf)⟩
theorem gl_mem {x : Str} {g : GK} (e : T.gls.lookup x = some g) : (x, g) ∈ T.gls := memLk e
variable (c : T.Says K) (bd : Bds T h K P w) (KX : K.In base) (GX : base.Ns mainGlobals mg) (tx : T.textB = true)
include c KX GX tx
/-- an exception's own __init__ keeps its promise -/
theorem exF (k : Nat) {kk : Nat} {fs : List (Nat × Src)} (e : T.prog.flds.lookup kk = some fs) : ∃ fI fd ps, ExF (T.lk h K P w) (k + 1) P w K mg base kk (T.en kk) fs fI fd ps := by
  have hb := hb_of c
  have hm := memLk e
  have q := tx
  unfold Tx.textB at q
  simp only [Bool.and_eq_true, decide_eq_true_eq] at q
  have q2 := List.all_eq_true.mp q.1.1.1.1.1.2 _ hm
  unfold Tx.xB at q2
  dsimp only at q2
  cases ex : T.xis.lookup kk with
  | none => rw [ex] at q2; cases q2
  | some f =>
    rw [ex] at q2
    dsimp only at q2
    cases ed : T.fns[f]? with
    | none => rw [ed] at q2; cases q2
    | some d =>
      rw [ed] at q2
      simp only [Bool.and_eq_true, decide_eq_true_eq] at q2
      obtain ⟨⟨⟨⟨⟨r1, r2⟩, r3⟩, r4⟩, r5⟩, r6⟩ := q2
      have xe := hb.xis _ (memLk ex)
      unfold Tx.excB at xe
      simp only [Bool.and_eq_true, decide_eq_true_eq] at xe
      obtain ⟨⟨x1, x2⟩, x3⟩ := xe
      have oc := oexcB_ok x1
      obtain ⟨b1, b2⟩ := plain_binds c r4
      have fl : ∀ q ∈ fs, PySem.W.findIn K (.ref (T.cK K kk)) (nmOf T.names q.1) = some none := fun q hq => by
        have := hb.flds _ hm
        unfold Tx.fldB at this
        have := List.all_eq_true.mp this q hq
        rw [decide_eq_true_eq] at this
        exact this
      have S := scopeB_ok r2
      refine ⟨T.fa K f, T.fd K f, T.pss.getD f [], oc, x2, x3, ?_, b1, r5, r6⟩
      have F := says_fun c ed
      have := F.ok (P := P) (w := w) (mg := mg) (base := base) (CX := L2.CX P w) (k := 2 * k + 1) (sp := spX (T.lk h K P w) (T.en kk) ((T.lk h K P w).cl kk) fs) S (fun vs H Q E hs => ?_) (fun cdv A outer s H vs Q E hr hs => ?_)
      · exact this
      · obtain ⟨a, ws, gs, rfl, hl, _⟩ := hs
        rw [List.length_cons, hl, b2]
      · obtain ⟨a, ws, gs, rfl, hl, h1, h2, hq⟩ := hs
        refine ⟨_, ckXs_ok (X := cxOf (L2.CX P w) P w K mg base (T.Ns.getD f []) d.qual d.scope (T.fa K f) cdv A outer s H E) rfl rfl r3, ?_⟩
        cases fs with
        | nil => cases r1
        | cons p r =>
          have hpl : (T.pss.getD f []).length ≤ (T.Ns.getD f []).length := by have := congrArg List.length S.pre; rw [List.length_take] at this; omega
          have st0 : ∀ i v, (L2.V.ref a :: ws)[i]? = some v → (L2.start (T.Ns.getD f []) (L2.V.ref a :: ws))[i]? = some (some v) := fun i v hi => by
            unfold L2.start
            obtain ⟨hlt, _⟩ := List.getElem?_eq_some_iff.mp hi
            rw [List.getElem?_append_left (by rw [List.length_map]; exact hlt), List.getElem?_map, hi]
            rfl
          exact tXs_new (L := T.lk h K P w) (a := a) (ws := ws) oc (st0 0 _ rfl) (fun i v hv => st0 (i + 1) v hv) fl h2 h1 (Nat.le_of_ble_eq_true r1) fun d hd hne => hq d hd hne
include bd
theorem good_of {k : Nat} {fn : Nat → List PV → M PV} (hp : ∀ f vs, Pres (fn f vs)) (hfn : ∀ f, FnOk P w K mg base (L2.CX P w) (2 * (k + 1)) (T.fa K f) (T.fd K f) (T.pss.getD f []) (spM (T.lk h K P w) (fn f)))
    {N ps : List Str} {qual : Str} {sc : Scope} (S : FnScope N ps sc) {f : Addr} {cdv : Value} {A : Around} {outer : List PySem.Env} {s : Shared} {H : Hp} {E : XK} (hr : Room (2 * (k + 1) + 1) (A.deeper (envOfC qual sc s.heap.objs.size f cdv))) :
    Good (T.prog.ctx fn) (k + 1) (T.lk h K P w) (T.sk N sc) (cxOf (L2.CX P w) P w K mg base N qual sc f cdv A outer s H E) := by
  have hb := hb_of c
  have q := tx
  unfold Tx.textB at q
  simp only [Bool.and_eq_true, decide_eq_true_eq] at q
  obtain ⟨⟨⟨⟨⟨⟨q1, q2⟩, q3⟩, q4⟩, q5⟩, q6⟩, q7⟩ := q
  exact {
    hN := rfl
    nd := S.nd
    sc := rfl
    st := rfl
    hK := rfl
    tb := tbOk c bd hp
    hP := rfl
    hW := rfl
    calm := fun _ => ⟨rfl, hr⟩
    units := by have := hr.un; show (A.deeper _).units + 65 < _; omega
    gfn := fun x f e => by
      have g := hb.gls _ (gl_mem e)
      simp only [Tx.glB, Bool.and_eq_true] at g
      obtain ⟨d, e1, e2⟩ := at_of (K := K) g.1.1
      show mg x = some (.ref (T.fa K f))
      rw [e2]
      exact He.glo_ok KX GX g.1.2
    gcl := fun x f e => by
      have g := hb.gls _ (gl_mem e)
      simp only [Tx.glB, Bool.and_eq_true, decide_eq_true_eq] at g
      show mg x = some (.ref (He.ga K (T.cn f)))
      have : T.cn f = x := by unfold Tx.cn; rw [List.getD_eq_getElem?_getD, g.1]; rfl
      rw [this]
      exact He.glo_ok KX GX g.2
    gcon := fun x g e => by
      have q := hb.gls _ (gl_mem e)
      simp only [Tx.glB] at q
      show ∃ u v p, mg x = some u ∧ RelV v u ∧ T.prog.globs[g]? = some p ∧ ∀ φ H, VR (T.lk h K P w) φ H p v
      split at q
      · rename_i i eg
        obtain ⟨t, et⟩ := He.int_ok KX GX q
        exact ⟨_, .int i, _, et, ⟨t, rfl⟩, eg, fun _ _ => rfl⟩
      · rename_i z eg
        obtain ⟨t, et⟩ := He.str_ok KX GX q
        exact ⟨_, .str ⟨z.toArray⟩, _, et, ⟨t, rfl⟩, eg, fun _ _ => rfl⟩
      · cases q
    gblt := fun x e => by
      have g := hb.gls _ (gl_mem e)
      simp only [Tx.glB] at g
      exact He.free_ok KX GX g
    keep := fun x f e => by
      have g := hb.gls _ (gl_mem e)
      simp only [Tx.glB, Bool.and_eq_true] at g
      obtain ⟨d, e1, _⟩ := at_of (K := K) g.1.1
      exact (says_fun c e1).kp
    fn := hfn
    cls := fun i hi => (clF hb hi).c
    noat := fun i hi f hf => (clF hb hi).n f hf
    meth := fun i m f e => by
      have g := hb.meths _ (lookM_mem e)
      unfold Tx.methB at g
      rw [Bool.and_eq_true] at g
      obtain ⟨d, _, e2⟩ := at_of (K := K) g.2
      have := He.meth_ok g.1
      show Meth K (He.ga K (T.cn i)) (nmOf T.names m) (T.fa K f)
      rw [e2]
      exact this
    nms := by
      show nmOf T.names nLen = _ ∧ nmOf T.names nEq = _ ∧ nmOf T.names nStr = _ ∧ nmOf T.names nRepr = _
      have e0 : nmOf T.names nLen = "__len__" := by unfold nmOf; rw [show T.names[nLen]? = some ("__len__" : Str) from q4]
      have e1 : nmOf T.names nEq = "__eq__" := by unfold nmOf; rw [show T.names[nEq]? = some ("__eq__" : Str) from q5]
      have e2 : nmOf T.names nStr = "__str__" := by unfold nmOf; rw [show T.names[nStr]? = some ("__str__" : Str) from q6]
      have e3 : nmOf T.names nRepr = "__repr__" := by unfold nmOf; rw [show T.names[nRepr]? = some ("__repr__" : Str) from q7]
      exact ⟨e0, e1, e2, e3⟩
    spc := fun i m f hm e => by
      have g := List.all_eq_true.mp q3 _ (lookM_mem e)
      rw [Bool.or_eq_true] at g
      rcases g with g | g
      · exact absurd (Nat.le_of_ble_eq_true g) (by show ¬ (4 ≤ m); have : m ≤ 3 := hm; omega)
      · exact (plain_binds c g).1
    mks := fun i f e => by
      have g := hb.inits _ (memLk e)
      unfold Tx.initB at g
      simp only [Bool.and_eq_true] at g
      obtain ⟨d, _, e2⟩ := at_of (K := K) g.2
      refine ⟨List.contains_iff_mem.mp g.1.1, ?_⟩
      have := He.mkr_ok g.1.2
      show Mk K (He.ga K (T.cn i)) (T.fa K f)
      rw [e2]
      exact this
    ban := fun p hp => by cases hp
    exc := fun kk fs e => exF c KX GX tx k e
    exU := fun kk l e j hj => by
      have g := hb.subs _ (memLk e)
      unfold Tx.subB at g
      simp only [Bool.and_eq_true] at g
      exact oneB_eq (List.all_eq_true.mp g.1.1 j hj)
    exA := fun kk l e => by
      have g := hb.subs _ (memLk e)
      unfold Tx.subB at g
      simp only [Bool.and_eq_true] at g
      exact ⟨xfB_ok g.1.2, fun f hf => by
        have := List.all_eq_true.mp g.2 f hf
        rw [decide_eq_true_eq] at this
        exact this⟩
    cau := fun i e => by cases e
    sta := fun _ => ⟨rfl, rfl⟩
    isB := fun i hi t ht => (clF hb hi).b t ht
    isO := fun i hi j hj => (clF hb hi).o j hj
    isC := fun i hi t ht => (clF hb hi).t t ht
    isK := fun i hi => (clF hb hi).k
    isG := by
      have g := hb.get
      unfold Tx.getB at g
      rw [Bool.and_eq_true, decide_eq_true_eq] at g
      exact ⟨g.1, oneB_eq g.2⟩ }
end
end TL
end

section
set_option maxRecDepth 100000
set_option maxHeartbeats 2000000
set_option autoImplicit false
/-! TL: the defs by induction; a law's end. -/
namespace TL
open PySem PySem.Spec PyProof.Rows L2
theorem fnOk_no {P : Program} {w : World} {K : PySem.W.Frag} {mg : Str → Option Value} {base : Heap} {CX : CXT} {k : Nat} {f : Addr} {fd : FuncData} {ps : List Str} {sp : Sp} (h : ∀ vs H Q E, ¬ sp vs H Q E) : FnOk P w K mg base CX k f fd ps sp :=
  ⟨fun vs H Q E q => (h _ _ _ _ q).elim, fun _ _ _ _ _ _ _ _ _ _ _ _ _ q => (h _ _ _ _ q).elim⟩
theorem spM_stuck {L : Lk} {m : List PV → M PV} (hm : ∀ xs st, m xs st = .stuck) : ∀ vs H Q E, ¬ spM L m vs H Q E := fun vs H Q E ⟨Y, φ, st, xs, R, hv, P⟩ => by
  rw [hm] at P
  exact P
theorem callK_none {p : Prog} {k f : Nat} (e : p.defs[f]? = none) (vs : List PV) (st : Sto) : callK p k f vs st = .stuck := by
  cases k with
  | zero => rfl
  | succ k => unfold callK; rw [e]; rfl
theorem callK_stuck {p : Prog} {k f : Nat} {d : Df} (e : p.defs[f]? = some d) (hs : stuckB d.body = true) (vs : List PV) (st : Sto) : callK p k f vs st = .stuck := by
  cases k with
  | zero => rfl
  | succ k =>
    have hb : d.body = [.exp (.neg (.cst .non))] := by
      unfold stuckB at hs
      split at hs
      · assumption
      · cases hs
    unfold callK
    rw [e]
    dsimp only
    cases Nat.beq vs.length d.nps with
    | false => rfl
    | true =>
      have : (fun s => endM (exSs (p.ctx (callK p k)) d.body (startE d vs) s)) = fun _ => .stuck := funext fun s => by
        rw [hb]
        simp only [exSs, exS, evE]
        rfl
      show frame (fun s => endM (exSs (p.ctx (callK p k)) d.body (startE d vs) s)) st = _
      rw [this]
      rfl
theorem callK_some {p : Prog} {k f : Nat} {d : Df} (e : p.defs[f]? = some d) {vs : List PV} (hl : vs.length = d.nps) : callK p (k + 1) f vs = frame fun s => endM (exSs (p.ctx (callK p k)) d.body (startE d vs) s) := by
  unfold callK
  rw [e, hl]
  dsimp only
  rw [Nat.beq_refl]
theorem callK_len {p : Prog} {k f : Nat} {d : Df} (e : p.defs[f]? = some d) {vs : List PV} (hl : vs.length ≠ d.nps) (st : Sto) : callK p (k + 1) f vs st = .stuck := by
  unfold callK
  rw [e]
  dsimp only
  cases q : Nat.beq vs.length d.nps with
  | true => exact absurd (Nat.eq_of_beq_eq_true q) hl
  | false => rfl
theorem er_start {L : Lk} {φ : List Addr} {H : Hp} {xs : List PV} {vs : List L2.V} {N : List Str} {d : Df} (hs : L.sl = []) (hx : L.xc = []) (hv : VRs L φ H xs vs) (hl : xs.length = d.nps) (hN : d.nN = N.length) (hle : d.nps ≤ N.length) : ER L φ H (startE d xs) (L2.start N vs) where
  len := by
    unfold startE L2.start
    rw [List.length_append, List.length_append, List.length_map, List.length_map, List.length_replicate, List.length_replicate, hv.length, hl, hN]
  at_ := fun i x e => by
    unfold startE at e
    unfold L2.start
    by_cases hi : i < xs.length
    · rw [List.getElem?_append_left (by rw [List.length_map]; exact hi), List.getElem?_map] at e
      cases q : xs[i]? with
      | none => rw [q] at e; cases e
      | some y =>
        rw [q] at e
        cases e
        obtain ⟨v, h1, h2⟩ := hv.get q
        exact ⟨v, by rw [List.getElem?_append_left (by rw [List.length_map, hv.length]; exact hi), List.getElem?_map, h1]; rfl, h2⟩
    · rw [List.getElem?_append_right (by rw [List.length_map]; omega), List.getElem?_replicate] at e
      split at e <;> cases e
  sl := fun p hp => by rw [hs] at hp; cases hp
  xc := fun p hp => by rw [hx] at hp; cases hp
section
variable {T : Tx} {h : nmsB T.names = true} {K : PySem.W.Frag} {P : Program} {w : World} {mg : Str → Option Value} {base : Heap}
variable (c : T.Says K) (bd : Bds T h K P w) (KX : K.In base) (GX : base.Ns mainGlobals mg) (tx : T.textB = true)
include c bd KX GX tx
/-- every def, at every depth -/
theorem fn_all : ∀ (j f : Nat), FnOk P w K mg base (L2.CX P w) (2 * (j + 1)) (T.fa K f) (T.fd K f) (T.pss.getD f []) (spM (T.lk h K P w) (callK T.prog j f))
  | 0, f => fnOk_no (spM_stuck fun _ _ => rfl)
  | j + 1, f => by
    cases e : T.prog.defs[f]? with
    | none => exact fnOk_no (spM_stuck fun xs st => callK_none e xs st)
    | some df =>
      have q := tx
      unfold Tx.textB at q
      simp only [Bool.and_eq_true] at q
      have hd := List.all_eq_true.mp q.1.1.1.1.1.1 f (List.mem_range.mpr (List.getElem?_eq_some_iff.mp e).1)
      unfold Tx.defB at hd
      rw [e] at hd
      dsimp only at hd
      rw [Bool.or_eq_true] at hd
      rcases hd with hd | hd
      · exact fnOk_no (spM_stuck fun xs st => callK_stuck e hd xs st)
      · cases ed : T.fns[f]? with
        | none => rw [ed] at hd; cases hd
        | some d =>
          rw [ed] at hd
          simp only [Bool.and_eq_true] at hd
          obtain ⟨⟨⟨h1, h2⟩, h3⟩, h4⟩ := hd
          have S := scopeB_ok h1
          have n1 := Nat.eq_of_beq_eq_true h2
          have n2 := Nat.eq_of_beq_eq_true h3
          have hpl : (T.pss.getD f []).length ≤ (T.Ns.getD f []).length := by have := congrArg List.length S.pre; rw [List.length_take] at this; omega
          have ln : ∀ {xs : List PV} {st : Sto} {L' : Lk} {W : WX} {σ : L2.St} {φ : List Addr} {H : Hp} {Q : VK}, PostE L' W σ φ H (callK T.prog (j + 1) f xs st) Q → xs.length = df.nps := fun {xs st L' W σ φ H Q} P => by
            by_cases hl : xs.length = df.nps
            · exact hl
            · rw [callK_len e hl] at P; exact P.elim
          have := (says_fun c ed).ok (P := P) (w := w) (mg := mg) (base := base) (CX := L2.CX P w) (k := 2 * (j + 1) + 1) (sp := spM (T.lk h K P w) (callK T.prog (j + 1) f)) S
            (fun vs H Q E ⟨Y, φ, st, xs, R, hv, PP⟩ => by rw [hv.length, ln PP, n1]) (fun cdv A outer s H vs Q E hr ⟨Y, φ, st, xs, R, hv, PP⟩ => ?_)
          · exact this
          · have hl := ln PP
            have G := (good_of c bd KX GX tx (fun f vs => pres_callK T.prog j f vs) (fn_all j) S (f := T.fa K f) (outer := outer) (H := H) (E := E) hr).hold Y
            refine ⟨tS ((T.lk h K P w).hold Y) (fun cls d _ H => E cls d H) (exSs (T.prog.ctx (callK T.prog j)) df.body), ckSs_ok df.body h4 G fun _ => ⟨takes_of rfl rfl rfl rfl, passes_of rfl⟩, ?_⟩
            rw [callK_some e hl] at PP
            have pm : Pres fun s => endM (exSs (T.prog.ctx (callK T.prog j)) df.body (startE df xs) s) := fun s => by
              have h1 := leR_exSs (c := T.prog.ctx (callK T.prog j)) (fun f vs => pres_callK T.prog j f vs) df.body (startE df xs) s
              dsimp only
              cases q : exSs (T.prog.ctx (callK T.prog j)) df.body (startE df xs) s with
              | fin y ρ' t =>
                rw [q] at h1
                cases y with
                | nx => exact h1
                | rt v => exact h1
                | bk => exact True.intro
                | ct => exact True.intro
              | exc x ρ' t => rw [q] at h1; exact h1
              | stuck => exact True.intro
            have P2 := frame_post pm R PP
            have E0 : ER ((T.lk h K P w).hold Y) φ H (startE df xs) (L2.start (T.Ns.getD f []) vs) := er_start rfl rfl hv hl n2 (by omega)
            refine ⟨φ, startE df xs, { st with low := st.objs.length }, R.setLow, E0, ?_⟩
            cases q : exSs (T.prog.ctx (callK T.prog j)) df.body (startE df xs) { st with low := st.objs.length } with
            | stuck => rw [q] at P2; exact P2
            | exc x ρ' t => rw [q] at P2; exact fun φ1 H1 σ1 cl d S1 R1 E1 X1 => P2 φ1 H1 cl d S1 R1 X1
            | fin y ρ' t =>
              rw [q] at P2
              cases y with
              | nx => exact fun φ1 H1 σ1 S1 R1 E1 => P2 φ1 H1 .non S1 R1 rfl
              | rt v => exact fun φ1 H1 v1 S1 R1 V1 => P2 φ1 H1 v1 S1 R1 V1
              | bk => exact (show False from P2).elim
              | ct => exact (show False from P2).elim
end
end TL
end

section
set_option maxRecDepth 100000
set_option maxHeartbeats 2000000
set_option autoImplicit false
/-! TL: a law's def, a law's end. -/
namespace TL
open PySem PySem.Spec PyProof.Rows L2
def spLaw (K : PySem.W.Frag) (n : Nat) : Sp := fun vs H Q _ => ∃ (a : Addr) (ns : List Int), vs = [.ref a] ∧ ns.length ≤ n ∧ SqL K H a (ns.map V.int) ∧ ∀ H', Q (.bl true) H'
/-- the script cut at m, then the rest: where the run begins -/
def cutSt (m : Int) : TL.St := .set (.nm 0) (.slc (.var 0) none (some (.cst (.int m))))
def lawE (nN : Nat) : Env := some (.ref 0) :: List.replicate (nN - 1) none
def lawS (m : Int) (ns : List Int) : Sto := ⟨[.list (cutL (ns.map PV.int) none (some m))], 0, []⟩
theorem ps_cut {c : Ctx} {k : Nat} {L : Lk} {S : Sk} {s0 : Stmt} {m : Int} {X : Cx} (G : Good c k L S X) (hc : ckS (cutSt m) S s0 = true) :
    PS X s0 (tAsg (tSl (rSlL X.K) (tVar 0) tNoPart (tPart (tC (.int m)))) (gName 0)) := by
  unfold cutSt at hc
  simp only [ckS] at hc
  split at hc
  · rw [Bool.or_eq_true] at hc
    rcases hc with hc | hc
    · rename_i tg e pos
      simp only [Bool.and_eq_true] at hc
      have he := hc.1.2
      have ht := hc.2
      clear hc
      simp only [ckE, ckO] at he
      split at he
      · rename_i e1 lo hi p1 p2
        simp only [Bool.and_eq_true] at he
        obtain ⟨⟨h1, h2⟩, h3⟩ := he
        obtain rfl : lo = none := by simpa using h2
        split at h1
        · rename_i x px
          obtain ⟨v1, v2, v3⟩ := okVar_of h1
          split at h3
          · rename_i e2
            split at h3
            · rename_i q j pq
              have hq : q = .int m := by
                split at h3
                · rename_i p' hp
                  rw [PV.eq_of_beq _ _ h3] at hp
                  cases q <;> simp only [constV] at hp <;> first | (cases hp; rfl) | cases hp
                · cases h3
              subst hq
              simp only [ckT] at ht
              split at ht
              · rename_i y py
                simp only [Bool.and_eq_true, decide_eq_true_eq] at ht
                obtain ⟨hl, hf⟩ := sto_of G ht.1.2
                exact ps_set G.nd (by rw [G.hN]; exact ht.1.1) hl (pe_slice sl_list (pe_var (by rw [G.hN]; exact v1) (by rw [G.sc]; exact vis_of v2) (plainNm_1 v3) (plainNm_2 v3)) po_none (po_some pe_int)) rfl hf
              · cases ht
            · cases h3
          · cases h3
        · cases h1
      · cases he
    · cases hc
  · cases hc
section
variable {T : Tx} {h : nmsB T.names = true} {K : PySem.W.Frag} {P : Program} {w : World} {mg : Str → Option Value} {base : Heap}
/-- the law's def -/
theorem law_fn (c : T.Says K) (bd : Bds T h K P w) (KX : K.In base) (GX : base.Ns mainGlobals mg) (tx : T.textB = true) {j f n : Nat} {m : Int} {df : Df} {rest : List TL.St} (e : T.prog.defs[f]? = some df) (hb : df.body = cutSt m :: rest) (h1 : df.nps = 1)
    (run : ∀ ns : List Int, ns.length ≤ n → ∃ ρ t, exSs (T.prog.ctx (callK T.prog j)) rest (lawE df.nN) (lawS m ns) = .fin (.rt (.bl true)) ρ t) :
    FnOk P w K mg base (L2.CX P w) (2 * (j + 1) + 2) (T.fa K f) (T.fd K f) (T.pss.getD f []) (spLaw K n) := by
  have q := tx
  unfold Tx.textB at q
  simp only [Bool.and_eq_true] at q
  have hd := List.all_eq_true.mp q.1.1.1.1.1.1 f (List.mem_range.mpr (List.getElem?_eq_some_iff.mp e).1)
  unfold Tx.defB at hd
  rw [e] at hd
  dsimp only at hd
  rw [hb, show stuckB (cutSt m :: rest) = false from rfl, Bool.false_or] at hd
  cases ed : T.fns[f]? with
  | none => rw [ed] at hd; cases hd
  | some d =>
    rw [ed] at hd
    simp only [Bool.and_eq_true] at hd
    obtain ⟨⟨⟨h2, h3⟩, h4⟩, h5⟩ := hd
    have S := scopeB_ok h2
    have n1 := Nat.eq_of_beq_eq_true h3
    have n2 := Nat.eq_of_beq_eq_true h4
    have hpl : (T.pss.getD f []).length ≤ (T.Ns.getD f []).length := by have := congrArg List.length S.pre; rw [List.length_take] at this; omega
    refine (says_fun c ed).ok (P := P) (w := w) (mg := mg) (base := base) (CX := L2.CX P w) (k := 2 * (j + 1) + 1) (sp := spLaw K n) S (fun vs H Q E ⟨a, ns, ev, _⟩ => by rw [ev, ← n1, h1]; rfl) (fun cdv A outer s H vs Q E hr ⟨a, ns, ev, hl, hS, hQ⟩ => ?_)
    subst ev
    have G := good_of c bd KX GX tx (fun f vs => pres_callK T.prog j f vs) (fn_all c bd KX GX tx j) S (f := T.fa K f) (outer := outer) (H := H) (E := E) hr
    cases eb : d.body with
    | nil => rw [eb] at h5; simp only [ckSs] at h5; cases h5
    | cons s0 ss =>
      rw [eb] at h5
      simp only [ckSs] at h5
      rw [Bool.and_eq_true] at h5
      refine ⟨_, pss_cons (ps_cut G h5.1) (ckSs_ok rest (W := fun cls d _ H => E cls d H) h5.2 G fun _ => ⟨takes_of rfl rfl rfl rfl, passes_of rfl⟩), ?_⟩
      refine ⟨.ref a, rfl, m, rfl, a, ns.map V.int, rfl, hS, fun p hp => ?_⟩
      obtain ⟨ρ, t, er⟩ := run ns hl
      refine ⟨[p], lawE df.nN, lawS m ns, ⟨rfl, by simp, fun i o a' e1 e2 => ?_, fun i hi => (by cases hi), fun p hp => (by cases hp)⟩, ⟨?_, fun i x e1 => ?_, fun p hp => (by cases hp), fun p hp => (by cases hp)⟩, ?_⟩
      · cases i with
        | succ i => simp [lawS] at e1
        | zero =>
          have e1' : some (Ob.list (cutL (ns.map PV.int) none (some m))) = some o := e1
          have e2' : some p = some a' := e2
          cases e1'
          cases e2'
          exact ⟨_, (vrs_ints ns).cut none (some m), SqL.of upd_same, by rw [upd_same]; rfl, fun _ => upd_same⟩
      · unfold lawE L2.start
        rw [List.length_set, List.length_append, List.length_map, List.length_replicate, List.length_cons, List.length_replicate]
        simp only [List.length_cons, List.length_nil]
        omega
      · cases i with
        | zero =>
          have e1' : some (some (PV.ref 0)) = some (some x) := e1
          cases e1'
          refine ⟨.ref p, ?_, p, rfl, rfl⟩
          rw [List.getElem?_set_self]
          unfold L2.start
          simp
        | succ i =>
          unfold lawE at e1
          rw [List.getElem?_cons_succ, List.getElem?_replicate] at e1
          split at e1 <;> cases e1
      · rw [er]
        exact fun φ1 H1 v S1 R1 V1 => by
          obtain rfl : v = .bl true := V1
          exact hQ H1
end
theorem plainP_bindsA {K : PySem.W.Frag} {x qual : Str} {params : Arguments} {body : List Stmt} {scope : Scope} {f : Addr} {fd : FuncData} {ps : List Str} (F : FunD K x qual params body scope [] [] f fd) (h : plainP params ps = true) (s : Shared) (us : List Value) (hl : us.length = ps.length) : BindsTo s fd ⟨us, []⟩ (ps.zip us) := by
  unfold plainP at h
  split at h
  · rename_i as
    rw [Bool.and_eq_true, decide_eq_true_eq, decide_eq_true_eq] at h
    obtain ⟨rfl, nd⟩ := h
    exact F.bindsA (fun _ _ _ _ _ _ us hl => bindArgs_plain nd (by rw [hl, List.length_map])) s us hl
  · cases h
/-- what may be let out at some world -/
def CXw (P : Program) : CXT := fun outer H s E e s' => ∃ w : World, L2.CX P w outer H s E e s'
theorem cxw {P : Program} {w : World} {K : PySem.W.Frag} {mg : Str → Option Value} {base : Heap} {k : Nat} {f : Addr} {fd : FuncData} {ps : List Str} {sp : Sp} (F : FnOk P w K mg base (L2.CX P w) k f fd ps sp) : FnOk P w K mg base (CXw P) k f fd ps sp :=
  ⟨F.len, fun A outer s H args us vs Q E hr e0 hb r q => codeAny_mono (F.run A outer s H args us vs Q E hr e0 hb r q) fun r s' hq => by
    cases r with
    | error e => exact ⟨w, hq⟩
    | ok fl => cases fl <;> exact hq⟩
/-- the row of a law, by its text -/
theorem walk_tx {T : Tx} (h : nmsB T.names = true) {l : PySem.W.OpenLaw} {n na j f : Nat} {m : Int} {q : Program} {loose : List Str} {XP : (Str → Option Value) → Heap → Prop} {d : DefRec} {df : Df} {rest : List TL.St} {x : Str}
    (hn : l.most = some n) (hn2 : n ≤ sizeLine) (hdf : d.params.defaults = []) (tx : T.textB = true) (hroom : 2 * (j + 1) + 2 < 231)
    (bd : ∀ (K : PySem.W.Frag) (w : World), T.Says K → Bds T h K l.prog w) (e : T.prog.defs[f]? = some df) (hb : df.body = cutSt m :: rest) (h1 : df.nps = 1) (hg : T.at_ f (d.name, none) = true) (hgl : T.gls.lookup d.name = some (.fn f)) (hps : T.pss.getD f [] = [x]) (hpl : T.plainAt f 1 = true)
    (run : ∀ ns : List Int, ns.length ≤ n → ∃ ρ t, exSs (T.prog.ctx (callK T.prog j)) rest (lawE df.nN) (lawS m ns) = .fin (.rt (.bl true)) ρ t) :
    PySem.W.WalkO q loose XP (T.hook na).says l.row.toRowW d [] (fun f vs => PySem.call f vs) := by
  have hr : Room (2 * (j + 1) + 2) callerA := ⟨rfl, by show 301 + 3 * (2 * (j + 1) + 2) + 5 < 1000; omega, by show 4 + 16 * (2 * (j + 1) + 2) + 200 < 9900; omega⟩
  refine walk_ofE (k := 2 * (j + 1) + 2) (CX := CXw l.prog) (x := x) hn hn2 hdf hr (fun w mg fa hp Y G hmg => ?_) fun H s e s' ⟨w, a, B, H', cls, d, _, _, _, _, _, _, _, z⟩ => z
  obtain ⟨K, KX, c⟩ := Y
  have hB := hb_of c
  have g := hB.gls _ (gl_mem hgl)
  simp only [Tx.glB, Bool.and_eq_true] at g
  obtain ⟨dd, ed, ea⟩ := at_of (K := K) hg
  have hfa : T.fa K f = fa := by
    have := He.glo_ok KX G g.1.2
    rw [hmg] at this
    cases this
    rw [ea]
    rfl
  refine ⟨K, T.fd K f, spLaw K n, KX, fun s u => ?_, fun H a ns hl _ hS => ⟨a, ns, rfl, hl, hS, fun _ => rfl⟩, fun base KB GB => ?_⟩
  · have hp2 := hpl
    unfold Tx.plainAt at hp2
    rw [ed] at hp2
    simp only [Bool.and_eq_true] at hp2
    obtain ⟨⟨⟨p1, p2⟩, p3⟩, p4⟩ := hp2
    have F := says_fun c ed
    have e1 : dd.dvs K = [] := by unfold He.DefD.dvs; rw [List.isEmpty_iff.mp p1]; rfl
    have e2 : dd.kws K = [] := by unfold He.DefD.kws; rw [List.isEmpty_iff.mp p2]; rfl
    rw [e1, e2] at F
    have := plainP_bindsA F p3 s [u] (by rw [hps]; rfl)
    rw [hps] at this
    exact this
  · have := cxw (law_fn c (bd K w c) KB GB tx e hb h1 run)
    rw [hfa, hps] at this
    exact this
/-- a class's own rows -/
def rowsOf (s : Stmt) : List Stmt := match s with
  | .ClassDef (body := rows) .. => rows
  | _ => []
end TL
end

section
set_option maxRecDepth 100000
set_option maxHeartbeats 1000000
set_option autoImplicit false
/-! TL: what a run wants. -/
namespace TR
open TL
def Vm {α : Type} (m : M α) (s : Sto) (Q : α → Sto → Prop) (X : Xc → Sto → Prop) : Prop := match m s with
  | .ok a t => Q a t
  | .exc x t => X x t
  | .stuck => False
def Vs (r : SRes) (Q : Flow → Env → Sto → Prop) (X : Xc → Env → Sto → Prop) : Prop := match r with
  | .fin f ρ t => Q f ρ t
  | .exc x ρ t => X x ρ t
  | .stuck => False
section
variable {α β : Type} {m : M α} {k : α → M β} {s t : Sto} {Q : α → Sto → Prop} {Q' : β → Sto → Prop} {X : Xc → Sto → Prop} {c : Ctx} {ρ : Env}
theorem Vm.mono {Q2 : α → Sto → Prop} {X2 : Xc → Sto → Prop} (h : Vm m s Q X) (hq : ∀ a t, Q a t → Q2 a t) (hx : ∀ x t, X x t → X2 x t) : Vm m s Q2 X2 := by
  unfold Vm at h ⊢
  cases e : m s with
  | ok a t => rw [e] at h; exact hq a t h
  | exc x t => rw [e] at h; exact hx x t h
  | stuck => rw [e] at h; exact h
theorem Wm_ok_o {a : α} (e : m s = .ok a t) : Vm m s Q X = Q a t := by unfold Vm; rw [e]
theorem Wm_exc_o {x : Xc} (e : m s = .exc x t) : Vm m s Q X = X x t := by unfold Vm; rw [e]
theorem of_Wm_o {v : α} (h : Vm m s (fun a t' => a = v ∧ t' = t) fun _ _ => False) : m s = .ok v t := by
  unfold Vm at h
  cases e : m s with
  | ok a u => rw [e] at h; rw [h.1, h.2]
  | exc x u => rw [e] at h; exact h.elim
  | stuck => rw [e] at h; exact h.elim
theorem of_WmX_o {x : Xc} (h : Vm m s (fun _ _ => False) fun y t' => y = x ∧ t' = t) : m s = .exc x t := by
  unfold Vm at h
  cases e : m s with
  | ok a u => rw [e] at h; exact h.elim
  | exc y u => rw [e] at h; rw [h.1, h.2]
  | stuck => rw [e] at h; exact h.elim
theorem Wm_bind_o : Vm (m >>= k) s Q' X = Vm m s (fun a t => Vm (k a) t Q' X) X := by
  show (match (match m s with | .ok a t => k a t | .exc x t => .exc x t | .stuck => .stuck) with | .ok a t => Q' a t | .exc x t => X x t | .stuck => False) = (match m s with | .ok a t => Vm (k a) t Q' X | .exc x t => X x t | .stuck => False)
  cases m s <;> rfl
theorem Wm_pure_o {a : α} : Vm (pure a) s Q X = Q a s := rfl
theorem Wm_ret_o {a : α} : Vm (M.ret a) s Q X = Q a s := rfl
theorem Wm_stop_o : Vm (M.stop) s Q X = False := rfl
theorem Wm_guard_o {b : Bool} {Q : Unit → Sto → Prop} : Vm (M.guard b) s Q X = (b = true ∧ Q () s) := by
  cases b
  · show False = _; simp
  · show Q () s = _; simp
theorem Wm_opt_some_o {a : α} : Vm (M.opt (some a)) s Q X = Q a s := rfl
theorem Wm_alloc_o {o : Ob} {Q : PV → Sto → Prop} : Vm (alloc o) s Q X = Q (.ref s.objs.length) { s with objs := s.objs ++ [o] } := rfl
theorem Wm_getOb_o {r : Nat} {o : Ob} {Q : Ob → Sto → Prop} (h : s.objs[r]? = some o) : Vm (getOb r) s Q X = Q o s := by
  unfold Vm getOb; rw [h]
theorem Wm_objsM_o {Q : List Ob → Sto → Prop} : Vm objsM s Q X = Q s.objs s := rfl
theorem Wm_putOb_o {r : Nat} {o : Ob} {Q : Unit → Sto → Prop} : Vm (putOb r o) s Q X = (s.lk.contains r = false ∧ Q () { s with objs := s.objs.set r o, low := min s.low r }) := by
  unfold Vm putOb
  cases s.lk.contains r <;> simp
theorem Wm_asB_o {b : Bool} {Q : Bool → Sto → Prop} : Vm (asB (.bl b)) s Q X = Q b s := rfl
theorem Wm_asI_o {i : Int} {Q : Int → Sto → Prop} : Vm (asI (.int i)) s Q X = Q i s := rfl
theorem Wm_quiet_o : Vm (M.quiet m) s Q X = Vm m s Q fun _ _ => False := by
  unfold Vm M.quiet
  cases m s <;> rfl
theorem Wm_locked_o {l : List Nat} : Vm (locked l m) s Q X = Vm m { s with lk := l ++ s.lk } (fun a t => Q a { t with lk := s.lk }) fun x t => X x { t with lk := s.lk } := by
  unfold Vm locked
  cases m { s with lk := l ++ s.lk } <;> rfl
/-- a frame whose value holds nothing of its own -/
theorem Wm_frame_o {m : M PV} {Q : PV → Sto → Prop} (h : Vm m { s with low := s.objs.length } (fun v t => s.objs.length ≤ t.low ∧ below s.objs.length v = true ∧ Q v { s with lk := t.lk }) fun x t => s.objs.length ≤ t.low ∧ (x.fs.all fun p => below s.objs.length p.2) = true ∧ X x { s with lk := t.lk }) : Vm (frame m) s Q X := by
  unfold Vm at h ⊢
  unfold frame
  cases e : m { s with low := s.objs.length } with
  | stuck => rw [e] at h; exact h
  | exc x t =>
    rw [e] at h
    obtain ⟨h1, h2, h3⟩ := h
    dsimp only
    rw [show Nat.ble s.objs.length t.low = true from Nat.ble_eq_true_of_le h1, h2]
    exact h3
  | ok v t =>
    rw [e] at h
    obtain ⟨h1, h2, h3⟩ := h
    dsimp only
    rw [show Nat.ble s.objs.length t.low = true from Nat.ble_eq_true_of_le h1]
    dsimp only
    rw [h2]
    exact h3
/-- a frame that leaves one new object -/
theorem Wm_frame1_o {m : M PV} {Q : PV → Sto → Prop} (h : Vm m { s with low := s.objs.length } (fun v t => s.objs.length ≤ t.low ∧ ∃ r o, v = .ref r ∧ s.objs.length ≤ r ∧ t.objs[r]? = some o ∧ belowO s.objs.length o = true ∧ Q (.ref s.objs.length) { s with objs := s.objs ++ [o], lk := t.lk }) fun x t => s.objs.length ≤ t.low ∧ (x.fs.all fun p => below s.objs.length p.2) = true ∧ X x { s with lk := t.lk }) : Vm (frame m) s Q X := by
  unfold Vm at h ⊢
  unfold frame
  cases e : m { s with low := s.objs.length } with
  | stuck => rw [e] at h; exact h
  | exc x t =>
    rw [e] at h
    obtain ⟨h1, h2, h3⟩ := h
    dsimp only
    rw [show Nat.ble s.objs.length t.low = true from Nat.ble_eq_true_of_le h1, h2]
    exact h3
  | ok v t =>
    rw [e] at h
    obtain ⟨h1, r, o, rfl, h2, h3, h4, h5⟩ := h
    dsimp only
    rw [show Nat.ble s.objs.length t.low = true from Nat.ble_eq_true_of_le h1]
    dsimp only
    rw [show below s.objs.length (.ref r) = false from by
      show Nat.blt r s.objs.length = false
      cases q : Nat.blt r s.objs.length with
      | false => rfl
      | true => exact absurd (Nat.le_of_ble_eq_true q) (by show ¬ (r + 1 ≤ _); omega)]
    dsimp only
    rw [h3]
    dsimp only
    rw [h4]
    exact h5
theorem bind_at {a : α} (e : m s = .ok a t) : (m >>= k) s = k a t := by
  show (M.bind m k) s = _
  unfold M.bind
  rw [e]
/-- one more, if there is one -/
def more1 (y : Option PV) (ys : List PV) : List PV := match y with
  | some v => v :: ys
  | none => ys
theorem turns_cons {f : PV → M (Option PV)} {x : PV} {l : List PV} {y : Option PV} {ys : List PV} {u : Sto} (h1 : f x s = .ok y t) (h2 : turns f l t = .ok ys u) : turns f (x :: l) s = .ok (more1 y ys) u := by
  unfold turns
  rw [bind_at h1, bind_at h2]
  cases y <;> rfl
/-- the turns of a comprehension, where none writes -/
theorem turns_map {γ : Type} {f : PV → M (Option PV)} {g h : γ → PV} : ∀ {l : List γ}, (∀ a ∈ l, f (h a) s = .ok (some (g a)) s) → turns f (l.map h) s = .ok (l.map g) s
  | [], _ => rfl
  | a :: l, H => turns_cons (H a (List.mem_cons_self ..)) (turns_map fun b hb => H b (List.mem_cons_of_mem _ hb))
/-- the same with a test -/
theorem turns_filter {γ : Type} {f : PV → M (Option PV)} {g : γ → Option PV} {h : γ → PV} : ∀ {l : List γ}, (∀ a ∈ l, f (h a) s = .ok (g a) s) → turns f (l.map h) s = .ok (l.filterMap g) s
  | [], _ => rfl
  | a :: l, H => by
    have e := turns_cons (H a (List.mem_cons_self ..)) (turns_filter fun b hb => H b (List.mem_cons_of_mem _ hb))
    rw [List.map_cons, e, List.filterMap_cons]
    cases g a <;> rfl
theorem boolsB_all {γ : Type} {p : γ → Bool} : ∀ {l : List γ}, boolsB true (l.map fun a => .bl (p a)) = some (l.all p)
  | [] => rfl
  | a :: l => by
    have e := boolsB_all (p := p) (l := l)
    rw [List.map_cons, List.all_cons]
    unfold boolsB
    rw [e]
    cases p a <;> simp
theorem boolsB_any {γ : Type} {p : γ → Bool} : ∀ {l : List γ}, boolsB false (l.map fun a => .bl (p a)) = some (l.any p)
  | [] => rfl
  | a :: l => by
    have e := boolsB_any (p := p) (l := l)
    rw [List.map_cons, List.any_cons]
    unfold boolsB
    rw [e]
    cases p a <;> simp
/-! ### statements -/
theorem Vs.mono {r : SRes} {Q Q2 : Flow → Env → Sto → Prop} {X X2 : Xc → Env → Sto → Prop} (h : Vs r Q X) (hq : ∀ f ρ t, Q f ρ t → Q2 f ρ t) (hx : ∀ x ρ t, X x ρ t → X2 x ρ t) : Vs r Q2 X2 := by
  cases r with
  | fin f ρ t => exact hq _ _ _ h
  | exc x ρ t => exact hx _ _ _ h
  | stuck => exact h
theorem Ws_andThen_o {q : α → Sto → SRes} {Q : Flow → Env → Sto → Prop} {X : Xc → Env → Sto → Prop} : Vs (andThen ρ m q s) Q X = Vm m s (fun a t => Vs (q a t) Q X) fun x t => X x ρ t := by
  unfold andThen Vm
  cases m s <;> rfl
theorem Ws_nil_o {Q : Flow → Env → Sto → Prop} {X : Xc → Env → Sto → Prop} : Vs (exSs c [] ρ s) Q X = Q .nx ρ s := by simp only [exSs]; rfl
theorem Ws_cons_o {a : St} {r : List St} {Q : Flow → Env → Sto → Prop} {X : Xc → Env → Sto → Prop} : Vs (exSs c (a :: r) ρ s) Q X = Vs (exS c a ρ s) (fun f ρ' t => match f with
    | .nx => Vs (exSs c r ρ' t) Q X
    | f => Q f ρ' t) X := by
  simp only [exSs]
  cases exS c a ρ s with
  | fin f ρ' t => cases f <;> rfl
  | exc x ρ' t => rfl
  | stuck => rfl
theorem Ws_fin_o {f : Flow} {Q : Flow → Env → Sto → Prop} {X : Xc → Env → Sto → Prop} : Vs (.fin f ρ s) Q X = Q f ρ s := rfl
theorem Ws_exc_o {x : Xc} {Q : Flow → Env → Sto → Prop} {X : Xc → Env → Sto → Prop} : Vs (.exc x ρ s) Q X = X x ρ s := rfl
/-- a def's body -/
theorem Wm_body_o {body : List St} {Q : PV → Sto → Prop} (h : Vs (exSs c body ρ s) (fun f _ t => match f with
    | .rt v => Q v t
    | .nx => Q .non t
    | _ => False) fun x _ t => X x t) : Vm (fun s => endM (exSs c body ρ s)) s Q X := by
  unfold Vm
  dsimp only
  cases e : exSs c body ρ s with
  | stuck => rw [e] at h; exact h
  | exc x ρ' t => rw [e] at h; exact h
  | fin f ρ' t => rw [e] at h; cases f <;> exact h
/-- a walk of a for, by what stands at each turn -/
theorem Ws_for_o {f : PV → Env → Sto → SRes} (J : List PV → Env → Sto → Prop) {Q : Flow → Env → Sto → Prop} {X : Xc → Env → Sto → Prop} (step : ∀ x l ρ s, J (x :: l) ρ s → Vs (f x ρ s) (fun k ρ' t => match k with
    | .nx => J l ρ' t
    | .ct => J l ρ' t
    | .bk => Q .nx ρ' t
    | .rt v => Q (.rt v) ρ' t) X) (fin : ∀ ρ s, J [] ρ s → Q .nx ρ s) : ∀ (l : List PV) (ρ : Env) (s : Sto), J l ρ s → Vs (forTurns f l ρ s) Q X
  | [], ρ, s, h => fin ρ s h
  | x :: l, ρ, s, h => by
    have q := step x l ρ s h
    unfold forTurns
    cases e : f x ρ s with
    | stuck => rw [e] at q; exact q
    | exc y ρ' t => rw [e] at q; exact q
    | fin k ρ' t =>
      rw [e] at q
      cases k with
      | nx => exact Ws_for_o J step fin l ρ' t q
      | ct => exact Ws_for_o J step fin l ρ' t q
      | bk => exact q
      | rt v => exact q
theorem Ws_unlock_o {l : List Nat} {r : SRes} {Q : Flow → Env → Sto → Prop} {X : Xc → Env → Sto → Prop} : Vs (unlock l r) Q X = Vs r (fun f ρ t => Q f ρ { t with lk := l }) fun x ρ t => X x ρ { t with lk := l } := by
  cases r <;> rfl
end
end TR
end

section
set_option maxRecDepth 100000
set_option maxHeartbeats 1000000
set_option autoImplicit false
/-! TL: what each tree's run wants, as equations. -/
namespace TR
open TL
/-- behind a frame -/
def vQ (s : Sto) (Q : PV → Sto → Prop) (v : PV) (t : Sto) : Prop :=
  if s.objs.length ≤ t.low then (if below s.objs.length v = true then Q v ⟨s.objs, s.low, t.lk⟩ else match v with
    | .ref r => (match t.objs[r]? with
      | some o => if belowO s.objs.length o = true then Q (.ref s.objs.length) ⟨s.objs ++ [o], s.low, t.lk⟩ else Q v ⟨t.objs, s.low, t.lk⟩
      | none => False)
    | _ => Q v ⟨t.objs, s.low, t.lk⟩) else Q v ⟨t.objs, min s.low t.low, t.lk⟩
def vX (s : Sto) (X : Xc → Sto → Prop) (x : Xc) (t : Sto) : Prop :=
  if s.objs.length ≤ t.low ∧ (x.fs.all fun p => below s.objs.length p.2) = true then X x ⟨s.objs, s.low, t.lk⟩ else X x ⟨t.objs, min s.low t.low, t.lk⟩
/-- an instance is made -/
def mkI (c : Ctx) (k : Nat) (ws : List PV) : M PV := match c.inits.lookup k with
  | some f => frame (do
    let r ← alloc (.inst k [])
    match ← c.fn f (r :: ws) with
    | .non => return r
    | _ => M.stop)
  | none => M.stop
section
variable {c : Ctx} {ρ : Env} {s : Sto} {Q : PV → Sto → Prop} {X : Xc → Sto → Prop}
theorem Wm_frame_eq_o {m : M PV} : Vm (frame m) s Q X = Vm m { s with low := s.objs.length } (vQ s Q) (vX s X) := by
  unfold Vm frame
  cases m { s with low := s.objs.length } with
  | stuck => rfl
  | ok v t =>
    dsimp only
    unfold vQ
    cases h1 : Nat.ble s.objs.length t.low with
    | false =>
      have : ¬ s.objs.length ≤ t.low := fun z => by rw [Nat.ble_eq_true_of_le z] at h1; cases h1
      rw [if_neg this]
    | true =>
      rw [if_pos (Nat.le_of_ble_eq_true h1)]
      dsimp only
      cases h2 : below s.objs.length v with
      | true => rfl
      | false =>
        rw [if_neg (by simp)]
        cases v with
        | ref r =>
          dsimp only
          cases t.objs[r]? with
          | none => rfl
          | some o =>
            dsimp only
            cases belowO s.objs.length o <;> rfl
        | _ => rfl
  | exc x t =>
    dsimp only
    unfold vX
    cases h1 : Nat.ble s.objs.length t.low with
    | false =>
      have : ¬ s.objs.length ≤ t.low := fun z => by rw [Nat.ble_eq_true_of_le z] at h1; cases h1
      rw [if_neg (fun z => this z.1)]
      rfl
    | true =>
      cases h2 : (x.fs.all fun p => below s.objs.length p.2) with
      | true => rw [if_pos ⟨Nat.le_of_ble_eq_true h1, rfl⟩]; rfl
      | false => rw [if_neg (fun z => by simp at z)]; rfl
theorem w_var_o {i : Nat} : Vm (evE c ρ (.var i)) s Q X = (match ρ[i]? with | some (some v) => Q v s | _ => False) := by
  simp only [evE]
  cases ρ[i]? with
  | none => rfl
  | some o => cases o <;> rfl
theorem w_cst_o {v : PV} : Vm (evE c ρ (.cst v)) s Q X = Q v s := by simp only [evE]; rfl
theorem w_glob_o {g : Nat} : Vm (evE c ρ (.glob g)) s Q X = (match c.globs[g]? with | some v => Q v s | none => False) := by
  simp only [evE]
  cases c.globs[g]? <;> rfl
theorem w_tup_o {es : List Ex} : Vm (evE c ρ (.tup es)) s Q X = Vm (evEs c ρ es) s (fun xs t => xs.length ≤ lineN ∧ Q (.tup xs) t) X := by simp only [evE, Wm_bind_o, Wm_guard_o, Wm_pure_o, decide_eq_true_eq]
theorem w_lst_o {es : List Ex} : Vm (evE c ρ (.lst es)) s Q X = Vm (evEs c ρ es) s (fun xs t => xs.length ≤ lineN ∧ Q (.ref t.objs.length) { t with objs := t.objs ++ [.list xs] }) X := by simp only [evE, Wm_bind_o, Wm_guard_o, Wm_alloc_o, decide_eq_true_eq]
theorem w_dic0_o  : Vm (evE c ρ (.dic [])) s Q X = Q (.ref s.objs.length) { s with objs := s.objs ++ [.dict []] } := by simp only [evE, evEs]; rfl
theorem w_bin_o {o : BOp} {a b : Ex} : Vm (evE c ρ (.bin o a b)) s Q X = Vm (evE c ρ a) s (fun x t => Vm (evE c ρ b) t (fun y u => Vm (binop o x y) u Q X) X) X := by simp only [evE, Wm_bind_o]
theorem w_neg_o {a : Ex} : Vm (evE c ρ (.neg a)) s Q X = Vm (evE c ρ a) s (fun x t => Vm (asI x) t (fun i u => Q (.int (-i)) u) X) X := by simp only [evE, Wm_bind_o, Wm_pure_o]
theorem w_not_o {a : Ex} : Vm (evE c ρ (.notE a)) s Q X = Vm (evE c ρ a) s (fun x t => Vm (asB x) t (fun b u => Q (.bl (!b)) u) X) X := by simp only [evE, Wm_bind_o, Wm_pure_o]
theorem w_and_o {a b : Ex} : Vm (evE c ρ (.andE a b)) s Q X = Vm (evE c ρ a) s (fun x t => Vm (asB x) t (fun p u => if p = true then Vm (evE c ρ b) u (fun y v => Vm (asB y) v (fun q w => Q (.bl q) w) X) X else Q (.bl false) u) X) X := by
  simp only [evE, Wm_bind_o]
  congr; funext x t; congr; funext p u
  cases p
  · rfl
  · simp only [Wm_bind_o, Wm_pure_o, if_true]
theorem w_or_o {a b : Ex} : Vm (evE c ρ (.orE a b)) s Q X = Vm (evE c ρ a) s (fun x t => Vm (asB x) t (fun p u => if p = true then Q (.bl true) u else Vm (evE c ρ b) u (fun y v => Vm (asB y) v (fun q w => Q (.bl q) w) X) X) X) X := by
  simp only [evE, Wm_bind_o]
  congr; funext x t; congr; funext p u
  cases p
  · simp only [Wm_bind_o, Wm_pure_o, Bool.false_eq_true, if_false]
  · rfl
theorem w_cmp_o {o : COp} {a b : Ex} : Vm (evE c ρ (.cmp o a b)) s Q X = Vm (evE c ρ a) s (fun x t => Vm (evE c ρ b) t (fun y u => Vm (compareV c o x y) u Q X) X) X := by simp only [evE, Wm_bind_o]
theorem w_chn_o {o p : COp} {a b d : Ex} : Vm (evE c ρ (.chn o p a b d)) s Q X = Vm (evE c ρ a) s (fun x t => Vm (evE c ρ b) t (fun y u => Vm (compareV c o x y) u (fun r v => Vm (asB r) v (fun q w => if q = true then Vm (evE c ρ d) w (fun z w2 => Vm (compareV c p y z) w2 Q X) X else Q (.bl false) w) X) X) X) X := by
  simp only [evE, Wm_bind_o]
  congr; funext x t; congr; funext y u; congr; funext r v; congr; funext q w
  cases q
  · rfl
  · simp only [Wm_bind_o, if_true]
theorem w_ite_o {q a b : Ex} : Vm (evE c ρ (.ite q a b)) s Q X = Vm (evE c ρ q) s (fun x t => Vm (asB x) t (fun p u => if p = true then Vm (evE c ρ a) u Q X else Vm (evE c ρ b) u Q X) X) X := by
  simp only [evE, Wm_bind_o]
  congr; funext x t; congr; funext p u
  cases p <;> rfl
theorem w_fld_o {f : Nat} {o : Ex} : Vm (evE c ρ (.fld f o)) s Q X = Vm (evE c ρ o) s (fun x t => Vm (getFld x f) t Q X) X := by simp only [evE, Wm_bind_o]
theorem w_idx_o {o i : Ex} : Vm (evE c ρ (.idx o i)) s Q X = Vm (evE c ρ o) s (fun x t => Vm (evE c ρ i) t (fun y u => Vm (getItem x y) u Q X) X) X := by simp only [evE, Wm_bind_o]
theorem w_slc_o {o : Ex} {l u : Option Ex} : Vm (evE c ρ (.slc o l u)) s Q X = Vm (evE c ρ o) s (fun x t => Vm (evO c ρ l) t (fun lo t2 => Vm (evO c ρ u) t2 (fun hi t3 => Vm (sliceV x lo hi) t3 Q X) X) X) X := by simp only [evE, Wm_bind_o]
theorem w_rev_o {o : Ex} : Vm (evE c ρ (.rev o)) s Q X = Vm (evE c ρ o) s (fun x t => Vm (revV x) t Q X) X := by simp only [evE, Wm_bind_o]
theorem w_call_o {f : Nat} {es : List Ex} {b : List Src} : Vm (evE c ρ (.call f es b)) s Q X = Vm (evEs c ρ es) s (fun vs t => match bindS vs b with | some ws => Vm (c.fn f ws) t Q X | none => False) X := by
  simp only [evE, Wm_bind_o]
  congr; funext vs t
  cases bindS vs b <;> rfl
theorem w_meth_o {m : Nat} {o : Ex} {es : List Ex} {b : List Src} : Vm (evE c ρ (.meth m o es b)) s Q X = Vm (evE c ρ o) s (fun x t => Vm (methM c x m) t (fun f u => Vm (evEs c ρ es) u (fun vs v => match bindS vs b with | some ws => Vm (c.fn f (x :: ws)) v Q X | none => False) X) X) X := by
  simp only [evE, Wm_bind_o]
  congr; funext x t; congr; funext f u; congr; funext vs v
  cases bindS vs b <;> rfl
theorem w_new_o {k : Nat} {es : List Ex} {b : List Src} : Vm (evE c ρ (.new k es b)) s Q X = Vm (evEs c ρ es) s (fun vs t => match bindS vs b with | some ws => Vm (mkI c k ws) t Q X | none => False) X := by
  simp only [evE, Wm_bind_o]
  congr; funext vs t
  cases bindS vs b <;> rfl
theorem w_bi_o {b : BI} {es : List Ex} : Vm (evE c ρ (.bi b es)) s Q X = Vm (evEs c ρ es) { s with low := s.objs.length } (fun vs t => Vm (builtin c b vs) t (vQ s Q) (vX s X)) (vX s X) := by
  simp only [evE, Wm_frame_eq_o, Wm_bind_o]
theorem w_bm_o {m : BM} {o : Ex} {es : List Ex} : Vm (evE c ρ (.bm m o es)) s Q X = Vm (evE c ρ o) s (fun x t => Vm (recvB m x) t (fun _ u => Vm (evEs c ρ es) u (fun vs v => Vm (methB m x vs) v Q X) X) X) X := by simp only [evE, Wm_bind_o]
theorem w_isi_o {a : Ex} {ts : List Ty} : Vm (evE c ρ (.isi a ts)) s Q X = Vm (evE c ρ a) s (fun x t => match isTys t.objs x ts with | some b => Q (.bl b) t | none => False) X := by
  simp only [evE, Wm_bind_o, Wm_objsM_o]
  congr; funext x t
  cases isTys t.objs x ts <;> rfl

theorem w_es0_o {Q : List PV → Sto → Prop} : Vm (evEs c ρ []) s Q X = Q [] s := by simp only [evEs]; rfl
theorem w_es1_o {e : Ex} {es : List Ex} {Q : List PV → Sto → Prop} : Vm (evEs c ρ (e :: es)) s Q X = Vm (evE c ρ e) s (fun v t => Vm (evEs c ρ es) t (fun vs u => Q (v :: vs) u) X) X := by simp only [evEs, Wm_bind_o, Wm_pure_o]
theorem w_o0_o {Q : Option Int → Sto → Prop} : Vm (evO c ρ none) s Q X = Q none s := by simp only [evO]; rfl
theorem w_o1_o {e : Ex} {Q : Option Int → Sto → Prop} : Vm (evO c ρ (some e)) s Q X = Vm (evE c ρ e) s (fun v t => Vm (asI v) t (fun i u => Q (some i) u) X) X := by simp only [evO, Wm_bind_o, Wm_pure_o]
theorem w_ts0_o {Q : Bool → Sto → Prop} : Vm (evTs c ρ []) s Q X = Q true s := by simp only [evTs]; rfl
theorem w_ts1_o {e : Ex} {es : List Ex} {Q : Bool → Sto → Prop} : Vm (evTs c ρ (e :: es)) s Q X = Vm (evE c ρ e) s (fun v t => Vm (asB v) t (fun b u => if b = true then Vm (evTs c ρ es) u Q X else Q false u) X) X := by
  simp only [evTs, Wm_bind_o]
  congr; funext v t; congr; funext b u
  cases b <;> rfl
theorem w_any_o {e : Ex} {Q : Walk → Sto → Prop} : Vm (evIt c ρ (.any e)) s Q X = Vm (evE c ρ e) s (fun v t => Vm (walkV v) t Q X) X := by simp only [evIt, Wm_bind_o]
theorem w_rng1_o {e : Ex} {Q : Walk → Sto → Prop} : Vm (evIt c ρ (.rng1 e)) s Q X = Vm (evE c ρ e) s (fun v t => Vm (asI v) t (fun i u => Vm (rangeW 0 i) u Q X) X) X := by simp only [evIt, Wm_bind_o]
theorem w_rng2_o {a b : Ex} {Q : Walk → Sto → Prop} : Vm (evIt c ρ (.rng2 a b)) s Q X = Vm (evE c ρ a) s (fun v t => Vm (asI v) t (fun i u => Vm (evE c ρ b) u (fun w t2 => Vm (asI w) t2 (fun j t3 => Vm (rangeW i j) t3 Q X) X) X) X) X := by simp only [evIt, Wm_bind_o]
/-! targets -/
theorem w_nm_o {i : Nat} {v : PV} {Q : Env → Sto → Prop} : Vm (asgT c ρ (.nm i) v) s Q X = (i < ρ.length ∧ Q (ρ.set i (some v)) s) := by
  simp only [asgT]
  unfold setE
  cases h : Nat.blt i ρ.length with
  | true =>
    have : i < ρ.length := Nat.blt_eq.mp h
    show Q _ s = _
    simp [this]
  | false =>
    have : ¬ i < ρ.length := fun z => by rw [Nat.blt_eq.mpr z] at h; cases h
    show False = _
    simp [this]
theorem w_tp_o {ts : List Tg} {xs : List PV} {Q : Env → Sto → Prop} : Vm (asgT c ρ (.tp ts) (.tup xs)) s Q X = Vm (asgTs c ρ ts xs) s Q X := by simp only [asgT]
theorem w_tgs0_o {Q : Env → Sto → Prop} : Vm (asgTs c ρ [] []) s Q X = Q ρ s := by simp only [asgTs]; rfl
theorem w_tgs1_o {t : Tg} {ts : List Tg} {x : PV} {xs : List PV} {Q : Env → Sto → Prop} : Vm (asgTs c ρ (t :: ts) (x :: xs)) s Q X = Vm (asgT c ρ t x) s (fun ρ' u => Vm (asgTs c ρ' ts xs) u Q X) X := by simp only [asgTs, Wm_bind_o]
theorem w_tfld_o {f : Nat} {o : Ex} {v : PV} {Q : Env → Sto → Prop} : Vm (asgT c ρ (.fld f o) v) s Q X = Vm (evE c ρ o) s (fun x t => Vm (setFld x f v) t (fun _ u => Q ρ u) X) X := by simp only [asgT, Wm_bind_o, Wm_pure_o]
theorem w_tsub_o {o i : Ex} {v : PV} {Q : Env → Sto → Prop} : Vm (asgT c ρ (.sub o i) v) s Q X = Vm (evE c ρ o) s (fun x t => Vm (evE c ρ i) t (fun y u => Vm (setItem x y v) u (fun _ w => Q ρ w) X) X) X := by simp only [asgT, Wm_bind_o, Wm_pure_o]
end
section
variable {c : Ctx} {ρ : Env} {s : Sto} {Q : Flow → Env → Sto → Prop} {X : Xc → Env → Sto → Prop}
theorem s_set_o {tg : Tg} {e : Ex} : Vs (exS c (.set tg e) ρ s) Q X = Vm (evE c ρ e) s (fun v t => Vm (asgT c ρ tg v) t (fun ρ' u => Q .nx ρ' u) (fun _ _ => False)) fun x t => X x ρ t := by
  simp only [exS, Ws_andThen_o, Wm_bind_o, Wm_quiet_o]
  rfl
theorem s_aug_o {i : Nat} {o : BOp} {e : Ex} : Vs (exS c (.aug i o e) ρ s) Q X = (match ρ[i]? with | some (some x) => Vm (evE c ρ e) s (fun y t => Vm (augV o x y) t (fun z u => i < ρ.length ∧ Q .nx (ρ.set i (some z)) u) fun x t => X x ρ t) fun x t => X x ρ t | _ => False) := by
  simp only [exS, Ws_andThen_o]
  cases ρ[i]? with
  | none => rfl
  | some o2 =>
    cases o2 with
    | none => rfl
    | some x =>
      dsimp only
      rw [Wm_bind_o]
      congr; funext y t
      rw [Wm_bind_o]
      congr; funext z u
      unfold setE
      cases h : Nat.blt i ρ.length with
      | true =>
        have : i < ρ.length := Nat.blt_eq.mp h
        show Q .nx _ u = _
        simp [this]
      | false =>
        have : ¬ i < ρ.length := fun z => by rw [Nat.blt_eq.mpr z] at h; cases h
        show False = _
        simp [this]
theorem s_if_o {q : Ex} {a b : List St} : Vs (exS c (.ifs q a b) ρ s) Q X = Vm (evE c ρ q) s (fun x t => Vm (asB x) t (fun k u => if k = true then Vs (exSs c a ρ u) Q X else Vs (exSs c b ρ u) Q X) fun x t => X x ρ t) fun x t => X x ρ t := by
  simp only [exS, Ws_andThen_o, Wm_bind_o]
  congr; funext x t; congr; funext k u
  cases k <;> rfl
theorem s_ret_o {e : Ex} : Vs (exS c (.ret e) ρ s) Q X = Vm (evE c ρ e) s (fun v t => Q (.rt v) ρ t) fun x t => X x ρ t := by
  simp only [exS, Ws_andThen_o]
  rfl
theorem s_retN_o : Vs (exS c .retN ρ s) Q X = Q (.rt .non) ρ s := by simp only [exS]; rfl
theorem s_exp_o {e : Ex} : Vs (exS c (.exp e) ρ s) Q X = Vm (evE c ρ e) s (fun v t => Q .nx ρ t) fun x t => X x ρ t := by
  simp only [exS, Ws_andThen_o]
  rfl
theorem s_rse_o {k : Nat} {es : List Ex} : Vs (exS c (.rse k es) ρ s) Q X = Vm (evEs c ρ es) s (fun vs t => match c.flds.lookup k with
      | some fs => (match bindS vs (fs.map (·.2)) with
        | some ws => X ⟨k, (fs.map (·.1)).zip ws⟩ ρ t
        | none => False)
      | none => False) fun x t => X x ρ t := by
  simp only [exS, Ws_andThen_o]
  congr; funext vs t
  cases c.flds.lookup k with
  | none => rfl
  | some fs =>
    dsimp only
    cases bindS vs (fs.map (·.2)) <;> rfl
theorem s_brk_o : Vs (exS c .brk ρ s) Q X = Q .bk ρ s := by simp only [exS]; rfl
theorem s_cnt_o : Vs (exS c .cnt ρ s) Q X = Q .ct ρ s := by simp only [exS]; rfl
theorem s_pass_o : Vs (exS c .pass ρ s) Q X = Q .nx ρ s := by simp only [exS]; rfl
theorem s_for_o {tg : Tg} {it : Itr} {b : List St} : Vs (exS c (.fors tg it b) ρ s) Q X = Vm (evIt c ρ it) s (fun w t => Vs (forTurns (fun x ρ t => andThen ρ (M.quiet (asgT c ρ tg x)) (fun ρ' t => exSs c b ρ' t) t) w.items ρ { t with lk := w.held ++ t.lk }) (fun f ρ u => Q f ρ { u with lk := t.lk }) fun x ρ u => X x ρ { u with lk := t.lk }) fun x t => X x ρ t := by
  simp only [exS, Ws_andThen_o, Ws_unlock_o]
theorem s_try_o {b : List St} {hs : List Hd} : Vs (exS c (.tryE b hs) ρ s) Q X = Vs (exSs c b ρ s) Q fun x ρ' t => Vs (exH c x hs ρ' t) Q X := by
  simp only [exS]
  cases exSs c b ρ s <;> rfl
theorem s_h0_o {x : Xc} : Vs (exH c x [] ρ s) Q X = X x ρ s := by simp only [exH]; rfl
theorem s_h1_o {x : Xc} {cs : List Nat} {as_ : Option Nat} {b : List St} {r : List Hd} : Vs (exH c x (.mk cs as_ b :: r) ρ s) Q X = (match underO c x.cls cs with
    | some true => inE ρ as_ = true ∧ Vs (exSs { c with cur := some x } b (clearE ρ as_) s) (fun f ρ' t => Q f (clearE ρ' as_) t) fun _ _ _ => False
    | some false => Vs (exH c x r ρ s) Q X
    | none => False) := by
  simp only [exH]
  cases underO c x.cls cs with
  | none => rfl
  | some k =>
    cases k with
    | false => rfl
    | true =>
      dsimp only
      cases inE ρ as_ with
      | false => simp [Vs]
      | true =>
        dsimp only
        rw [eq_self, true_and]
        cases exSs { c with cur := some x } b (clearE ρ as_) s <;> rfl
/-- a turn of a for -/
theorem s_turn_o {tg : Tg} {x : PV} {b : List St} : Vs (andThen ρ (M.quiet (asgT c ρ tg x)) (fun ρ' t => exSs c b ρ' t) s) Q X = Vm (asgT c ρ tg x) s (fun ρ' t => Vs (exSs c b ρ' t) Q X) fun _ _ => False := by
  rw [Ws_andThen_o, Wm_quiet_o]
end
end TR
end

section
set_option maxRecDepth 100000
set_option maxHeartbeats 1000000
set_option autoImplicit false
/-! TL: comprehensions, operations: what they want; the tactic. -/
namespace TR
open TL
def turnF (c : Ctx) (ρ : Env) (own : List Nat) (tg : Tg) (ifs : List Ex) (e : Ex) : PV → M (Option PV) := fun x => do
  let ρ' ← asgT c (wipeE ρ own) tg x
  match ← evTs c ρ' ifs with
  | true => do return some (← evE c ρ' e)
  | false => return none
section
variable {c : Ctx} {ρ : Env} {s : Sto} {Q : PV → Sto → Prop} {X : Xc → Sto → Prop}
theorem w_lc_o {e : Ex} {own : List Nat} {tg : Tg} {it : Itr} {ifs : List Ex} : Vm (evE c ρ (.lc e (.mk own tg it ifs))) s Q X = Vm (evIt c ρ it) { s with low := s.objs.length } (fun w t => Vm (turns (turnF c ρ own tg ifs e) w.items) { t with lk := w.held ++ t.lk } (fun xs u => xs.length ≤ lineN ∧ vQ s Q (.ref u.objs.length) ⟨u.objs ++ [.list xs], u.low, t.lk⟩) fun _ _ => False) (vX s X) := by
  simp only [evE, Wm_frame_eq_o, Wm_bind_o, Wm_quiet_o, Wm_locked_o, Wm_guard_o, Wm_alloc_o, decide_eq_true_eq]
  rfl
theorem w_sc_o {e : Ex} {own : List Nat} {tg : Tg} {it : Itr} {ifs : List Ex} : Vm (evE c ρ (.sc e (.mk own tg it ifs))) s Q X = Vm (evIt c ρ it) { s with low := s.objs.length } (fun w t => Vm (turns (turnF c ρ own tg ifs e) w.items) { t with lk := w.held ++ t.lk } (fun xs u => setOk xs = true ∧ vQ s Q (.ref u.objs.length) ⟨u.objs ++ [.set (dedup xs)], u.low, t.lk⟩) fun _ _ => False) (vX s X) := by
  simp only [evE, Wm_frame_eq_o, Wm_bind_o, Wm_quiet_o, Wm_locked_o, Wm_guard_o, Wm_alloc_o]
  rfl
theorem w_turnF_o {own : List Nat} {tg : Tg} {ifs : List Ex} {e : Ex} {x : PV} {Q : Option PV → Sto → Prop} : Vm (turnF c ρ own tg ifs e x) s Q X = Vm (asgT c (wipeE ρ own) tg x) s (fun ρ' t => Vm (evTs c ρ' ifs) t (fun b u => if b = true then Vm (evE c ρ' e) u (fun v w => Q (some v) w) X else Q none u) X) X := by
  unfold turnF
  rw [Wm_bind_o]
  congr; funext ρ' t
  rw [Wm_bind_o]
  congr; funext b u
  cases b with
  | true => simp only [if_true, Wm_bind_o, Wm_pure_o]
  | false => rfl
/-- a comprehension that writes nothing -/
theorem w_map_o {γ : Type} {f : PV → M (Option PV)} (g h : γ → PV) {l : List γ} {Q : List PV → Sto → Prop} (H : ∀ a ∈ l, Vm (f (h a)) s (fun y t => y = some (g a) ∧ t = s) fun _ _ => False) (q : Q (l.map g) s) : Vm (turns f (l.map h)) s Q X := by
  rw [Wm_ok_o (turns_map fun a ha => of_Wm_o (H a ha))]
  exact q
theorem w_filt_o {γ : Type} {f : PV → M (Option PV)} (g : γ → Option PV) (h : γ → PV) {l : List γ} {Q : List PV → Sto → Prop} (H : ∀ a ∈ l, Vm (f (h a)) s (fun y t => y = g a ∧ t = s) fun _ _ => False) (q : Q (l.filterMap g) s) : Vm (turns f (l.map h)) s Q X := by
  rw [Wm_ok_o (turns_filter fun a ha => of_Wm_o (H a ha))]
  exact q
theorem turns_mapX_o {γ : Type} {f : PV → M (Option PV)} (g h : γ → PV) {O : List Ob} {lo : Nat} {lk : List Nat} : ∀ {l : List γ} {J : List Ob}, (∀ a ∈ l, ∀ J, Vm (f (h a)) ⟨O ++ J, lo, lk⟩ (fun y t => y = some (g a) ∧ ∃ J', t = ⟨O ++ J', lo, lk⟩) fun _ _ => False) → ∃ J', turns f (l.map h) ⟨O ++ J, lo, lk⟩ = .ok (l.map g) ⟨O ++ J', lo, lk⟩
  | [], J, _ => ⟨J, rfl⟩
  | a :: l, J, H => by
    have h1 := H a (List.mem_cons_self ..) J
    unfold Vm at h1
    cases e : f (h a) ⟨O ++ J, lo, lk⟩ with
    | stuck => rw [e] at h1; exact h1.elim
    | exc x t => rw [e] at h1; exact h1.elim
    | ok y t =>
      rw [e] at h1
      obtain ⟨rfl, J', rfl⟩ := h1
      obtain ⟨J2, e2⟩ := turns_mapX_o (f := f) g h (l := l) (J := J') fun b hb => H b (List.mem_cons_of_mem _ hb)
      exact ⟨J2, turns_cons e e2⟩
/-- a comprehension whose turns leave things behind -/
theorem w_mapX_o {γ : Type} {f : PV → M (Option PV)} (g h : γ → PV) {O J : List Ob} {lo : Nat} {lk : List Nat} {Q : List PV → Sto → Prop} {l : List γ} (H : ∀ a ∈ l, ∀ J, Vm (f (h a)) ⟨O ++ J, lo, lk⟩ (fun y t => y = some (g a) ∧ ∃ J', t = ⟨O ++ J', lo, lk⟩) fun _ _ => False) (q : ∀ J, Q (l.map g) ⟨O ++ J, lo, lk⟩) : Vm (turns f (l.map h)) ⟨O ++ J, lo, lk⟩ Q X := by
  obtain ⟨J', e⟩ := turns_mapX_o (J := J) g h H
  rw [Wm_ok_o e]
  exact q J'
theorem w_mapX0_o {γ : Type} {f : PV → M (Option PV)} (g h : γ → PV) {O : List Ob} {lo : Nat} {lk : List Nat} {Q : List PV → Sto → Prop} {l : List γ} (H : ∀ a ∈ l, ∀ J, Vm (f (h a)) ⟨O ++ J, lo, lk⟩ (fun y t => y = some (g a) ∧ ∃ J', t = ⟨O ++ J', lo, lk⟩) fun _ _ => False) (q : ∀ J, Q (l.map g) ⟨O ++ J, lo, lk⟩) : Vm (turns f (l.map h)) ⟨O, lo, lk⟩ Q X := by
  have := w_mapX_o (J := []) (X := X) g h H q
  rwa [List.append_nil] at this
theorem le_line {n : Nat} (h : n ≤ 4000) : (n ≤ lineN) = True := by
  simp only [eq_iff_iff, iff_true]
  unfold lineN; omega
theorem add_lt_no {n m : Nat} : (n + m < n) = False := by simp
theorem le_add_yes {n m : Nat} : (n ≤ n + m) = True := by simp
theorem w_mkI_o {k f : Nat} {ws : List PV} (h : c.inits.lookup k = some f) : Vm (mkI c k ws) s Q X = Vm (c.fn f (.ref s.objs.length :: ws)) ⟨s.objs ++ [.inst k []], s.objs.length, s.lk⟩ (fun v t => match v with | .non => vQ s Q (.ref s.objs.length) t | _ => False) (vX s X) := by
  unfold mkI
  rw [h]
  dsimp only
  rw [Wm_frame_eq_o, Wm_bind_o, Wm_alloc_o, Wm_bind_o]
  congr; funext v t
  cases v <;> rfl
theorem set_add {O L : List Ob} {k : Nat} {y : Ob} : (O ++ L).set (O.length + k) y = O ++ L.set k y := by
  rw [List.set_append_right _ _ (Nat.le_add_right _ _), Nat.add_sub_cancel_left]
theorem set_zero {O L : List Ob} {y : Ob} : (O ++ L).set O.length y = O ++ L.set 0 y := by
  rw [List.set_append_right _ _ (Nat.le_refl _), Nat.sub_self]
theorem min_addl {n m : Nat} : min (n + m) n = n := Nat.min_eq_right (Nat.le_add_right _ _)
theorem min_addr {n m : Nat} : min n (n + m) = n := Nat.min_eq_left (Nat.le_add_right _ _)
theorem nolk {lk : List Nat} {n : Nat} (h : ∀ i ∈ lk, i < n) : ∀ m, n ≤ m → lk.contains m = false := fun m hm => by
  cases e : lk.contains m with
  | false => rfl
  | true => have := h m (List.contains_iff_mem.mp e); omega
theorem add_le_no {n m : Nat} : (n + (m + 1) ≤ n) = False := by simp
theorem fx_old_o {x : Xc} {t : Sto} (h : ¬ s.objs.length ≤ t.low) : vX s X x t = X x ⟨t.objs, min s.low t.low, t.lk⟩ := by
  unfold vX
  rw [if_neg fun z => h z.1]
theorem w_runQ_o {r cl m : Nat} {args : List PV} : Vm (runQ c r cl m args) s Q X = (match lookM c.meths cl m with | some f => Vm (c.fn f (.ref r :: args)) s Q (fun _ _ => False) | none => False) := by
  unfold runQ
  rw [Wm_quiet_o]
  unfold runM
  cases lookM c.meths cl m <;> rfl
/-- the turns of a comprehension of two clauses -/
def turnF2 (c : Ctx) (ρ : Env) (own : List Nat) (tg : Tg) (ifs : List Ex) (own2 : List Nat) (tg2 : Tg) (it2 : Itr) (ifs2 : List Ex) (e : Ex) : PV → M (List PV) := fun x => do
  let ρ' ← asgT c (wipeE ρ own) tg x
  match ← evTs c ρ' ifs with
  | true => do
    let w2 ← evIt c ρ' it2
    locked w2.held (turns (turnF c ρ' own2 tg2 ifs2 e) w2.items)
  | false => return []
theorem w_lc2_o {e : Ex} {own own2 : List Nat} {tg tg2 : Tg} {it it2 : Itr} {ifs ifs2 : List Ex} : Vm (evE c ρ (.lc2 e (.mk own tg it ifs) (.mk own2 tg2 it2 ifs2))) s Q X = Vm (evIt c ρ it) { s with low := s.objs.length } (fun w t => Vm (turns2 (turnF2 c ρ own tg ifs own2 tg2 it2 ifs2 e) w.items) { t with lk := w.held ++ t.lk } (fun xs u => xs.length ≤ lineN ∧ vQ s Q (.ref u.objs.length) ⟨u.objs ++ [.list xs], u.low, t.lk⟩) fun _ _ => False) (vX s X) := by
  simp only [evE, Wm_frame_eq_o, Wm_bind_o, Wm_quiet_o, Wm_locked_o, Wm_guard_o, Wm_alloc_o, decide_eq_true_eq]
  rfl
theorem w_turns2_nil_o {f : PV → M (List PV)} {Q : List PV → Sto → Prop} : Vm (turns2 f []) s Q X = Q [] s := rfl
theorem w_turns_nil_o {f : PV → M (Option PV)} {Q : List PV → Sto → Prop} : Vm (turns f []) s Q X = Q [] s := rfl
/-! operations -/
theorem o_getOb_o {r : Nat} {Q : Ob → Sto → Prop} : Vm (getOb r) s Q X = (match s.objs[r]? with | some o => Q o s | none => False) := by
  unfold Vm getOb
  cases s.objs[r]? <;> rfl
theorem o_cmp_o {o : COp} {a b : PV} (h : o ≠ .eq ∨ (∀ r, a ≠ .ref r)) : Vm (compareV c o a b) s Q X = (match cmpV s.objs o a b with | some k => Q (.bl k) s | none => False) := by
  have e : compareV c o a b = (objsM >>= fun objs => M.opt (cmpV objs o a b) >>= fun k => pure (.bl k)) := by
    unfold compareV
    rcases h with h | h
    · cases o <;> first | rfl | exact absurd rfl h
    · cases a <;> first | (cases o <;> rfl) | exact absurd rfl (h _)
  rw [e, Wm_bind_o, Wm_objsM_o, Wm_bind_o]
  cases cmpV s.objs o a b <;> rfl
theorem w_sorted0_o {r : Nat} (h : s.objs[r]? = some (.list [])) : Vm (builtin c .sorted [.ref r]) s Q X = Q (.ref s.objs.length) { s with objs := s.objs ++ [.list []] } := by
  show Vm ((getOb r >>= _) >>= _) s Q X = _
  rw [Wm_bind_o, Wm_bind_o, o_getOb_o, h]
  rfl
/-- == of two instances of one class -/
theorem o_eqI2_o {r q cl : Nat} {fs gs : List (Nat × PV)} (h1 : s.objs[r]? = some (.inst cl fs)) (h2 : s.objs[q]? = some (.inst cl gs)) : Vm (compareV c .eq (.ref r) (.ref q)) s Q X = Vm (runQ c r cl nEq [.ref q]) s Q X := by
  have e : compareV c .eq (.ref r) (.ref q) s = runQ c r cl nEq [.ref q] s := by
    show (objsM >>= fun objs => _) s = _
    rw [bind_at (m := objsM) (a := s.objs) (t := s) rfl]
    dsimp only
    rw [h1]
    dsimp only
    rw [h2]
    dsimp only
    rw [Nat.beq_refl]
  unfold Vm
  rw [e]
theorem o_eqT_o {a b : List PV} {k : Bool} (h : eqD s.objs (.tup a) (.tup b) = some k) : Vm (compareV c .eq (.tup a) (.tup b)) s Q X = Q (.bl k) s := by
  rw [o_cmp_o (.inr fun r z => by cases z)]
  show (match eqD s.objs (.tup a) (.tup b) with | some k => Q (.bl k) s | none => False) = _
  rw [h]
theorem o_eqTm_o {a b : List PV} : Vm (compareV c .eq (.tup a) (.tup b)) s Q X = (match eqD s.objs (.tup a) (.tup b) with | some k => Q (.bl k) s | none => False) := by
  rw [o_cmp_o (.inr fun r z => by cases z)]
  rfl
theorem o_len_tup_o {xs : List PV} : Vm (builtin c .len [.tup xs]) s Q X = Q (.int xs.length) s := rfl
theorem o_len_str_o {z : List Nat} : Vm (builtin c .len [.str z]) s Q X = (z.length ≤ lineN ∧ Q (.int z.length) s) := by
  show Vm (M.guard (decide (z.length ≤ lineN)) >>= fun _ => pure (.int z.length)) s Q X = _
  rw [Wm_bind_o, Wm_guard_o, Wm_pure_o, decide_eq_true_eq]
theorem o_len_ref_o {r : Nat} {xs : List PV} (h : s.objs[r]? = some (.list xs)) : Vm (builtin c .len [.ref r]) s Q X = Q (.int xs.length) s := by
  show Vm (getOb r >>= _) s Q X = _
  rw [Wm_bind_o, Wm_getOb_o h]
  rfl
theorem o_len_set_o {r : Nat} {xs : List PV} (h : s.objs[r]? = some (.set xs)) : Vm (builtin c .len [.ref r]) s Q X = Q (.int xs.length) s := by
  show Vm (getOb r >>= _) s Q X = _
  rw [Wm_bind_o, Wm_getOb_o h]
  rfl
theorem o_len_dict_o {r : Nat} {kvs : List (PV × PV)} (h : s.objs[r]? = some (.dict kvs)) : Vm (builtin c .len [.ref r]) s Q X = Q (.int kvs.length) s := by
  show Vm (getOb r >>= _) s Q X = _
  rw [Wm_bind_o, Wm_getOb_o h]
  rfl
theorem o_all_o {γ : Type} {r : Nat} {p : γ → Bool} {l : List γ} (h : s.objs[r]? = some (.list (l.map fun a => .bl (p a)))) : Vm (builtin c .all [.ref r]) s Q X = Q (.bl (l.all p)) s := by
  show Vm ((getOb r >>= _) >>= _) s Q X = _
  rw [Wm_bind_o, Wm_bind_o, Wm_getOb_o h]
  show Vm (M.opt (boolsB true (l.map fun a => .bl (p a))) >>= _) s Q X = _
  rw [Wm_bind_o, boolsB_all]
  rfl
theorem o_any_o {γ : Type} {r : Nat} {p : γ → Bool} {l : List γ} (h : s.objs[r]? = some (.list (l.map fun a => .bl (p a)))) : Vm (builtin c .any [.ref r]) s Q X = Q (.bl (l.any p)) s := by
  show Vm ((getOb r >>= _) >>= _) s Q X = _
  rw [Wm_bind_o, Wm_bind_o, Wm_getOb_o h]
  show Vm (M.opt (boolsB false (l.map fun a => .bl (p a))) >>= _) s Q X = _
  rw [Wm_bind_o, boolsB_any]
  rfl
theorem o_walk_tup_o {xs : List PV} {Q : Walk → Sto → Prop} : Vm (walkV (.tup xs)) s Q X = Q ⟨xs, []⟩ s := rfl
theorem o_walk_str_o {z : List Nat} {Q : Walk → Sto → Prop} : Vm (walkV (.str z)) s Q X = Q ⟨z.map fun c => .str [c], []⟩ s := rfl
theorem o_walk_ref_o {r : Nat} {xs : List PV} {Q : Walk → Sto → Prop} (h : s.objs[r]? = some (.list xs)) : Vm (walkV (.ref r)) s Q X = Q ⟨xs, [r]⟩ s := by
  show Vm (getOb r >>= _) s Q X = _
  rw [Wm_bind_o, Wm_getOb_o h]
  rfl
/-! frames' ends -/
theorem fr_bl_o {b : Bool} {t : Sto} (h : s.objs.length ≤ t.low) : vQ s Q (.bl b) t = Q (.bl b) ⟨s.objs, s.low, t.lk⟩ := by unfold vQ; rw [if_pos h]; rfl
theorem fr_int_o {b : Int} {t : Sto} (h : s.objs.length ≤ t.low) : vQ s Q (.int b) t = Q (.int b) ⟨s.objs, s.low, t.lk⟩ := by unfold vQ; rw [if_pos h]; rfl
theorem fr_str_o {b : List Nat} {t : Sto} (h : s.objs.length ≤ t.low) : vQ s Q (.str b) t = Q (.str b) ⟨s.objs, s.low, t.lk⟩ := by unfold vQ; rw [if_pos h]; rfl
theorem fr_non_o {t : Sto} (h : s.objs.length ≤ t.low) : vQ s Q .non t = Q .non ⟨s.objs, s.low, t.lk⟩ := by unfold vQ; rw [if_pos h]; rfl
theorem fr_tup_o {b : List PV} {t : Sto} (h : s.objs.length ≤ t.low) (hb : belows s.objs.length b = true) : vQ s Q (.tup b) t = Q (.tup b) ⟨s.objs, s.low, t.lk⟩ := by unfold vQ; rw [if_pos h, if_pos (by simpa [below] using hb)]
theorem fr_new_o {r : Nat} {o : Ob} {t : Sto} (h : s.objs.length ≤ t.low) (hr : s.objs.length ≤ r) (ho : t.objs[r]? = some o) (hb : belowO s.objs.length o = true) : vQ s Q (.ref r) t = Q (.ref s.objs.length) ⟨s.objs ++ [o], s.low, t.lk⟩ := by
  unfold vQ
  rw [if_pos h, if_neg]
  · dsimp only
    rw [ho]
    dsimp only
    rw [if_pos hb]
  · show ¬ Nat.blt r s.objs.length = true
    intro z
    have := Nat.le_of_ble_eq_true z
    omega
theorem belows_map_str {n : Nat} {γ : Type} {g : γ → List Nat} : ∀ {l : List γ}, belows n (l.map fun a => .str (g a)) = true
  | [] => rfl
  | a :: l => by simp only [List.map_cons, belows, below, Bool.true_and]; exact belows_map_str
theorem belows_map_int {n : Nat} {γ : Type} {g : γ → Int} : ∀ {l : List γ}, belows n (l.map fun a => .int (g a)) = true
  | [] => rfl
  | a :: l => by simp only [List.map_cons, belows, below, Bool.true_and]; exact belows_map_int
theorem belows_map_bl {n : Nat} {γ : Type} {g : γ → Bool} : ∀ {l : List γ}, belows n (l.map fun a => .bl (g a)) = true
  | [] => rfl
  | a :: l => by simp only [List.map_cons, belows, below, Bool.true_and]; exact belows_map_bl
theorem at_end {L : List Ob} {o : Ob} : (L ++ [o])[L.length]? = some o := by simp
theorem o_lt_o {i j : Int} : Vm (compareV c .lt (.int i) (.int j)) s Q X = Q (.bl (decide (i < j))) s := rfl
theorem o_gt_o {i j : Int} : Vm (compareV c .gt (.int i) (.int j)) s Q X = Q (.bl (decide (j < i))) s := rfl
theorem o_le_o {i j : Int} : Vm (compareV c .le (.int i) (.int j)) s Q X = Q (.bl (decide (i ≤ j))) s := by
  show Q (.bl (!decide (j < i))) s = _
  congr 2
  by_cases h : j < i
  · have : ¬ i ≤ j := by omega
    simp [h, this]
  · have : i ≤ j := by omega
    simp [h, this]
theorem o_ge_o {i j : Int} : Vm (compareV c .ge (.int i) (.int j)) s Q X = Q (.bl (decide (j ≤ i))) s := by
  show Q (.bl (!decide (i < j))) s = _
  congr 2
  by_cases h : i < j
  · have : ¬ j ≤ i := by omega
    simp [h, this]
  · have : j ≤ i := by omega
    simp [h, this]
theorem o_eqI_o {i j : Int} : Vm (compareV c .eq (.int i) (.int j)) s Q X = Q (.bl (decide (i = j))) s := rfl
theorem o_neI_o {i j : Int} : Vm (compareV c .ne (.int i) (.int j)) s Q X = Q (.bl (!decide (i = j))) s := rfl
theorem o_eqS_o {i j : List Nat} : Vm (compareV c .eq (.str i) (.str j)) s Q X = Q (.bl (decide (i = j))) s := rfl
theorem o_neS_o {i j : List Nat} : Vm (compareV c .ne (.str i) (.str j)) s Q X = Q (.bl (!decide (i = j))) s := rfl
theorem o_eqB_o {i j : Bool} : Vm (compareV c .eq (.bl i) (.bl j)) s Q X = Q (.bl (i == j)) s := rfl
theorem o_neB_o {i j : Bool} : Vm (compareV c .ne (.bl i) (.bl j)) s Q X = Q (.bl (!(i == j))) s := rfl
theorem o_isN_o {a : PV} : Vm (compareV c .is a .non) s Q X = Q (.bl (match a with | .non => true | _ => false)) s := by cases a <;> rfl
theorem o_isNotN_o {a : PV} : Vm (compareV c .isNot a .non) s Q X = Q (.bl (match a with | .non => false | _ => true)) s := by cases a <;> rfl
theorem o_inS_o {z : Nat} {t : List Nat} : Vm (compareV c .isIn (.str [z]) (.str t)) s Q X = Q (.bl (decide (z ∈ t))) s := rfl
theorem o_fn {p : Prog} {f : Nat → List PV → M PV} : (p.ctx f).fn = f := rfl
theorem o_globs {p : Prog} {f : Nat → List PV → M PV} : (p.ctx f).globs = p.globs := rfl
theorem o_flds {p : Prog} {f : Nat → List PV → M PV} : (p.ctx f).flds = p.flds := rfl
theorem o_meths {p : Prog} {f : Nat → List PV → M PV} : (p.ctx f).meths = p.meths := rfl
/-- a def is run -/
theorem call_run_o {p : Prog} {k f : Nat} {d : Df} {vs : List PV} {Q : PV → Sto → Prop} (e : p.defs[f]? = some d) (hl : vs.length = d.nps) (h : Vs (exSs (p.ctx (callK p k)) d.body (startE d vs) { s with low := s.objs.length }) (fun g _ t => match g with
    | .rt v => vQ s Q v t
    | .nx => vQ s Q .non t
    | _ => False) fun x _ t => vX s X x t) : Vm (callK p (k + 1) f vs) s Q X := by
  unfold callK
  rw [e, hl]
  dsimp only
  rw [Nat.beq_refl]
  dsimp only
  exact Eq.mpr (Wm_frame_eq_o (s := s) (Q := Q) (X := X) (m := fun s => endM (exSs (p.ctx (callK p k)) d.body (startE d vs) s))) (Wm_body_o h)
theorem fr_list_o {O : List Ob} {lo : Nat} {lk lk' : List Nat} {xs : List PV} (hb : belows O.length xs = true) : vQ ⟨O, lo, lk⟩ Q (.ref O.length) ⟨O ++ [.list xs], O.length, lk'⟩ = Q (.ref O.length) ⟨O ++ [.list xs], lo, lk'⟩ :=
  fr_new_o (s := ⟨O, lo, lk⟩) (Nat.le_refl _) (Nat.le_refl _) at_end hb
theorem fr_set_o {O : List Ob} {lo : Nat} {lk lk' : List Nat} {xs : List PV} : vQ ⟨O, lo, lk⟩ Q (.ref O.length) ⟨O ++ [.set xs], O.length, lk'⟩ = Q (.ref O.length) ⟨O ++ [.set xs], lo, lk'⟩ :=
  fr_new_o (s := ⟨O, lo, lk⟩) (Nat.le_refl _) (Nat.le_refl _) at_end rfl
/-- all([..]), any([..]) of a comprehension that writes nothing -/
theorem k_all_o {γ : Type} {F : PV → M (Option PV)} {h : γ → PV} (p : γ → Bool) {l : List γ} {O : List Ob} {lo : Nat} {lk lk0 lk1 : List Nat} {S2 : Sto} {Q2 : PV → Sto → Prop} {X2 X3 : Xc → Sto → Prop} (H : ∀ a ∈ l, Vm (F (h a)) ⟨O, O.length, lk⟩ (fun y t => y = some (.bl (p a)) ∧ t = ⟨O, O.length, lk⟩) fun _ _ => False)
    (hl : l.length ≤ lineN) (q : vQ S2 Q2 (.bl (l.all p)) ⟨O ++ [.list (l.map fun a => .bl (p a))], lo, lk0⟩) :
    Vm (turns F (l.map h)) ⟨O, O.length, lk⟩ (fun xs u => xs.length ≤ lineN ∧ vQ ⟨O, lo, lk1⟩ (fun v t => Vm (builtin c .all [v]) t (vQ S2 Q2) X2) (.ref u.objs.length) ⟨u.objs ++ [.list xs], u.low, lk0⟩) X3 := by
  refine w_map_o (fun a => .bl (p a)) h H ⟨by rw [List.length_map]; exact hl, ?_⟩
  dsimp only
  rw [fr_list_o belows_map_bl, o_all_o at_end]
  exact q
theorem k_any_o {γ : Type} {F : PV → M (Option PV)} {h : γ → PV} (p : γ → Bool) {l : List γ} {O : List Ob} {lo : Nat} {lk lk0 lk1 : List Nat} {S2 : Sto} {Q2 : PV → Sto → Prop} {X2 X3 : Xc → Sto → Prop} (H : ∀ a ∈ l, Vm (F (h a)) ⟨O, O.length, lk⟩ (fun y t => y = some (.bl (p a)) ∧ t = ⟨O, O.length, lk⟩) fun _ _ => False)
    (hl : l.length ≤ lineN) (q : vQ S2 Q2 (.bl (l.any p)) ⟨O ++ [.list (l.map fun a => .bl (p a))], lo, lk0⟩) :
    Vm (turns F (l.map h)) ⟨O, O.length, lk⟩ (fun xs u => xs.length ≤ lineN ∧ vQ ⟨O, lo, lk1⟩ (fun v t => Vm (builtin c .any [v]) t (vQ S2 Q2) X2) (.ref u.objs.length) ⟨u.objs ++ [.list xs], u.low, lk0⟩) X3 := by
  refine w_map_o (fun a => .bl (p a)) h H ⟨by rw [List.length_map]; exact hl, ?_⟩
  dsimp only
  rw [fr_list_o belows_map_bl, o_any_o at_end]
  exact q
theorem w_for_o {γ : Type} {f : PV → Env → Sto → SRes} {h : γ → PV} (J : List γ → Env → Sto → Prop) {Q : Flow → Env → Sto → Prop} {X : Xc → Env → Sto → Prop} (step : ∀ x l ρ s, J (x :: l) ρ s → Vs (f (h x) ρ s) (fun k ρ' t => match k with
    | .nx => J l ρ' t
    | .ct => J l ρ' t
    | .bk => Q .nx ρ' t
    | .rt v => Q (.rt v) ρ' t) X) (fin : ∀ ρ s, J [] ρ s → Q .nx ρ s) {l : List γ} {ρ : Env} {s : Sto} (hJ : J l ρ s) : Vs (forTurns f (l.map h) ρ s) Q X := by
  refine Ws_for_o (fun xs ρ s => ∃ l, xs = l.map h ∧ J l ρ s) (fun x xs ρ s ⟨l, e, j⟩ => ?_) (fun ρ s ⟨l, e, j⟩ => ?_) _ _ _ ⟨l, rfl, hJ⟩
  · cases l with
    | nil => cases e
    | cons a l =>
      rw [List.map_cons] at e
      cases e
      refine (step a l ρ s j).mono (fun k ρ' t q => ?_) fun _ _ _ z => z
      cases k with
      | nx => exact ⟨l, rfl, q⟩
      | ct => exact ⟨l, rfl, q⟩
      | bk => exact q
      | rt v => exact q
  · cases l with
    | nil => exact fin ρ s j
    | cons a l => cases e
theorem log2_lt {i : Int} {k : Nat} (h0 : 0 < k) (h : i.natAbs < 2 ^ k) : i.natAbs.log2 < k := by
  by_cases hz : i.natAbs = 0
  · rw [hz, Nat.log2_zero]; exact h0
  · exact (Nat.log2_lt hz).mpr h
/-! things of the store, by what stands at their places -/
theorem m_walk_o {r : Nat} {Q : Walk → Sto → Prop} : Vm (walkV (.ref r)) s Q X = (match s.objs[r]? with
    | some (.list xs) => Q ⟨xs, [r]⟩ s
    | some (.dict kvs) => Q ⟨kvs.map (·.1), [r]⟩ s
    | _ => False) := by
  show Vm (getOb r >>= _) s Q X = _
  rw [Wm_bind_o, o_getOb_o]
  cases s.objs[r]? with
  | none => rfl
  | some o => cases o <;> rfl
theorem m_len_o {r : Nat} : Vm (builtin c .len [.ref r]) s Q X = (match s.objs[r]? with
    | some (.list xs) => Q (.int xs.length) s
    | some (.dict kvs) => Q (.int kvs.length) s
    | some (.set xs) => Q (.int xs.length) s
    | some (.inst cl _) => Vm (runQ c r cl nLen []) s (fun v t => match v with
      | .int i => decide (0 ≤ i) = true ∧ decide (i < 4611686018427387904) = true ∧ Q (.int i) t
      | _ => False) X
    | none => False) := by
  show Vm (getOb r >>= _) s Q X = _
  rw [Wm_bind_o, o_getOb_o]
  cases s.objs[r]? with
  | none => rfl
  | some o =>
    cases o with
    | inst cl fs =>
      dsimp only
      rw [Wm_bind_o]
      congr; funext v t
      cases v <;> first | rfl | skip
      show Vm (M.guard _ >>= _) t Q X = _
      rw [Wm_bind_o, Wm_guard_o, Wm_pure_o, Bool.and_eq_true, and_assoc]
    | _ => rfl
theorem m_fld_o {r f : Nat} : Vm (getFld (.ref r) f) s Q X = (match s.objs[r]? with
    | some (.inst _ fs) => (match lookF fs f with | some v => Q v s | none => False)
    | _ => False) := by
  show Vm (getOb r >>= _) s Q X = _
  rw [Wm_bind_o, o_getOb_o]
  cases s.objs[r]? with
  | none => rfl
  | some o =>
    cases o with
    | inst cl fs => dsimp only; cases lookF fs f <;> rfl
    | _ => rfl
theorem m_setF_o {r f : Nat} {v : PV} {Q : Unit → Sto → Prop} : Vm (setFld (.ref r) f v) s Q X = (match s.objs[r]? with
    | some (.inst cl fs) => fs.length < 100 ∧ s.lk.contains r = false ∧ Q () ⟨s.objs.set r (.inst cl (storeF fs f v)), min s.low r, s.lk⟩
    | _ => False) := by
  show Vm (getOb r >>= _) s Q X = _
  rw [Wm_bind_o, o_getOb_o]
  cases s.objs[r]? with
  | none => rfl
  | some o =>
    cases o with
    | inst cl fs =>
      show Vm (M.guard _ >>= fun _ => putOb r (.inst cl (storeF fs f v))) s Q X = _
      rw [Wm_bind_o, Wm_guard_o, Wm_putOb_o, decide_eq_true_eq]
    | _ => rfl
theorem m_item_o {r : Nat} {j : Int} : Vm (getItem (.ref r) (.int j)) s Q X = (match s.objs[r]? with
    | some (.list xs) => (match atO xs j with | some v => Q v s | none => False)
    | some (.dict kvs) => keyOk kvs (.int j) = true ∧ (match lookD kvs (.int j) with | some v => Q v s | none => False)
    | _ => False) := by
  show Vm (getOb r >>= _) s Q X = _
  rw [Wm_bind_o, o_getOb_o]
  cases s.objs[r]? with
  | none => rfl
  | some o =>
    cases o with
    | list xs => dsimp only; cases atO xs j <;> rfl
    | dict kvs =>
      show Vm (M.guard _ >>= fun _ => M.opt (lookD kvs (.int j))) s Q X = _
      rw [Wm_bind_o, Wm_guard_o]
      dsimp only
      cases lookD kvs (.int j) <;> rfl
    | _ => rfl
theorem t_item_o {xs : List PV} {j : Int} : Vm (getItem (.tup xs) (.int j)) s Q X = (match atO xs j with | some v => Q v s | none => False) := by
  show Vm (M.opt (atO xs j)) s Q X = _
  cases atO xs j <;> rfl
theorem s_item_o {z : List Nat} {j : Int} : Vm (getItem (.str z) (.int j)) s Q X = (z.length ≤ lineN ∧ (match atO z j with | some v => Q (.str [v]) s | none => False)) := by
  show Vm (M.guard _ >>= fun _ => M.opt (atO z j) >>= fun v => pure (.str [v])) s Q X = _
  rw [Wm_bind_o, Wm_guard_o, Wm_bind_o, decide_eq_true_eq]
  cases atO z j <;> rfl
theorem m_slice_o {r : Nat} {lo hi : Option Int} : Vm (sliceV (.ref r) lo hi) s Q X = (match s.objs[r]? with
    | some (.list xs) => Q (.ref s.objs.length) { s with objs := s.objs ++ [.list (cutL xs lo hi)] }
    | _ => False) := by
  show Vm (getOb r >>= _) s Q X = _
  rw [Wm_bind_o, o_getOb_o]
  cases s.objs[r]? with
  | none => rfl
  | some o => cases o <;> rfl
theorem t_slice_o {xs : List PV} {lo hi : Option Int} : Vm (sliceV (.tup xs) lo hi) s Q X = Q (.tup (cutL xs lo hi)) s := rfl
theorem s_slice_o {z : List Nat} {lo hi : Option Int} : Vm (sliceV (.str z) lo hi) s Q X = (z.length ≤ lineN ∧ Q (.str (cutL z lo hi)) s) := by
  show Vm (M.guard _ >>= fun _ => pure (.str (cutL z lo hi))) s Q X = _
  rw [Wm_bind_o, Wm_guard_o, Wm_pure_o, decide_eq_true_eq]
theorem m_append_o {r : Nat} {v : PV} : Vm (methB .append (.ref r) [v]) s Q X = (match s.objs[r]? with
    | some (.list xs) => xs.length < lineN ∧ s.lk.contains r = false ∧ Q .non ⟨s.objs.set r (.list (xs ++ [v])), min s.low r, s.lk⟩
    | _ => False) := by
  show Vm (getOb r >>= _) s Q X = _
  rw [Wm_bind_o, o_getOb_o]
  cases s.objs[r]? with
  | none => rfl
  | some o =>
    cases o with
    | list xs =>
      show Vm (M.guard _ >>= fun _ => putOb r (.list (xs ++ [v])) >>= fun _ => pure .non) s Q X = _
      rw [Wm_bind_o, Wm_guard_o, Wm_bind_o, Wm_putOb_o, decide_eq_true_eq]
      rfl
    | _ => rfl
theorem m_recv_o {r : Nat} {Q : Unit → Sto → Prop} : Vm (recvB .append (.ref r)) s Q X = (match s.objs[r]? with
    | some (.list _) => Q () s
    | _ => False) := by
  show Vm (getOb r >>= _) s Q X = _
  rw [Wm_bind_o, o_getOb_o]
  cases s.objs[r]? with
  | none => rfl
  | some o => cases o <;> rfl
theorem m_list_o {r : Nat} : Vm (builtin c .list [.ref r]) s Q X = (match s.objs[r]? with
    | some (.list xs) => Q (.ref s.objs.length) { s with objs := s.objs ++ [.list xs] }
    | some (.dict kvs) => Q (.ref s.objs.length) { s with objs := s.objs ++ [.list (kvs.map (·.1))] }
    | _ => False) := by
  show Vm ((getOb r >>= _) >>= _) s Q X = _
  rw [Wm_bind_o, Wm_bind_o, o_getOb_o]
  cases s.objs[r]? with
  | none => rfl
  | some o => cases o <;> rfl
theorem t_list_o {xs : List PV} : Vm (builtin c .list [.tup xs]) s Q X = Q (.ref s.objs.length) { s with objs := s.objs ++ [.list xs] } := rfl
theorem m_tuple_o {r : Nat} : Vm (builtin c .tuple [.ref r]) s Q X = (match s.objs[r]? with
    | some (.list xs) => Q (.tup xs) s
    | _ => False) := by
  show Vm ((getOb r >>= _) >>= _) s Q X = _
  rw [Wm_bind_o, Wm_bind_o, o_getOb_o]
  cases s.objs[r]? with
  | none => rfl
  | some o => cases o <;> rfl
theorem t_tuple_o {xs : List PV} : Vm (builtin c .tuple [.tup xs]) s Q X = Q (.tup xs) s := rfl
theorem m_set_o {r : Nat} : Vm (builtin c .set [.ref r]) s Q X = (match s.objs[r]? with
    | some (.list xs) => setOk xs = true ∧ Q (.ref s.objs.length) { s with objs := s.objs ++ [.set (dedup xs)] }
    | _ => False) := by
  show Vm ((getOb r >>= _) >>= _) s Q X = _
  rw [Wm_bind_o, Wm_bind_o, o_getOb_o]
  cases s.objs[r]? with
  | none => rfl
  | some o =>
    cases o with
    | list xs =>
      show Vm (M.guard _ >>= fun _ => alloc (.set (dedup xs))) s Q X = _
      rw [Wm_bind_o, Wm_guard_o, Wm_alloc_o]
    | _ => rfl
theorem m_meth_o {r m : Nat} {Q : Nat → Sto → Prop} : Vm (methM c (.ref r) m) s Q X = (match s.objs[r]? with
    | some (.inst cl fs) => (lookF fs m).isNone = true ∧ (match lookM c.meths cl m with | some f => Q f s | none => False)
    | _ => False) := by
  show Vm (getOb r >>= _) s Q X = _
  rw [Wm_bind_o, o_getOb_o]
  cases s.objs[r]? with
  | none => rfl
  | some o =>
    cases o with
    | inst cl fs =>
      show Vm (M.guard _ >>= fun _ => M.opt (lookM c.meths cl m)) s Q X = _
      rw [Wm_bind_o, Wm_guard_o]
      dsimp only
      cases lookM c.meths cl m <;> rfl
    | _ => rfl
theorem m_all_o {r : Nat} : Vm (builtin c .all [.ref r]) s Q X = (match s.objs[r]? with
    | some (.list xs) => (match boolsB true xs with | some b => Q (.bl b) s | none => False)
    | _ => False) := by
  show Vm ((getOb r >>= _) >>= _) s Q X = _
  rw [Wm_bind_o, Wm_bind_o, o_getOb_o]
  cases s.objs[r]? with
  | none => rfl
  | some o =>
    cases o with
    | list xs =>
      show Vm (M.opt (boolsB true xs) >>= _) s Q X = _
      rw [Wm_bind_o]
      dsimp only
      cases boolsB true xs <;> rfl
    | _ => rfl
theorem m_any_o {r : Nat} : Vm (builtin c .any [.ref r]) s Q X = (match s.objs[r]? with
    | some (.list xs) => (match boolsB false xs with | some b => Q (.bl b) s | none => False)
    | _ => False) := by
  show Vm ((getOb r >>= _) >>= _) s Q X = _
  rw [Wm_bind_o, Wm_bind_o, o_getOb_o]
  cases s.objs[r]? with
  | none => rfl
  | some o =>
    cases o with
    | list xs =>
      show Vm (M.opt (boolsB false xs) >>= _) s Q X = _
      rw [Wm_bind_o]
      dsimp only
      cases boolsB false xs <;> rfl
    | _ => rfl
theorem m_sum_o {r : Nat} : Vm (builtin c .sum [.ref r]) s Q X = (match s.objs[r]? with
    | some (.list xs) => (match sumI xs with | some b => Q (.int b) s | none => False)
    | _ => False) := by
  show Vm ((getOb r >>= _) >>= _) s Q X = _
  rw [Wm_bind_o, Wm_bind_o, o_getOb_o]
  cases s.objs[r]? with
  | none => rfl
  | some o =>
    cases o with
    | list xs =>
      show Vm (M.opt (sumI xs) >>= _) s Q X = _
      rw [Wm_bind_o]
      dsimp only
      cases sumI xs <;> rfl
    | _ => rfl
theorem o_abs_o {i : Int} : Vm (builtin c .abs [.int i]) s Q X = Q (.int (if i < 0 then -i else i)) s := rfl
theorem b_add_o {i j : Int} : Vm (binop .add (.int i) (.int j)) s Q X = Q (.int (i + j)) s := rfl
theorem b_sub_o {i j : Int} : Vm (binop .sub (.int i) (.int j)) s Q X = Q (.int (i - j)) s := rfl
theorem b_mul_o {i j : Int} : Vm (binop .mul (.int i) (.int j)) s Q X = (i.natAbs.log2 + j.natAbs.log2 < 1000000 ∧ Q (.int (i * j)) s) := by
  show Vm (M.opt (if i.natAbs.log2 + j.natAbs.log2 < 1000000 then some (i * j) else none) >>= fun k => pure (.int k)) s Q X = _
  rw [Wm_bind_o]
  split <;> rename_i h <;> simp [h, Vm, M.opt, M.ret, M.stop, pure]
theorem b_mod_o {i j : Int} : Vm (binop .mod (.int i) (.int j)) s Q X = (j ≠ 0 ∧ Q (.int (i.fmod j)) s) := by
  show Vm (M.opt (if j = 0 then none else some (i.fmod j)) >>= fun k => pure (.int k)) s Q X = _
  rw [Wm_bind_o]
  split <;> rename_i h <;> simp [h, Vm, M.opt, M.ret, M.stop, pure]
theorem b_fdiv_o {i j : Int} : Vm (binop .fdiv (.int i) (.int j)) s Q X = (j ≠ 0 ∧ j.natAbs.log2 < 9000 ∧ Q (.int (i.fdiv j)) s) := by
  show Vm (M.opt (if j = 0 then none else if j.natAbs.log2 < 9000 then some (i.fdiv j) else none) >>= fun k => pure (.int k)) s Q X = _
  rw [Wm_bind_o]
  split <;> rename_i h
  · simp [h, Vm, M.opt, M.ret, M.stop, pure]
  · split <;> rename_i h2 <;> simp [h, h2, Vm, M.opt, M.ret, M.stop, pure]
theorem b_addS_o {x y : List Nat} : Vm (binop .add (.str x) (.str y)) s Q X = (x.length + y.length ≤ lineN ∧ Q (.str (x ++ y)) s) := by
  show Vm (M.guard _ >>= fun _ => pure (.str (x ++ y))) s Q X = _
  rw [Wm_bind_o, Wm_guard_o, Wm_pure_o, decide_eq_true_eq]
theorem b_addT_o {x y : List PV} : Vm (binop .add (.tup x) (.tup y)) s Q X = (x.length + y.length ≤ lineN ∧ Q (.tup (x ++ y)) s) := by
  show Vm (M.guard _ >>= fun _ => pure (.tup (x ++ y))) s Q X = _
  rw [Wm_bind_o, Wm_guard_o, Wm_pure_o, decide_eq_true_eq]
theorem b_addL_o {r q : Nat} : Vm (binop .add (.ref r) (.ref q)) s Q X = (match s.objs[r]? with
    | some (.list x) => (match s.objs[q]? with
      | some (.list y) => x.length + y.length ≤ lineN ∧ Q (.ref s.objs.length) { s with objs := s.objs ++ [.list (x ++ y)] }
      | _ => False)
    | _ => False) := by
  show Vm (getOb r >>= fun o => getOb q >>= fun o2 => match o, o2 with
    | .list x, .list y => M.guard (decide (x.length + y.length ≤ lineN)) >>= fun _ => alloc (.list (x ++ y))
    | _, _ => M.stop) s Q X = _
  rw [Wm_bind_o, o_getOb_o]
  cases s.objs[r]? with
  | none => rfl
  | some o =>
    dsimp only
    rw [Wm_bind_o, o_getOb_o]
    cases s.objs[q]? with
    | none => cases o <;> rfl
    | some o2 =>
      cases o <;> cases o2 <;> first | rfl | skip
      dsimp only
      rw [Wm_bind_o, Wm_guard_o, Wm_alloc_o, decide_eq_true_eq]
theorem at_old {O L : List Ob} {r : Nat} {o : Ob} (h : O[r]? = some o) : (O ++ L)[r]? = some o := by
  rw [List.getElem?_append_left (List.getElem?_eq_some_iff.mp h).1]
  exact h
theorem m_augI_o {o : BOp} {i j : Int} (h : o = .add ∨ o = .sub ∨ o = .mul) : Vm (augV o (.int i) (.int j)) s Q X = Vm (binop o (.int i) (.int j)) s Q X := by
  rcases h with rfl | rfl | rfl <;> rfl
theorem m_aadd_o {i j : Int} : Vm (augV .add (.int i) (.int j)) s Q X = Q (.int (i + j)) s := rfl
theorem m_asub_o {i j : Int} : Vm (augV .sub (.int i) (.int j)) s Q X = Q (.int (i - j)) s := rfl
theorem m_amul_o {i j : Int} : Vm (augV .mul (.int i) (.int j)) s Q X = (i.natAbs.log2 + j.natAbs.log2 < 1000000 ∧ Q (.int (i * j)) s) := b_mul_o
/-- behind a frame: an exception that holds nothing of it -/
theorem fx_new_o {x : Xc} {t : Sto} (h : s.objs.length ≤ t.low) (hb : (x.fs.all fun p => below s.objs.length p.2) = true) : vX s X x t = X x ⟨s.objs, s.low, t.lk⟩ := by
  unfold vX
  rw [if_pos ⟨h, hb⟩]
theorem fr_ref_o {r : Nat} {t : Sto} : vQ s Q (.ref r) t = (if s.objs.length ≤ t.low then (if r < s.objs.length then Q (.ref r) ⟨s.objs, s.low, t.lk⟩ else match t.objs[r]? with
      | some o => if belowO s.objs.length o = true then Q (.ref s.objs.length) ⟨s.objs ++ [o], s.low, t.lk⟩ else Q (.ref r) ⟨t.objs, s.low, t.lk⟩
      | none => False) else Q (.ref r) ⟨t.objs, min s.low t.low, t.lk⟩) := by
  unfold vQ
  by_cases h1 : s.objs.length ≤ t.low
  · rw [if_pos h1, if_pos h1]
    by_cases h2 : r < s.objs.length
    · rw [if_pos h2, if_pos (show below s.objs.length (.ref r) = true from Nat.ble_eq_true_of_le h2)]
    · rw [if_neg h2, if_neg fun z : below s.objs.length (.ref r) = true => h2 (Nat.le_of_ble_eq_true z)]
      try rfl
  · rw [if_neg h1, if_neg h1]
theorem fr_new'_o {r : Nat} {t : Sto} (h1 : s.objs.length ≤ t.low) (h2 : s.objs.length ≤ r) : vQ s Q (.ref r) t = (match t.objs[r]? with
      | some o => if belowO s.objs.length o = true then Q (.ref s.objs.length) ⟨s.objs ++ [o], s.low, t.lk⟩ else Q (.ref r) ⟨t.objs, s.low, t.lk⟩
      | none => False) := by rw [fr_ref_o, if_pos h1, if_neg (by omega)]
theorem fr_blQ_o {b : Bool} {t : Sto} : vQ s Q (.bl b) t = (if s.objs.length ≤ t.low then Q (.bl b) ⟨s.objs, s.low, t.lk⟩ else Q (.bl b) ⟨t.objs, min s.low t.low, t.lk⟩) := by
  unfold vQ
  by_cases h1 : s.objs.length ≤ t.low
  · rw [if_pos h1, if_pos h1]; rfl
  · rw [if_neg h1, if_neg h1]
theorem fr_intQ_o {b : Int} {t : Sto} : vQ s Q (.int b) t = (if s.objs.length ≤ t.low then Q (.int b) ⟨s.objs, s.low, t.lk⟩ else Q (.int b) ⟨t.objs, min s.low t.low, t.lk⟩) := by
  unfold vQ
  by_cases h1 : s.objs.length ≤ t.low
  · rw [if_pos h1, if_pos h1]; rfl
  · rw [if_neg h1, if_neg h1]
theorem fr_strQ_o {b : List Nat} {t : Sto} : vQ s Q (.str b) t = (if s.objs.length ≤ t.low then Q (.str b) ⟨s.objs, s.low, t.lk⟩ else Q (.str b) ⟨t.objs, min s.low t.low, t.lk⟩) := by
  unfold vQ
  by_cases h1 : s.objs.length ≤ t.low
  · rw [if_pos h1, if_pos h1]; rfl
  · rw [if_neg h1, if_neg h1]
theorem fr_nonQ_o  {t : Sto} : vQ s Q (.non) t = (if s.objs.length ≤ t.low then Q (.non) ⟨s.objs, s.low, t.lk⟩ else Q (.non) ⟨t.objs, min s.low t.low, t.lk⟩) := by
  unfold vQ
  by_cases h1 : s.objs.length ≤ t.low
  · rw [if_pos h1, if_pos h1]; rfl
  · rw [if_neg h1, if_neg h1]
theorem fr_tupQ_o {xs : List PV} {t : Sto} : vQ s Q (.tup xs) t = (if s.objs.length ≤ t.low then (if belows s.objs.length xs = true then Q (.tup xs) ⟨s.objs, s.low, t.lk⟩ else Q (.tup xs) ⟨t.objs, s.low, t.lk⟩) else Q (.tup xs) ⟨t.objs, min s.low t.low, t.lk⟩) := by
  unfold vQ
  congr 1
theorem belows_str {n : Nat} : ∀ {l : List (List Nat)}, belows n (l.map PV.str) = true := belows_map_str
theorem belows_int {n : Nat} : ∀ {l : List Int}, belows n (l.map PV.int) = true := belows_map_int
theorem bO_list {n : Nat} {xs : List PV} : belowO n (.list xs) = belows n xs := rfl
theorem bO_set {n : Nat} {xs : List PV} : belowO n (.set xs) = true := rfl
theorem bO_inst {n cl : Nat} {fs : List (Nat × PV)} : belowO n (.inst cl fs) = fs.all fun p => below n p.2 := rfl
theorem bO_dict {n : Nat} {kvs : List (PV × PV)} : belowO n (.dict kvs) = kvs.all fun p => below n p.1 && below n p.2 := rfl
theorem blt_add {n m : Nat} : Nat.blt (n + m) n = false := by
  cases h : Nat.blt (n + m) n with
  | false => rfl
  | true => exact absurd (Nat.le_of_ble_eq_true h) (by show ¬ (n + m + 1 ≤ n); omega)
theorem blt_self {n : Nat} : Nat.blt n n = false := blt_add (m := 0)
theorem at_add {O L : List Ob} {k : Nat} : (O ++ L)[O.length + k]? = L[k]? := by
  rw [List.getElem?_append_right (Nat.le_add_right _ _), Nat.add_sub_cancel_left]
theorem at_zero {O L : List Ob} : (O ++ L)[O.length]? = L[0]? := by
  rw [List.getElem?_append_right (Nat.le_refl _), Nat.sub_self]
end
end TR
end

section
set_option maxRecDepth 100000
set_option maxHeartbeats 1000000
set_option autoImplicit false
/-! TL: equality of plain values. -/
namespace TR
open TL PySem
/-- numbers, texts, None, tuples of these -/
def okD : Nat → PV → Bool
  | 0, _ => false
  | n + 1, v => match v with
    | .non => true
    | .int _ => true
    | .str s => s.all (· < 1114112)
    | .tup xs => xs.all (okD n)
    | _ => false
def pdat : Nat → PV → PyData
  | 0, _ => .none
  | n + 1, v => match v with
    | .int i => .int i
    | .str s => .str ⟨s.toArray⟩
    | .tup xs => .tuple (xs.map (pdat n))
    | _ => .none
theorem mapO_some {α β : Type} {f : α → Option β} {g : α → β} : ∀ {l : List α}, (∀ a ∈ l, f a = some (g a)) → mapO f l = some (l.map g)
  | [], _ => rfl
  | a :: l, h => by
    unfold mapO
    rw [h a (List.mem_cons_self ..)]
    dsimp only
    rw [mapO_some fun b hb => h b (List.mem_cons_of_mem _ hb)]
    rfl
theorem toD_ok {objs : List Ob} : ∀ (n : Nat) (v : PV), okD n v = true → toD objs n v = some (pdat n v)
  | 0, v, h => by simp only [okD] at h; cases h
  | n + 1, v, h => by
    cases v with
    | non => rfl
    | int i => rfl
    | str s =>
      have h' : s.all (· < 1114112) = true := h
      show (if s.all (· < 1114112) = true then some _ else none) = _
      rw [if_pos h']
      rfl
    | tup xs =>
      have h' : xs.all (okD n) = true := h
      show (mapO (toD objs n) xs).map PyData.tuple = _
      rw [mapO_some (g := pdat n) fun a ha => toD_ok n a (List.all_eq_true.mp h' a ha)]
      rfl
    | bl b => have h' : false = true := h; cases h'
    | ref r => have h' : false = true := h; cases h'
theorem strEq {s t : List Nat} : ((⟨s.toArray⟩ : Str) == ⟨t.toArray⟩) = decide (s = t) := by
  by_cases h : s = t
  · subst h; simp
  · have : ¬ ((⟨s.toArray⟩ : Str) = ⟨t.toArray⟩) := fun z => h (by
      have e : s.toArray = t.toArray := congrArg Str.cps z
      have := congrArg Array.toList e
      simpa using this)
    simp [h, this]
theorem eqv_ok : ∀ (n : Nat) (a b : PV), okD n a = true → okD n b = true → PyData.eqv (pdat n a) (pdat n b) = PV.beq a b
  | 0, a, b, h, _ => by simp only [okD] at h; cases h
  | n + 1, a, b, ha, hb => by
    have tups : ∀ (xs ys : List PV), xs.all (okD n) = true → ys.all (okD n) = true → PyData.eqvAll (xs.map (pdat n)) (ys.map (pdat n)) = PV.beqs xs ys := by
      intro xs
      induction xs with
      | nil => intro ys _ _; cases ys <;> simp [PyData.eqvAll, PV.beqs]
      | cons x xs ih =>
        intro ys hx hy
        cases ys with
        | nil => simp [PyData.eqvAll, PV.beqs]
        | cons y ys =>
          rw [List.all_cons, Bool.and_eq_true] at hx hy
          rw [List.map_cons, List.map_cons]
          simp only [PyData.eqvAll, PV.beqs]
          rw [eqv_ok n x y hx.1 hy.1, ih ys hx.2 hy.2]
    cases a with
    | bl b => have h' : false = true := ha; cases h'
    | ref r => have h' : false = true := ha; cases h'
    | non =>
      cases b with
      | bl b => have h' : false = true := hb; cases h'
      | ref r => have h' : false = true := hb; cases h'
      | _ => simp [pdat, PyData.eqv, PV.beq]
    | int i =>
      cases b with
      | bl b => have h' : false = true := hb; cases h'
      | ref r => have h' : false = true := hb; cases h'
      | int j =>
        simp only [pdat, PyData.eqv, PV.beq]
        by_cases e : i = j <;> simp [e]
      | _ => simp [pdat, PyData.eqv, PV.beq]
    | str s =>
      cases b with
      | bl b => have h' : false = true := hb; cases h'
      | ref r => have h' : false = true := hb; cases h'
      | str t => simp only [pdat, PyData.eqv, PV.beq]; exact strEq
      | _ => simp [pdat, PyData.eqv, PV.beq]
    | tup xs =>
      cases b with
      | bl b => have h' : false = true := hb; cases h'
      | ref r => have h' : false = true := hb; cases h'
      | tup ys => simp only [pdat, PyData.eqv, PV.beq]; exact tups xs ys ha hb
      | _ => simp [pdat, PyData.eqv, PV.beq]
theorem eqD_ok {objs : List Ob} {a b : PV} (ha : okD 40 a = true) (hb : okD 40 b = true) : eqD objs a b = some (PV.beq a b) := by
  unfold eqD
  rw [toD_ok 40 a ha, toD_ok 40 b hb]
  dsimp only
  rw [eqv_ok 40 a b ha hb]
theorem beqs_map {γ : Type} [DecidableEq γ] {f : γ → PV} (hf : ∀ a b, PV.beq (f a) (f b) = decide (a = b)) : ∀ {l m : List γ}, PV.beqs (l.map f) (m.map f) = decide (l = m)
  | [], [] => rfl
  | [], _ :: _ => by simp [PV.beqs]
  | _ :: _, [] => by simp [PV.beqs]
  | a :: l, b :: m => by
    rw [List.map_cons, List.map_cons]
    simp only [PV.beqs, hf, beqs_map hf]
    by_cases h1 : a = b <;> by_cases h2 : l = m <;> simp [h1, h2]
theorem okD_tup {n : Nat} {xs : List PV} : okD (n + 1) (.tup xs) = xs.all (okD n) := rfl
theorem okD_str {n : Nat} {z : List Nat} : okD (n + 1) (.str z) = z.all (· < 1114112) := rfl
theorem okD_int {n : Nat} {z : Int} : okD (n + 1) (.int z) = true := rfl
/-! ranges, items -/
theorem intsFrom_eq : ∀ (n a : Nat), intsFrom (a : Int) 1 n = (List.range n).map fun (i : Nat) => .int ((a + i : Nat) : Int)
  | 0, a => rfl
  | n + 1, a => by
    rw [List.range_succ_eq_map, List.map_cons, List.map_map]
    show PV.int (a : Int) :: intsFrom ((a : Int) + 1) 1 n = _
    rw [show ((a : Int) + 1) = ((a + 1 : Nat) : Int) by omega, intsFrom_eq n (a + 1)]
    congr 1
    apply List.map_congr_left
    intro i _
    show PV.int ((a + 1 + i : Nat) : Int) = PV.int ((a + (i + 1) : Nat) : Int)
    congr 2
    omega
theorem ints0 (n : Nat) : intsFrom 0 1 n = (List.range n).map fun (i : Nat) => .int (i : Int) := by
  have := intsFrom_eq n 0
  simpa using this
theorem rangeW_eq_o {n : Nat} (h : n ≤ 16000000) {s : Sto} {Q : Walk → Sto → Prop} {X : Xc → Sto → Prop} : Vm (rangeW 0 (n : Int)) s Q X = Q ⟨(List.range n).map fun (i : Nat) => .int (i : Int), []⟩ s := by
  unfold rangeW
  rw [Wm_bind_o, Wm_guard_o]
  have : (decide ((0 : Int).natAbs < 4611686018427387904) && decide ((n : Int).natAbs < 4611686018427387904) && decide (((n : Int) - 0).toNat ≤ 16000000)) = true := by
    simp only [Bool.and_eq_true, decide_eq_true_eq]
    omega
  rw [this, Wm_pure_o]
  have e : ((n : Int) - 0).toNat = n := by omega
  rw [e, ints0]
  simp
theorem atO_nat {α : Type} {xs : List α} {i : Nat} : atO xs (i : Int) = xs[i]? := by
  unfold atO ixO
  by_cases h : i < xs.length
  · rw [if_pos (by omega), if_pos (by omega)]
    simp
  · rw [if_pos (by omega), if_neg (by omega), List.getElem?_eq_none (by omega)]
end TR
end

section
set_option maxRecDepth 100000
set_option maxHeartbeats 1000000
set_option autoImplicit false
/-! TL: the rules with states written out. -/
namespace TR
open TL
/-- a state taken apart -/
def stp (t : Sto) (f : List Ob → Nat → List Nat → Prop) : Prop := f t.objs t.low t.lk
theorem stp_mk {O : List Ob} {lo : Nat} {lk : List Nat} {f : List Ob → Nat → List Nat → Prop} : stp ⟨O, lo, lk⟩ f = f O lo lk := rfl
section
variable {c : Ctx} {ρ : Env} {s : Sto} {O O' : List Ob} {lo lo' : Nat} {lk lk' : List Nat} {Q : PV → Sto → Prop} {X : Xc → Sto → Prop}
theorem w_lst'_o {es : List Ex} : Vm (evE c ρ (.lst es)) s Q X = Vm (evEs c ρ es) s (fun xs t => xs.length ≤ lineN ∧ stp t fun O lo lk => Q (.ref O.length) ⟨O ++ [.list xs], lo, lk⟩) X := w_lst_o
theorem w_dic0'_o : Vm (evE c ρ (.dic [])) ⟨O, lo, lk⟩ Q X = Q (.ref O.length) ⟨O ++ [.dict []], lo, lk⟩ := w_dic0_o
theorem w_bi'_o {b : BI} {es : List Ex} : Vm (evE c ρ (.bi b es)) ⟨O, lo, lk⟩ Q X = Vm (evEs c ρ es) ⟨O, O.length, lk⟩ (fun vs t => Vm (builtin c b vs) t (vQ ⟨O, lo, lk⟩ Q) (vX ⟨O, lo, lk⟩ X)) (vX ⟨O, lo, lk⟩ X) := w_bi_o
theorem w_lc'_o {e : Ex} {own : List Nat} {tg : Tg} {it : Itr} {ifs : List Ex} : Vm (evE c ρ (.lc e (.mk own tg it ifs))) ⟨O, lo, lk⟩ Q X = Vm (evIt c ρ it) ⟨O, O.length, lk⟩ (fun w t => stp t fun O1 lo1 lk1 => Vm (turns (turnF c ρ own tg ifs e) w.items) ⟨O1, lo1, w.held ++ lk1⟩ (fun xs u => xs.length ≤ lineN ∧ stp u fun O2 lo2 _ => vQ ⟨O, lo, lk⟩ Q (.ref O2.length) ⟨O2 ++ [.list xs], lo2, lk1⟩) fun _ _ => False) (vX ⟨O, lo, lk⟩ X) := w_lc_o
theorem w_sc'_o {e : Ex} {own : List Nat} {tg : Tg} {it : Itr} {ifs : List Ex} : Vm (evE c ρ (.sc e (.mk own tg it ifs))) ⟨O, lo, lk⟩ Q X = Vm (evIt c ρ it) ⟨O, O.length, lk⟩ (fun w t => stp t fun O1 lo1 lk1 => Vm (turns (turnF c ρ own tg ifs e) w.items) ⟨O1, lo1, w.held ++ lk1⟩ (fun xs u => setOk xs = true ∧ stp u fun O2 lo2 _ => vQ ⟨O, lo, lk⟩ Q (.ref O2.length) ⟨O2 ++ [.set (dedup xs)], lo2, lk1⟩) fun _ _ => False) (vX ⟨O, lo, lk⟩ X) := w_sc_o
theorem w_lc2'_o {e : Ex} {own own2 : List Nat} {tg tg2 : Tg} {it it2 : Itr} {ifs ifs2 : List Ex} : Vm (evE c ρ (.lc2 e (.mk own tg it ifs) (.mk own2 tg2 it2 ifs2))) ⟨O, lo, lk⟩ Q X = Vm (evIt c ρ it) ⟨O, O.length, lk⟩ (fun w t => stp t fun O1 lo1 lk1 => Vm (turns2 (turnF2 c ρ own tg ifs own2 tg2 it2 ifs2 e) w.items) ⟨O1, lo1, w.held ++ lk1⟩ (fun xs u => xs.length ≤ lineN ∧ stp u fun O2 lo2 _ => vQ ⟨O, lo, lk⟩ Q (.ref O2.length) ⟨O2 ++ [.list xs], lo2, lk1⟩) fun _ _ => False) (vX ⟨O, lo, lk⟩ X) := w_lc2_o
theorem alloc'_o {o : Ob} : Vm (alloc o) ⟨O, lo, lk⟩ Q X = Q (.ref O.length) ⟨O ++ [o], lo, lk⟩ := rfl
theorem putOb'_o {r : Nat} {o : Ob} {Q : Unit → Sto → Prop} : Vm (putOb r o) ⟨O, lo, lk⟩ Q X = (lk.contains r = false ∧ Q () ⟨O.set r o, min lo r, lk⟩) := Wm_putOb_o
theorem walk'_o {r : Nat} {Q : Walk → Sto → Prop} : Vm (walkV (.ref r)) ⟨O, lo, lk⟩ Q X = (match O[r]? with
    | some (.list xs) => Q ⟨xs, [r]⟩ ⟨O, lo, lk⟩
    | some (.dict kvs) => Q ⟨kvs.map (·.1), [r]⟩ ⟨O, lo, lk⟩
    | _ => False) := m_walk_o
theorem len'_o {r : Nat} : Vm (builtin c .len [.ref r]) ⟨O, lo, lk⟩ Q X = (match O[r]? with
    | some (.list xs) => Q (.int xs.length) ⟨O, lo, lk⟩
    | some (.dict kvs) => Q (.int kvs.length) ⟨O, lo, lk⟩
    | some (.set xs) => Q (.int xs.length) ⟨O, lo, lk⟩
    | some (.inst cl _) => Vm (runQ c r cl nLen []) ⟨O, lo, lk⟩ (fun v t => match v with
      | .int i => decide (0 ≤ i) = true ∧ decide (i < 4611686018427387904) = true ∧ Q (.int i) t
      | _ => False) X
    | none => False) := m_len_o
theorem fld'_o {r f : Nat} : Vm (getFld (.ref r) f) ⟨O, lo, lk⟩ Q X = (match O[r]? with
    | some (.inst _ fs) => (match lookF fs f with | some v => Q v ⟨O, lo, lk⟩ | none => False)
    | _ => False) := m_fld_o
theorem setF'_o {r f : Nat} {v : PV} {Q : Unit → Sto → Prop} : Vm (setFld (.ref r) f v) ⟨O, lo, lk⟩ Q X = (match O[r]? with
    | some (.inst cl fs) => fs.length < 100 ∧ lk.contains r = false ∧ Q () ⟨O.set r (.inst cl (storeF fs f v)), min lo r, lk⟩
    | _ => False) := m_setF_o
theorem item'_o {r : Nat} {j : Int} : Vm (getItem (.ref r) (.int j)) ⟨O, lo, lk⟩ Q X = (match O[r]? with
    | some (.list xs) => (match atO xs j with | some v => Q v ⟨O, lo, lk⟩ | none => False)
    | some (.dict kvs) => keyOk kvs (.int j) = true ∧ (match lookD kvs (.int j) with | some v => Q v ⟨O, lo, lk⟩ | none => False)
    | _ => False) := m_item_o
theorem slice'_o {r : Nat} {l h : Option Int} : Vm (sliceV (.ref r) l h) ⟨O, lo, lk⟩ Q X = (match O[r]? with
    | some (.list xs) => Q (.ref O.length) ⟨O ++ [.list (cutL xs l h)], lo, lk⟩
    | _ => False) := m_slice_o
theorem append'_o {r : Nat} {v : PV} : Vm (methB .append (.ref r) [v]) ⟨O, lo, lk⟩ Q X = (match O[r]? with
    | some (.list xs) => xs.length < lineN ∧ lk.contains r = false ∧ Q .non ⟨O.set r (.list (xs ++ [v])), min lo r, lk⟩
    | _ => False) := m_append_o
theorem recv'_o {r : Nat} {Q : Unit → Sto → Prop} : Vm (recvB .append (.ref r)) ⟨O, lo, lk⟩ Q X = (match O[r]? with
    | some (.list _) => Q () ⟨O, lo, lk⟩
    | _ => False) := m_recv_o
theorem list'_o {r : Nat} : Vm (builtin c .list [.ref r]) ⟨O, lo, lk⟩ Q X = (match O[r]? with
    | some (.list xs) => Q (.ref O.length) ⟨O ++ [.list xs], lo, lk⟩
    | some (.dict kvs) => Q (.ref O.length) ⟨O ++ [.list (kvs.map (·.1))], lo, lk⟩
    | _ => False) := m_list_o
theorem tlist'_o {xs : List PV} : Vm (builtin c .list [.tup xs]) ⟨O, lo, lk⟩ Q X = Q (.ref O.length) ⟨O ++ [.list xs], lo, lk⟩ := t_list_o
theorem tuple'_o {r : Nat} : Vm (builtin c .tuple [.ref r]) ⟨O, lo, lk⟩ Q X = (match O[r]? with
    | some (.list xs) => Q (.tup xs) ⟨O, lo, lk⟩
    | _ => False) := m_tuple_o
theorem set'_o {r : Nat} : Vm (builtin c .set [.ref r]) ⟨O, lo, lk⟩ Q X = (match O[r]? with
    | some (.list xs) => setOk xs = true ∧ Q (.ref O.length) ⟨O ++ [.set (dedup xs)], lo, lk⟩
    | _ => False) := m_set_o
theorem meth'_o {r m : Nat} {Q : Nat → Sto → Prop} : Vm (methM c (.ref r) m) ⟨O, lo, lk⟩ Q X = (match O[r]? with
    | some (.inst cl fs) => (lookF fs m).isNone = true ∧ (match lookM c.meths cl m with | some f => Q f ⟨O, lo, lk⟩ | none => False)
    | _ => False) := m_meth_o
theorem all'_o {r : Nat} : Vm (builtin c .all [.ref r]) ⟨O, lo, lk⟩ Q X = (match O[r]? with
    | some (.list xs) => (match boolsB true xs with | some b => Q (.bl b) ⟨O, lo, lk⟩ | none => False)
    | _ => False) := m_all_o
theorem any'_o {r : Nat} : Vm (builtin c .any [.ref r]) ⟨O, lo, lk⟩ Q X = (match O[r]? with
    | some (.list xs) => (match boolsB false xs with | some b => Q (.bl b) ⟨O, lo, lk⟩ | none => False)
    | _ => False) := m_any_o
theorem sum'_o {r : Nat} : Vm (builtin c .sum [.ref r]) ⟨O, lo, lk⟩ Q X = (match O[r]? with
    | some (.list xs) => (match sumI xs with | some b => Q (.int b) ⟨O, lo, lk⟩ | none => False)
    | _ => False) := m_sum_o
theorem addL'_o {r q : Nat} : Vm (binop .add (.ref r) (.ref q)) ⟨O, lo, lk⟩ Q X = (match O[r]? with
    | some (.list x) => (match O[q]? with
      | some (.list y) => x.length + y.length ≤ lineN ∧ Q (.ref O.length) ⟨O ++ [.list (x ++ y)], lo, lk⟩
      | _ => False)
    | _ => False) := b_addL_o
theorem isi'_o {a : Ex} {ts : List Ty} : Vm (evE c ρ (.isi a ts)) s Q X = Vm (evE c ρ a) s (fun x t => stp t fun O lo lk => match isTys O x ts with | some b => Q (.bl b) ⟨O, lo, lk⟩ | none => False) X := w_isi_o
theorem eqTm'_o {a b : List PV} : Vm (compareV c .eq (.tup a) (.tup b)) ⟨O, lo, lk⟩ Q X = (match eqD O (.tup a) (.tup b) with | some k => Q (.bl k) ⟨O, lo, lk⟩ | none => False) := o_eqTm_o
theorem sorted0'_o {r : Nat} (h : O[r]? = some (.list [])) : Vm (builtin c .sorted [.ref r]) ⟨O, lo, lk⟩ Q X = Q (.ref O.length) ⟨O ++ [.list []], lo, lk⟩ := w_sorted0_o h
theorem mkI'_o {k f : Nat} {ws : List PV} (h : c.inits.lookup k = some f) : Vm (mkI c k ws) ⟨O, lo, lk⟩ Q X = Vm (c.fn f (.ref O.length :: ws)) ⟨O ++ [.inst k []], O.length, lk⟩ (fun v t => match v with | .non => vQ ⟨O, lo, lk⟩ Q (.ref O.length) t | _ => False) (vX ⟨O, lo, lk⟩ X) := w_mkI_o h
theorem eqI2'_o {r q cl : Nat} {fs gs : List (Nat × PV)} (h1 : O[r]? = some (.inst cl fs)) (h2 : O[q]? = some (.inst cl gs)) : Vm (compareV c .eq (.ref r) (.ref q)) ⟨O, lo, lk⟩ Q X = Vm (runQ c r cl nEq [.ref q]) ⟨O, lo, lk⟩ Q X := o_eqI2_o h1 h2
/-! frames' ends -/
theorem qBl_o {b : Bool} : vQ ⟨O, lo, lk⟩ Q (.bl b) ⟨O', lo', lk'⟩ = (if O.length ≤ lo' then Q (.bl b) ⟨O, lo, lk'⟩ else Q (.bl b) ⟨O', min lo lo', lk'⟩) := fr_blQ_o
theorem qInt_o {b : Int} : vQ ⟨O, lo, lk⟩ Q (.int b) ⟨O', lo', lk'⟩ = (if O.length ≤ lo' then Q (.int b) ⟨O, lo, lk'⟩ else Q (.int b) ⟨O', min lo lo', lk'⟩) := fr_intQ_o
theorem qStr_o {b : List Nat} : vQ ⟨O, lo, lk⟩ Q (.str b) ⟨O', lo', lk'⟩ = (if O.length ≤ lo' then Q (.str b) ⟨O, lo, lk'⟩ else Q (.str b) ⟨O', min lo lo', lk'⟩) := fr_strQ_o
theorem qNon_o : vQ ⟨O, lo, lk⟩ Q .non ⟨O', lo', lk'⟩ = (if O.length ≤ lo' then Q .non ⟨O, lo, lk'⟩ else Q .non ⟨O', min lo lo', lk'⟩) := fr_nonQ_o
theorem qTup_o {xs : List PV} : vQ ⟨O, lo, lk⟩ Q (.tup xs) ⟨O', lo', lk'⟩ = (if O.length ≤ lo' then (if belows O.length xs = true then Q (.tup xs) ⟨O, lo, lk'⟩ else Q (.tup xs) ⟨O', lo, lk'⟩) else Q (.tup xs) ⟨O', min lo lo', lk'⟩) := fr_tupQ_o
theorem qRef_o {r : Nat} : vQ ⟨O, lo, lk⟩ Q (.ref r) ⟨O', lo', lk'⟩ = (if O.length ≤ lo' then (if r < O.length then Q (.ref r) ⟨O, lo, lk'⟩ else match O'[r]? with
      | some o => if belowO O.length o = true then Q (.ref O.length) ⟨O ++ [o], lo, lk'⟩ else Q (.ref r) ⟨O', lo, lk'⟩
      | none => False) else Q (.ref r) ⟨O', min lo lo', lk'⟩) := fr_ref_o
theorem xNew_o {x : Xc} (h : O.length ≤ lo') (hb : (x.fs.all fun p => below O.length p.2) = true) : vX ⟨O, lo, lk⟩ X x ⟨O', lo', lk'⟩ = X x ⟨O, lo, lk'⟩ := fx_new_o h hb
theorem xOld_o {x : Xc} (h : ¬ O.length ≤ lo') : vX ⟨O, lo, lk⟩ X x ⟨O', lo', lk'⟩ = X x ⟨O', min lo lo', lk'⟩ := fx_old_o h
end
theorem s_for'_o {c : Ctx} {ρ : Env} {s : Sto} {Q : Flow → Env → Sto → Prop} {X : Xc → Env → Sto → Prop} {tg : Tg} {it : Itr} {b : List St} : Vs (exS c (.fors tg it b) ρ s) Q X = Vm (evIt c ρ it) s (fun w t => stp t fun O lo lk => Vs (forTurns (fun x ρ t => andThen ρ (M.quiet (asgT c ρ tg x)) (fun ρ' t => exSs c b ρ' t) t) w.items ρ ⟨O, lo, w.held ++ lk⟩) (fun f ρ u => stp u fun O1 lo1 _ => Q f ρ ⟨O1, lo1, lk⟩) fun x ρ u => stp u fun O1 lo1 _ => X x ρ ⟨O1, lo1, lk⟩) fun x t => X x ρ t := s_for_o
/-- a def is run -/
theorem call_run'_o {O : List Ob} {lo : Nat} {lk : List Nat} {X : Xc → Sto → Prop} {p : Prog} {k f : Nat} {d : Df} {vs : List PV} {Q : PV → Sto → Prop} (e : p.defs[f]? = some d) (hl : vs.length = d.nps) (h : Vs (exSs (p.ctx (callK p k)) d.body (startE d vs) ⟨O, O.length, lk⟩) (fun g _ t => match g with
    | .rt v => vQ ⟨O, lo, lk⟩ Q v t
    | .nx => vQ ⟨O, lo, lk⟩ Q .non t
    | _ => False) fun x _ t => vX ⟨O, lo, lk⟩ X x t) : Vm (callK p (k + 1) f vs) ⟨O, lo, lk⟩ Q X := call_run_o e hl h
end TR
end

section
set_option maxRecDepth 100000
set_option maxHeartbeats 1000000
set_option autoImplicit false
/-! TL: the rules again; a class marks what follows, so that no rewriting goes into it. -/
namespace TR
open TL
class Tok {α : Sort _} (q : α) where
instance tok {α : Sort _} (q : α) : Tok q := {}
def Wm {α : Type} (m : M α) (s : Sto) (Q : α → Sto → Prop) (X : Xc → Sto → Prop) [Tok Q] [Tok X] : Prop := Vm m s Q X
def Ws (r : SRes) (Q : Flow → Env → Sto → Prop) (X : Xc → Env → Sto → Prop) [Tok Q] [Tok X] : Prop := Vs r Q X
def frQ (s : Sto) (Q : PV → Sto → Prop) [Tok Q] (v : PV) (t : Sto) : Prop := vQ s Q v t
def frX (s : Sto) (X : Xc → Sto → Prop) [Tok X] (x : Xc) (t : Sto) : Prop := vX s X x t
def itT (p : Prop) [Decidable p] (a b : Prop) [Tok a] [Tok b] : Prop := if p then a else b
theorem itT_true {a b : Prop} {i : Decidable True} : @itT True i a b _ _ = a := by unfold itT; rw [if_pos True.intro]
theorem itT_false {a b : Prop} {i : Decidable False} : @itT False i a b _ _ = b := by unfold itT; rw [if_neg (fun h => h)]
theorem itT_pos {p : Prop} [Decidable p] {a b : Prop} (h : p) : itT p a b = a := by unfold itT; rw [if_pos h]
theorem itT_neg {p : Prop} [Decidable p] {a b : Prop} (h : ¬ p) : itT p a b = b := by unfold itT; rw [if_neg h]
theorem if_neg' {p a b : Prop} [Decidable p] (h1 : p → a) (h2 : ¬ p → b) : itT p a b := by
  unfold itT
  by_cases h : p
  · rw [if_pos h]; exact h1 h
  · rw [if_neg h]; exact h2 h
theorem Wm_eq {α : Type} {m : M α} {s : Sto} {Q : α → Sto → Prop} {X : Xc → Sto → Prop} : Wm m s Q X = Vm m s Q X := rfl
section
variable {α β : Type} {m : M α} {k : α → M β} {s t : Sto} {Q : α → Sto → Prop} {Q' : β → Sto → Prop} {X : Xc → Sto → Prop} {c : Ctx} {ρ : Env}
theorem Wm.mono {Q2 : α → Sto → Prop} {X2 : Xc → Sto → Prop} (h : Wm m s Q X) (hq : ∀ a t, Q a t → Q2 a t) (hx : ∀ x t, X x t → X2 x t) : Wm m s Q2 X2 := by exact Vm.mono h hq hx
theorem Wm_ok {a : α} (e : m s = .ok a t) : Wm m s Q X = Q a t := by exact Wm_ok_o e
theorem Wm_exc {x : Xc} (e : m s = .exc x t) : Wm m s Q X = X x t := by exact Wm_exc_o e
theorem of_Wm {v : α} (h : Wm m s (fun a t' => a = v ∧ t' = t) fun _ _ => False) : m s = .ok v t := by exact of_Wm_o h
theorem of_WmX {x : Xc} (h : Wm m s (fun _ _ => False) fun y t' => y = x ∧ t' = t) : m s = .exc x t := by exact of_WmX_o h
theorem Wm_bind : Wm (m >>= k) s Q' X = Wm m s (fun a t => Wm (k a) t Q' X) X := by exact Wm_bind_o 
theorem Wm_pure {a : α} : Wm (pure a) s Q X = Q a s := by exact Wm_pure_o 
theorem Wm_ret {a : α} : Wm (M.ret a) s Q X = Q a s := by exact Wm_ret_o 
theorem Wm_stop : Wm (M.stop) s Q X = False := by exact Wm_stop_o 
theorem Wm_guard {b : Bool} {Q : Unit → Sto → Prop} : Wm (M.guard b) s Q X = (b = true ∧ Q () s) := by exact Wm_guard_o 
theorem Wm_opt_some {a : α} : Wm (M.opt (some a)) s Q X = Q a s := by exact Wm_opt_some_o 
theorem Wm_alloc {o : Ob} {Q : PV → Sto → Prop} : Wm (alloc o) s Q X = Q (.ref s.objs.length) { s with objs := s.objs ++ [o] } := by exact Wm_alloc_o 
theorem Wm_getOb {r : Nat} {o : Ob} {Q : Ob → Sto → Prop} (h : s.objs[r]? = some o) : Wm (getOb r) s Q X = Q o s := by exact Wm_getOb_o h
theorem Wm_objsM {Q : List Ob → Sto → Prop} : Wm objsM s Q X = Q s.objs s := by exact Wm_objsM_o 
theorem Wm_putOb {r : Nat} {o : Ob} {Q : Unit → Sto → Prop} : Wm (putOb r o) s Q X = (s.lk.contains r = false ∧ Q () { s with objs := s.objs.set r o, low := min s.low r }) := by exact Wm_putOb_o 
theorem Wm_asB {b : Bool} {Q : Bool → Sto → Prop} : Wm (asB (.bl b)) s Q X = Q b s := by exact Wm_asB_o 
theorem Wm_asI {i : Int} {Q : Int → Sto → Prop} : Wm (asI (.int i)) s Q X = Q i s := by exact Wm_asI_o 
theorem Wm_quiet : Wm (M.quiet m) s Q X = Wm m s Q fun _ _ => False := by exact Wm_quiet_o 
theorem Wm_locked {l : List Nat} : Wm (locked l m) s Q X = Wm m { s with lk := l ++ s.lk } (fun a t => Q a { t with lk := s.lk }) fun x t => X x { t with lk := s.lk } := by exact Wm_locked_o 
theorem Wm_frame {m : M PV} {Q : PV → Sto → Prop} (h : Wm m { s with low := s.objs.length } (fun v t => s.objs.length ≤ t.low ∧ below s.objs.length v = true ∧ Q v { s with lk := t.lk }) fun x t => s.objs.length ≤ t.low ∧ (x.fs.all fun p => below s.objs.length p.2) = true ∧ X x { s with lk := t.lk }) : Wm (frame m) s Q X := by exact Wm_frame_o h
theorem Wm_frame1 {m : M PV} {Q : PV → Sto → Prop} (h : Wm m { s with low := s.objs.length } (fun v t => s.objs.length ≤ t.low ∧ ∃ r o, v = .ref r ∧ s.objs.length ≤ r ∧ t.objs[r]? = some o ∧ belowO s.objs.length o = true ∧ Q (.ref s.objs.length) { s with objs := s.objs ++ [o], lk := t.lk }) fun x t => s.objs.length ≤ t.low ∧ (x.fs.all fun p => below s.objs.length p.2) = true ∧ X x { s with lk := t.lk }) : Wm (frame m) s Q X := by exact Wm_frame1_o h
theorem Ws.mono {r : SRes} {Q Q2 : Flow → Env → Sto → Prop} {X X2 : Xc → Env → Sto → Prop} (h : Ws r Q X) (hq : ∀ f ρ t, Q f ρ t → Q2 f ρ t) (hx : ∀ x ρ t, X x ρ t → X2 x ρ t) : Ws r Q2 X2 := by exact Vs.mono h hq hx
theorem Ws_andThen {q : α → Sto → SRes} {Q : Flow → Env → Sto → Prop} {X : Xc → Env → Sto → Prop} : Ws (andThen ρ m q s) Q X = Wm m s (fun a t => Ws (q a t) Q X) fun x t => X x ρ t := by exact Ws_andThen_o 
theorem Ws_nil {Q : Flow → Env → Sto → Prop} {X : Xc → Env → Sto → Prop} : Ws (exSs c [] ρ s) Q X = Q .nx ρ s := by exact Ws_nil_o 
theorem Ws_cons {a : St} {r : List St} {Q : Flow → Env → Sto → Prop} {X : Xc → Env → Sto → Prop} : Ws (exSs c (a :: r) ρ s) Q X = Ws (exS c a ρ s) (fun f ρ' t => match f with
    | .nx => Ws (exSs c r ρ' t) Q X
    | f => Q f ρ' t) X := by exact Ws_cons_o 
theorem Ws_fin {f : Flow} {Q : Flow → Env → Sto → Prop} {X : Xc → Env → Sto → Prop} : Ws (.fin f ρ s) Q X = Q f ρ s := by exact Ws_fin_o 
theorem Ws_exc {x : Xc} {Q : Flow → Env → Sto → Prop} {X : Xc → Env → Sto → Prop} : Ws (.exc x ρ s) Q X = X x ρ s := by exact Ws_exc_o 
theorem Wm_body {body : List St} {Q : PV → Sto → Prop} (h : Ws (exSs c body ρ s) (fun f _ t => match f with
    | .rt v => Q v t
    | .nx => Q .non t
    | _ => False) fun x _ t => X x t) : Wm (fun s => endM (exSs c body ρ s)) s Q X := by exact Wm_body_o h
theorem Ws_for {f : PV → Env → Sto → SRes} (J : List PV → Env → Sto → Prop) {Q : Flow → Env → Sto → Prop} {X : Xc → Env → Sto → Prop} (step : ∀ x l ρ s, J (x :: l) ρ s → Ws (f x ρ s) (fun k ρ' t => match k with
    | .nx => J l ρ' t
    | .ct => J l ρ' t
    | .bk => Q .nx ρ' t
    | .rt v => Q (.rt v) ρ' t) X) (fin : ∀ ρ s, J [] ρ s → Q .nx ρ s) : ∀ (l : List PV) (ρ : Env) (s : Sto), J l ρ s → Ws (forTurns f l ρ s) Q X := by exact Ws_for_o J step fin
theorem Ws_unlock {l : List Nat} {r : SRes} {Q : Flow → Env → Sto → Prop} {X : Xc → Env → Sto → Prop} : Ws (unlock l r) Q X = Ws r (fun f ρ t => Q f ρ { t with lk := l }) fun x ρ t => X x ρ { t with lk := l } := by exact Ws_unlock_o 
end
section
variable {c : Ctx} {ρ : Env} {s : Sto} {Q : PV → Sto → Prop} {X : Xc → Sto → Prop}
theorem Wm_frame_eq {m : M PV} : Wm (frame m) s Q X = Wm m { s with low := s.objs.length } (frQ s Q) (frX s X) := by exact Wm_frame_eq_o 
theorem w_var {i : Nat} : Wm (evE c ρ (.var i)) s Q X = (match ρ[i]? with | some (some v) => Q v s | _ => False) := by exact w_var_o 
theorem w_cst {v : PV} : Wm (evE c ρ (.cst v)) s Q X = Q v s := by exact w_cst_o 
theorem w_glob {g : Nat} : Wm (evE c ρ (.glob g)) s Q X = (match c.globs[g]? with | some v => Q v s | none => False) := by exact w_glob_o 
theorem w_tup {es : List Ex} : Wm (evE c ρ (.tup es)) s Q X = Wm (evEs c ρ es) s (fun xs t => xs.length ≤ lineN ∧ Q (.tup xs) t) X := by exact w_tup_o 
theorem w_lst {es : List Ex} : Wm (evE c ρ (.lst es)) s Q X = Wm (evEs c ρ es) s (fun xs t => xs.length ≤ lineN ∧ Q (.ref t.objs.length) { t with objs := t.objs ++ [.list xs] }) X := by exact w_lst_o 
theorem w_dic0  : Wm (evE c ρ (.dic [])) s Q X = Q (.ref s.objs.length) { s with objs := s.objs ++ [.dict []] } := by exact w_dic0_o 
theorem w_bin {o : BOp} {a b : Ex} : Wm (evE c ρ (.bin o a b)) s Q X = Wm (evE c ρ a) s (fun x t => Wm (evE c ρ b) t (fun y u => Wm (binop o x y) u Q X) X) X := by exact w_bin_o 
theorem w_neg {a : Ex} : Wm (evE c ρ (.neg a)) s Q X = Wm (evE c ρ a) s (fun x t => Wm (asI x) t (fun i u => Q (.int (-i)) u) X) X := by exact w_neg_o 
theorem w_not {a : Ex} : Wm (evE c ρ (.notE a)) s Q X = Wm (evE c ρ a) s (fun x t => Wm (asB x) t (fun b u => Q (.bl (!b)) u) X) X := by exact w_not_o 
theorem w_and {a b : Ex} : Wm (evE c ρ (.andE a b)) s Q X = Wm (evE c ρ a) s (fun x t => Wm (asB x) t (fun p u => itT (p = true) (Wm (evE c ρ b) u (fun y v => Wm (asB y) v (fun q w => Q (.bl q) w) X) X) (Q (.bl false) u)) X) X := by exact w_and_o 
theorem w_or {a b : Ex} : Wm (evE c ρ (.orE a b)) s Q X = Wm (evE c ρ a) s (fun x t => Wm (asB x) t (fun p u => itT (p = true) (Q (.bl true) u) (Wm (evE c ρ b) u (fun y v => Wm (asB y) v (fun q w => Q (.bl q) w) X) X)) X) X := by exact w_or_o 
theorem w_cmp {o : COp} {a b : Ex} : Wm (evE c ρ (.cmp o a b)) s Q X = Wm (evE c ρ a) s (fun x t => Wm (evE c ρ b) t (fun y u => Wm (compareV c o x y) u Q X) X) X := by exact w_cmp_o 
theorem w_chn {o p : COp} {a b d : Ex} : Wm (evE c ρ (.chn o p a b d)) s Q X = Wm (evE c ρ a) s (fun x t => Wm (evE c ρ b) t (fun y u => Wm (compareV c o x y) u (fun r v => Wm (asB r) v (fun q w => itT (q = true) (Wm (evE c ρ d) w (fun z w2 => Wm (compareV c p y z) w2 Q X) X) (Q (.bl false) w)) X) X) X) X := by exact w_chn_o 
theorem w_ite {q a b : Ex} : Wm (evE c ρ (.ite q a b)) s Q X = Wm (evE c ρ q) s (fun x t => Wm (asB x) t (fun p u => itT (p = true) (Wm (evE c ρ a) u Q X) (Wm (evE c ρ b) u Q X)) X) X := by exact w_ite_o 
theorem w_fld {f : Nat} {o : Ex} : Wm (evE c ρ (.fld f o)) s Q X = Wm (evE c ρ o) s (fun x t => Wm (getFld x f) t Q X) X := by exact w_fld_o 
theorem w_idx {o i : Ex} : Wm (evE c ρ (.idx o i)) s Q X = Wm (evE c ρ o) s (fun x t => Wm (evE c ρ i) t (fun y u => Wm (getItem x y) u Q X) X) X := by exact w_idx_o 
theorem w_slc {o : Ex} {l u : Option Ex} : Wm (evE c ρ (.slc o l u)) s Q X = Wm (evE c ρ o) s (fun x t => Wm (evO c ρ l) t (fun lo t2 => Wm (evO c ρ u) t2 (fun hi t3 => Wm (sliceV x lo hi) t3 Q X) X) X) X := by exact w_slc_o 
theorem w_rev {o : Ex} : Wm (evE c ρ (.rev o)) s Q X = Wm (evE c ρ o) s (fun x t => Wm (revV x) t Q X) X := by exact w_rev_o 
theorem w_call {f : Nat} {es : List Ex} {b : List Src} : Wm (evE c ρ (.call f es b)) s Q X = Wm (evEs c ρ es) s (fun vs t => match bindS vs b with | some ws => Wm (c.fn f ws) t Q X | none => False) X := by exact w_call_o 
theorem w_meth {m : Nat} {o : Ex} {es : List Ex} {b : List Src} : Wm (evE c ρ (.meth m o es b)) s Q X = Wm (evE c ρ o) s (fun x t => Wm (methM c x m) t (fun f u => Wm (evEs c ρ es) u (fun vs v => match bindS vs b with | some ws => Wm (c.fn f (x :: ws)) v Q X | none => False) X) X) X := by exact w_meth_o 
theorem w_new {k : Nat} {es : List Ex} {b : List Src} : Wm (evE c ρ (.new k es b)) s Q X = Wm (evEs c ρ es) s (fun vs t => match bindS vs b with | some ws => Wm (mkI c k ws) t Q X | none => False) X := by exact w_new_o 
theorem w_bi {b : BI} {es : List Ex} : Wm (evE c ρ (.bi b es)) s Q X = Wm (evEs c ρ es) { s with low := s.objs.length } (fun vs t => Wm (builtin c b vs) t (frQ s Q) (frX s X)) (frX s X) := by exact w_bi_o 
theorem w_bm {m : BM} {o : Ex} {es : List Ex} : Wm (evE c ρ (.bm m o es)) s Q X = Wm (evE c ρ o) s (fun x t => Wm (recvB m x) t (fun _ u => Wm (evEs c ρ es) u (fun vs v => Wm (methB m x vs) v Q X) X) X) X := by exact w_bm_o 
theorem w_isi {a : Ex} {ts : List Ty} : Wm (evE c ρ (.isi a ts)) s Q X = Wm (evE c ρ a) s (fun x t => match isTys t.objs x ts with | some b => Q (.bl b) t | none => False) X := by exact w_isi_o 
theorem w_es0 {Q : List PV → Sto → Prop} : Wm (evEs c ρ []) s Q X = Q [] s := by exact w_es0_o 
theorem w_es1 {e : Ex} {es : List Ex} {Q : List PV → Sto → Prop} : Wm (evEs c ρ (e :: es)) s Q X = Wm (evE c ρ e) s (fun v t => Wm (evEs c ρ es) t (fun vs u => Q (v :: vs) u) X) X := by exact w_es1_o 
theorem w_o0 {Q : Option Int → Sto → Prop} : Wm (evO c ρ none) s Q X = Q none s := by exact w_o0_o 
theorem w_o1 {e : Ex} {Q : Option Int → Sto → Prop} : Wm (evO c ρ (some e)) s Q X = Wm (evE c ρ e) s (fun v t => Wm (asI v) t (fun i u => Q (some i) u) X) X := by exact w_o1_o 
theorem w_ts0 {Q : Bool → Sto → Prop} : Wm (evTs c ρ []) s Q X = Q true s := by exact w_ts0_o 
theorem w_ts1 {e : Ex} {es : List Ex} {Q : Bool → Sto → Prop} : Wm (evTs c ρ (e :: es)) s Q X = Wm (evE c ρ e) s (fun v t => Wm (asB v) t (fun b u => itT (b = true) (Wm (evTs c ρ es) u Q X) (Q false u)) X) X := by exact w_ts1_o 
theorem w_any {e : Ex} {Q : Walk → Sto → Prop} : Wm (evIt c ρ (.any e)) s Q X = Wm (evE c ρ e) s (fun v t => Wm (walkV v) t Q X) X := by exact w_any_o 
theorem w_rng1 {e : Ex} {Q : Walk → Sto → Prop} : Wm (evIt c ρ (.rng1 e)) s Q X = Wm (evE c ρ e) s (fun v t => Wm (asI v) t (fun i u => Wm (rangeW 0 i) u Q X) X) X := by exact w_rng1_o 
theorem w_rng2 {a b : Ex} {Q : Walk → Sto → Prop} : Wm (evIt c ρ (.rng2 a b)) s Q X = Wm (evE c ρ a) s (fun v t => Wm (asI v) t (fun i u => Wm (evE c ρ b) u (fun w t2 => Wm (asI w) t2 (fun j t3 => Wm (rangeW i j) t3 Q X) X) X) X) X := by exact w_rng2_o 
theorem w_nm {i : Nat} {v : PV} {Q : Env → Sto → Prop} : Wm (asgT c ρ (.nm i) v) s Q X = (i < ρ.length ∧ Q (ρ.set i (some v)) s) := by exact w_nm_o 
theorem w_tp {ts : List Tg} {xs : List PV} {Q : Env → Sto → Prop} : Wm (asgT c ρ (.tp ts) (.tup xs)) s Q X = Wm (asgTs c ρ ts xs) s Q X := by exact w_tp_o 
theorem w_tgs0 {Q : Env → Sto → Prop} : Wm (asgTs c ρ [] []) s Q X = Q ρ s := by exact w_tgs0_o 
theorem w_tgs1 {t : Tg} {ts : List Tg} {x : PV} {xs : List PV} {Q : Env → Sto → Prop} : Wm (asgTs c ρ (t :: ts) (x :: xs)) s Q X = Wm (asgT c ρ t x) s (fun ρ' u => Wm (asgTs c ρ' ts xs) u Q X) X := by exact w_tgs1_o 
theorem w_tfld {f : Nat} {o : Ex} {v : PV} {Q : Env → Sto → Prop} : Wm (asgT c ρ (.fld f o) v) s Q X = Wm (evE c ρ o) s (fun x t => Wm (setFld x f v) t (fun _ u => Q ρ u) X) X := by exact w_tfld_o 
theorem w_tsub {o i : Ex} {v : PV} {Q : Env → Sto → Prop} : Wm (asgT c ρ (.sub o i) v) s Q X = Wm (evE c ρ o) s (fun x t => Wm (evE c ρ i) t (fun y u => Wm (setItem x y v) u (fun _ w => Q ρ w) X) X) X := by exact w_tsub_o 
end
section
variable {c : Ctx} {ρ : Env} {s : Sto} {Q : Flow → Env → Sto → Prop} {X : Xc → Env → Sto → Prop}
theorem s_set {tg : Tg} {e : Ex} : Ws (exS c (.set tg e) ρ s) Q X = Wm (evE c ρ e) s (fun v t => Wm (asgT c ρ tg v) t (fun ρ' u => Q .nx ρ' u) (fun _ _ => False)) fun x t => X x ρ t := by exact s_set_o 
theorem s_aug {i : Nat} {o : BOp} {e : Ex} : Ws (exS c (.aug i o e) ρ s) Q X = (match ρ[i]? with | some (some x) => Wm (evE c ρ e) s (fun y t => Wm (augV o x y) t (fun z u => i < ρ.length ∧ Q .nx (ρ.set i (some z)) u) fun x t => X x ρ t) fun x t => X x ρ t | _ => False) := by exact s_aug_o 
theorem s_if {q : Ex} {a b : List St} : Ws (exS c (.ifs q a b) ρ s) Q X = Wm (evE c ρ q) s (fun x t => Wm (asB x) t (fun k u => itT (k = true) (Ws (exSs c a ρ u) Q X) (Ws (exSs c b ρ u) Q X)) fun x t => X x ρ t) fun x t => X x ρ t := by exact s_if_o 
theorem s_ret {e : Ex} : Ws (exS c (.ret e) ρ s) Q X = Wm (evE c ρ e) s (fun v t => Q (.rt v) ρ t) fun x t => X x ρ t := by exact s_ret_o 
theorem s_retN : Ws (exS c .retN ρ s) Q X = Q (.rt .non) ρ s := by exact s_retN_o 
theorem s_exp {e : Ex} : Ws (exS c (.exp e) ρ s) Q X = Wm (evE c ρ e) s (fun v t => Q .nx ρ t) fun x t => X x ρ t := by exact s_exp_o 
theorem s_rse {k : Nat} {es : List Ex} : Ws (exS c (.rse k es) ρ s) Q X = Wm (evEs c ρ es) s (fun vs t => match c.flds.lookup k with
      | some fs => (match bindS vs (fs.map (·.2)) with
        | some ws => X ⟨k, (fs.map (·.1)).zip ws⟩ ρ t
        | none => False)
      | none => False) fun x t => X x ρ t := by exact s_rse_o 
theorem s_brk : Ws (exS c .brk ρ s) Q X = Q .bk ρ s := by exact s_brk_o 
theorem s_cnt : Ws (exS c .cnt ρ s) Q X = Q .ct ρ s := by exact s_cnt_o 
theorem s_pass : Ws (exS c .pass ρ s) Q X = Q .nx ρ s := by exact s_pass_o 
theorem s_for {tg : Tg} {it : Itr} {b : List St} : Ws (exS c (.fors tg it b) ρ s) Q X = Wm (evIt c ρ it) s (fun w t => Ws (forTurns (fun x ρ t => andThen ρ (M.quiet (asgT c ρ tg x)) (fun ρ' t => exSs c b ρ' t) t) w.items ρ { t with lk := w.held ++ t.lk }) (fun f ρ u => Q f ρ { u with lk := t.lk }) fun x ρ u => X x ρ { u with lk := t.lk }) fun x t => X x ρ t := by exact s_for_o 
theorem s_try {b : List St} {hs : List Hd} : Ws (exS c (.tryE b hs) ρ s) Q X = Ws (exSs c b ρ s) Q fun x ρ' t => Ws (exH c x hs ρ' t) Q X := by exact s_try_o 
theorem s_h0 {x : Xc} : Ws (exH c x [] ρ s) Q X = X x ρ s := by exact s_h0_o 
theorem s_h1 {x : Xc} {cs : List Nat} {as_ : Option Nat} {b : List St} {r : List Hd} : Ws (exH c x (.mk cs as_ b :: r) ρ s) Q X = (match underO c x.cls cs with
    | some true => inE ρ as_ = true ∧ Ws (exSs { c with cur := some x } b (clearE ρ as_) s) (fun f ρ' t => Q f (clearE ρ' as_) t) fun _ _ _ => False
    | some false => Ws (exH c x r ρ s) Q X
    | none => False) := by exact s_h1_o 
theorem s_turn {tg : Tg} {x : PV} {b : List St} : Ws (andThen ρ (M.quiet (asgT c ρ tg x)) (fun ρ' t => exSs c b ρ' t) s) Q X = Wm (asgT c ρ tg x) s (fun ρ' t => Ws (exSs c b ρ' t) Q X) fun _ _ => False := by exact s_turn_o 
end
section
variable {c : Ctx} {ρ : Env} {s : Sto} {Q : PV → Sto → Prop} {X : Xc → Sto → Prop}
theorem w_lc {e : Ex} {own : List Nat} {tg : Tg} {it : Itr} {ifs : List Ex} : Wm (evE c ρ (.lc e (.mk own tg it ifs))) s Q X = Wm (evIt c ρ it) { s with low := s.objs.length } (fun w t => Wm (turns (turnF c ρ own tg ifs e) w.items) { t with lk := w.held ++ t.lk } (fun xs u => xs.length ≤ lineN ∧ frQ s Q (.ref u.objs.length) ⟨u.objs ++ [.list xs], u.low, t.lk⟩) fun _ _ => False) (frX s X) := by exact w_lc_o 
theorem w_sc {e : Ex} {own : List Nat} {tg : Tg} {it : Itr} {ifs : List Ex} : Wm (evE c ρ (.sc e (.mk own tg it ifs))) s Q X = Wm (evIt c ρ it) { s with low := s.objs.length } (fun w t => Wm (turns (turnF c ρ own tg ifs e) w.items) { t with lk := w.held ++ t.lk } (fun xs u => setOk xs = true ∧ frQ s Q (.ref u.objs.length) ⟨u.objs ++ [.set (dedup xs)], u.low, t.lk⟩) fun _ _ => False) (frX s X) := by exact w_sc_o 
theorem w_turnF {own : List Nat} {tg : Tg} {ifs : List Ex} {e : Ex} {x : PV} {Q : Option PV → Sto → Prop} : Wm (turnF c ρ own tg ifs e x) s Q X = Wm (asgT c (wipeE ρ own) tg x) s (fun ρ' t => Wm (evTs c ρ' ifs) t (fun b u => itT (b = true) (Wm (evE c ρ' e) u (fun v w => Q (some v) w) X) (Q none u)) X) X := by exact w_turnF_o 
theorem w_map {γ : Type} {f : PV → M (Option PV)} (g h : γ → PV) {l : List γ} {Q : List PV → Sto → Prop} (H : ∀ a ∈ l, Wm (f (h a)) s (fun y t => y = some (g a) ∧ t = s) fun _ _ => False) (q : Q (l.map g) s) : Wm (turns f (l.map h)) s Q X := by exact w_map_o g h H q
theorem w_filt {γ : Type} {f : PV → M (Option PV)} (g : γ → Option PV) (h : γ → PV) {l : List γ} {Q : List PV → Sto → Prop} (H : ∀ a ∈ l, Wm (f (h a)) s (fun y t => y = g a ∧ t = s) fun _ _ => False) (q : Q (l.filterMap g) s) : Wm (turns f (l.map h)) s Q X := by exact w_filt_o g h H q
theorem turns_mapX {γ : Type} {f : PV → M (Option PV)} (g h : γ → PV) {O : List Ob} {lo : Nat} {lk : List Nat} : ∀ {l : List γ} {J : List Ob}, (∀ a ∈ l, ∀ J, Wm (f (h a)) ⟨O ++ J, lo, lk⟩ (fun y t => y = some (g a) ∧ ∃ J', t = ⟨O ++ J', lo, lk⟩) fun _ _ => False) → ∃ J', turns f (l.map h) ⟨O ++ J, lo, lk⟩ = .ok (l.map g) ⟨O ++ J', lo, lk⟩ := by exact turns_mapX_o g h
theorem w_mapX {γ : Type} {f : PV → M (Option PV)} (g h : γ → PV) {O J : List Ob} {lo : Nat} {lk : List Nat} {Q : List PV → Sto → Prop} {l : List γ} (H : ∀ a ∈ l, ∀ J, Wm (f (h a)) ⟨O ++ J, lo, lk⟩ (fun y t => y = some (g a) ∧ ∃ J', t = ⟨O ++ J', lo, lk⟩) fun _ _ => False) (q : ∀ J, Q (l.map g) ⟨O ++ J, lo, lk⟩) : Wm (turns f (l.map h)) ⟨O ++ J, lo, lk⟩ Q X := by exact w_mapX_o g h H q
theorem w_mapX0 {γ : Type} {f : PV → M (Option PV)} (g h : γ → PV) {O : List Ob} {lo : Nat} {lk : List Nat} {Q : List PV → Sto → Prop} {l : List γ} (H : ∀ a ∈ l, ∀ J, Wm (f (h a)) ⟨O ++ J, lo, lk⟩ (fun y t => y = some (g a) ∧ ∃ J', t = ⟨O ++ J', lo, lk⟩) fun _ _ => False) (q : ∀ J, Q (l.map g) ⟨O ++ J, lo, lk⟩) : Wm (turns f (l.map h)) ⟨O, lo, lk⟩ Q X := by exact w_mapX0_o g h H q
theorem w_mkI {k f : Nat} {ws : List PV} (h : c.inits.lookup k = some f) : Wm (mkI c k ws) s Q X = Wm (c.fn f (.ref s.objs.length :: ws)) ⟨s.objs ++ [.inst k []], s.objs.length, s.lk⟩ (fun v t => match v with | .non => frQ s Q (.ref s.objs.length) t | _ => False) (frX s X) := by exact w_mkI_o h
theorem fx_old {x : Xc} {t : Sto} (h : ¬ s.objs.length ≤ t.low) : frX s X x t = X x ⟨t.objs, min s.low t.low, t.lk⟩ := by exact fx_old_o h
theorem w_runQ {r cl m : Nat} {args : List PV} : Wm (runQ c r cl m args) s Q X = (match lookM c.meths cl m with | some f => Wm (c.fn f (.ref r :: args)) s Q (fun _ _ => False) | none => False) := by exact w_runQ_o 
theorem w_lc2 {e : Ex} {own own2 : List Nat} {tg tg2 : Tg} {it it2 : Itr} {ifs ifs2 : List Ex} : Wm (evE c ρ (.lc2 e (.mk own tg it ifs) (.mk own2 tg2 it2 ifs2))) s Q X = Wm (evIt c ρ it) { s with low := s.objs.length } (fun w t => Wm (turns2 (turnF2 c ρ own tg ifs own2 tg2 it2 ifs2 e) w.items) { t with lk := w.held ++ t.lk } (fun xs u => xs.length ≤ lineN ∧ frQ s Q (.ref u.objs.length) ⟨u.objs ++ [.list xs], u.low, t.lk⟩) fun _ _ => False) (frX s X) := by exact w_lc2_o 
theorem w_turns2_nil {f : PV → M (List PV)} {Q : List PV → Sto → Prop} : Wm (turns2 f []) s Q X = Q [] s := by exact w_turns2_nil_o 
theorem w_turns_nil {f : PV → M (Option PV)} {Q : List PV → Sto → Prop} : Wm (turns f []) s Q X = Q [] s := by exact w_turns_nil_o 
theorem o_getOb {r : Nat} {Q : Ob → Sto → Prop} : Wm (getOb r) s Q X = (match s.objs[r]? with | some o => Q o s | none => False) := by exact o_getOb_o 
theorem o_cmp {o : COp} {a b : PV} (h : o ≠ .eq ∨ (∀ r, a ≠ .ref r)) : Wm (compareV c o a b) s Q X = (match cmpV s.objs o a b with | some k => Q (.bl k) s | none => False) := by exact o_cmp_o h
theorem w_sorted0 {r : Nat} (h : s.objs[r]? = some (.list [])) : Wm (builtin c .sorted [.ref r]) s Q X = Q (.ref s.objs.length) { s with objs := s.objs ++ [.list []] } := by exact w_sorted0_o h
theorem o_eqI2 {r q cl : Nat} {fs gs : List (Nat × PV)} (h1 : s.objs[r]? = some (.inst cl fs)) (h2 : s.objs[q]? = some (.inst cl gs)) : Wm (compareV c .eq (.ref r) (.ref q)) s Q X = Wm (runQ c r cl nEq [.ref q]) s Q X := by exact o_eqI2_o h1 h2
theorem o_eqT {a b : List PV} {k : Bool} (h : eqD s.objs (.tup a) (.tup b) = some k) : Wm (compareV c .eq (.tup a) (.tup b)) s Q X = Q (.bl k) s := by exact o_eqT_o h
theorem o_eqTm {a b : List PV} : Wm (compareV c .eq (.tup a) (.tup b)) s Q X = (match eqD s.objs (.tup a) (.tup b) with | some k => Q (.bl k) s | none => False) := by exact o_eqTm_o 
theorem o_len_tup {xs : List PV} : Wm (builtin c .len [.tup xs]) s Q X = Q (.int xs.length) s := by exact o_len_tup_o 
theorem o_len_str {z : List Nat} : Wm (builtin c .len [.str z]) s Q X = (z.length ≤ lineN ∧ Q (.int z.length) s) := by exact o_len_str_o 
theorem o_len_ref {r : Nat} {xs : List PV} (h : s.objs[r]? = some (.list xs)) : Wm (builtin c .len [.ref r]) s Q X = Q (.int xs.length) s := by exact o_len_ref_o h
theorem o_len_set {r : Nat} {xs : List PV} (h : s.objs[r]? = some (.set xs)) : Wm (builtin c .len [.ref r]) s Q X = Q (.int xs.length) s := by exact o_len_set_o h
theorem o_len_dict {r : Nat} {kvs : List (PV × PV)} (h : s.objs[r]? = some (.dict kvs)) : Wm (builtin c .len [.ref r]) s Q X = Q (.int kvs.length) s := by exact o_len_dict_o h
theorem o_all {γ : Type} {r : Nat} {p : γ → Bool} {l : List γ} (h : s.objs[r]? = some (.list (l.map fun a => .bl (p a)))) : Wm (builtin c .all [.ref r]) s Q X = Q (.bl (l.all p)) s := by exact o_all_o h
theorem o_any {γ : Type} {r : Nat} {p : γ → Bool} {l : List γ} (h : s.objs[r]? = some (.list (l.map fun a => .bl (p a)))) : Wm (builtin c .any [.ref r]) s Q X = Q (.bl (l.any p)) s := by exact o_any_o h
theorem o_walk_tup {xs : List PV} {Q : Walk → Sto → Prop} : Wm (walkV (.tup xs)) s Q X = Q ⟨xs, []⟩ s := by exact o_walk_tup_o 
theorem o_walk_str {z : List Nat} {Q : Walk → Sto → Prop} : Wm (walkV (.str z)) s Q X = Q ⟨z.map fun c => .str [c], []⟩ s := by exact o_walk_str_o 
theorem o_walk_ref {r : Nat} {xs : List PV} {Q : Walk → Sto → Prop} (h : s.objs[r]? = some (.list xs)) : Wm (walkV (.ref r)) s Q X = Q ⟨xs, [r]⟩ s := by exact o_walk_ref_o h
theorem fr_bl {b : Bool} {t : Sto} (h : s.objs.length ≤ t.low) : frQ s Q (.bl b) t = Q (.bl b) ⟨s.objs, s.low, t.lk⟩ := by exact fr_bl_o h
theorem fr_int {b : Int} {t : Sto} (h : s.objs.length ≤ t.low) : frQ s Q (.int b) t = Q (.int b) ⟨s.objs, s.low, t.lk⟩ := by exact fr_int_o h
theorem fr_str {b : List Nat} {t : Sto} (h : s.objs.length ≤ t.low) : frQ s Q (.str b) t = Q (.str b) ⟨s.objs, s.low, t.lk⟩ := by exact fr_str_o h
theorem fr_non {t : Sto} (h : s.objs.length ≤ t.low) : frQ s Q .non t = Q .non ⟨s.objs, s.low, t.lk⟩ := by exact fr_non_o h
theorem fr_tup {b : List PV} {t : Sto} (h : s.objs.length ≤ t.low) (hb : belows s.objs.length b = true) : frQ s Q (.tup b) t = Q (.tup b) ⟨s.objs, s.low, t.lk⟩ := by exact fr_tup_o h hb
theorem fr_new {r : Nat} {o : Ob} {t : Sto} (h : s.objs.length ≤ t.low) (hr : s.objs.length ≤ r) (ho : t.objs[r]? = some o) (hb : belowO s.objs.length o = true) : frQ s Q (.ref r) t = Q (.ref s.objs.length) ⟨s.objs ++ [o], s.low, t.lk⟩ := by exact fr_new_o h hr ho hb
theorem o_lt {i j : Int} : Wm (compareV c .lt (.int i) (.int j)) s Q X = Q (.bl (decide (i < j))) s := by exact o_lt_o 
theorem o_gt {i j : Int} : Wm (compareV c .gt (.int i) (.int j)) s Q X = Q (.bl (decide (j < i))) s := by exact o_gt_o 
theorem o_le {i j : Int} : Wm (compareV c .le (.int i) (.int j)) s Q X = Q (.bl (decide (i ≤ j))) s := by exact o_le_o 
theorem o_ge {i j : Int} : Wm (compareV c .ge (.int i) (.int j)) s Q X = Q (.bl (decide (j ≤ i))) s := by exact o_ge_o 
theorem o_eqI {i j : Int} : Wm (compareV c .eq (.int i) (.int j)) s Q X = Q (.bl (decide (i = j))) s := by exact o_eqI_o 
theorem o_neI {i j : Int} : Wm (compareV c .ne (.int i) (.int j)) s Q X = Q (.bl (!decide (i = j))) s := by exact o_neI_o 
theorem o_eqS {i j : List Nat} : Wm (compareV c .eq (.str i) (.str j)) s Q X = Q (.bl (decide (i = j))) s := by exact o_eqS_o 
theorem o_neS {i j : List Nat} : Wm (compareV c .ne (.str i) (.str j)) s Q X = Q (.bl (!decide (i = j))) s := by exact o_neS_o 
theorem o_eqB {i j : Bool} : Wm (compareV c .eq (.bl i) (.bl j)) s Q X = Q (.bl (i == j)) s := by exact o_eqB_o 
theorem o_neB {i j : Bool} : Wm (compareV c .ne (.bl i) (.bl j)) s Q X = Q (.bl (!(i == j))) s := by exact o_neB_o 
theorem o_isN {a : PV} : Wm (compareV c .is a .non) s Q X = Q (.bl (match a with | .non => true | _ => false)) s := by exact o_isN_o 
theorem o_isNotN {a : PV} : Wm (compareV c .isNot a .non) s Q X = Q (.bl (match a with | .non => false | _ => true)) s := by exact o_isNotN_o 
theorem o_inS {z : Nat} {t : List Nat} : Wm (compareV c .isIn (.str [z]) (.str t)) s Q X = Q (.bl (decide (z ∈ t))) s := by exact o_inS_o 
theorem call_run {p : Prog} {k f : Nat} {d : Df} {vs : List PV} {Q : PV → Sto → Prop} (e : p.defs[f]? = some d) (hl : vs.length = d.nps) (h : Ws (exSs (p.ctx (callK p k)) d.body (startE d vs) { s with low := s.objs.length }) (fun g _ t => match g with
    | .rt v => frQ s Q v t
    | .nx => frQ s Q .non t
    | _ => False) fun x _ t => frX s X x t) : Wm (callK p (k + 1) f vs) s Q X := by exact call_run_o e hl h
theorem fr_list {O : List Ob} {lo : Nat} {lk lk' : List Nat} {xs : List PV} (hb : belows O.length xs = true) : frQ ⟨O, lo, lk⟩ Q (.ref O.length) ⟨O ++ [.list xs], O.length, lk'⟩ = Q (.ref O.length) ⟨O ++ [.list xs], lo, lk'⟩ := by exact fr_list_o hb
theorem fr_set {O : List Ob} {lo : Nat} {lk lk' : List Nat} {xs : List PV} : frQ ⟨O, lo, lk⟩ Q (.ref O.length) ⟨O ++ [.set xs], O.length, lk'⟩ = Q (.ref O.length) ⟨O ++ [.set xs], lo, lk'⟩ := by exact fr_set_o 
theorem k_all {γ : Type} {F : PV → M (Option PV)} {h : γ → PV} (p : γ → Bool) {l : List γ} {O : List Ob} {lo : Nat} {lk lk0 lk1 : List Nat} {S2 : Sto} {Q2 : PV → Sto → Prop} {X2 X3 : Xc → Sto → Prop} (H : ∀ a ∈ l, Wm (F (h a)) ⟨O, O.length, lk⟩ (fun y t => y = some (.bl (p a)) ∧ t = ⟨O, O.length, lk⟩) fun _ _ => False)
    (hl : l.length ≤ lineN) (q : frQ S2 Q2 (.bl (l.all p)) ⟨O ++ [.list (l.map fun a => .bl (p a))], lo, lk0⟩) :
    Wm (turns F (l.map h)) ⟨O, O.length, lk⟩ (fun xs u => xs.length ≤ lineN ∧ frQ ⟨O, lo, lk1⟩ (fun v t => Wm (builtin c .all [v]) t (frQ S2 Q2) X2) (.ref u.objs.length) ⟨u.objs ++ [.list xs], u.low, lk0⟩) X3 := by exact k_all_o p H hl q
theorem k_any {γ : Type} {F : PV → M (Option PV)} {h : γ → PV} (p : γ → Bool) {l : List γ} {O : List Ob} {lo : Nat} {lk lk0 lk1 : List Nat} {S2 : Sto} {Q2 : PV → Sto → Prop} {X2 X3 : Xc → Sto → Prop} (H : ∀ a ∈ l, Wm (F (h a)) ⟨O, O.length, lk⟩ (fun y t => y = some (.bl (p a)) ∧ t = ⟨O, O.length, lk⟩) fun _ _ => False)
    (hl : l.length ≤ lineN) (q : frQ S2 Q2 (.bl (l.any p)) ⟨O ++ [.list (l.map fun a => .bl (p a))], lo, lk0⟩) :
    Wm (turns F (l.map h)) ⟨O, O.length, lk⟩ (fun xs u => xs.length ≤ lineN ∧ frQ ⟨O, lo, lk1⟩ (fun v t => Wm (builtin c .any [v]) t (frQ S2 Q2) X2) (.ref u.objs.length) ⟨u.objs ++ [.list xs], u.low, lk0⟩) X3 := by exact k_any_o p H hl q
theorem w_for {γ : Type} {f : PV → Env → Sto → SRes} {h : γ → PV} (J : List γ → Env → Sto → Prop) {Q : Flow → Env → Sto → Prop} {X : Xc → Env → Sto → Prop} (step : ∀ x l ρ s, J (x :: l) ρ s → Ws (f (h x) ρ s) (fun k ρ' t => match k with
    | .nx => J l ρ' t
    | .ct => J l ρ' t
    | .bk => Q .nx ρ' t
    | .rt v => Q (.rt v) ρ' t) X) (fin : ∀ ρ s, J [] ρ s → Q .nx ρ s) {l : List γ} {ρ : Env} {s : Sto} (hJ : J l ρ s) : Ws (forTurns f (l.map h) ρ s) Q X := by exact w_for_o J step fin hJ
theorem m_walk {r : Nat} {Q : Walk → Sto → Prop} : Wm (walkV (.ref r)) s Q X = (match s.objs[r]? with
    | some (.list xs) => Q ⟨xs, [r]⟩ s
    | some (.dict kvs) => Q ⟨kvs.map (·.1), [r]⟩ s
    | _ => False) := by exact m_walk_o 
theorem m_len {r : Nat} : Wm (builtin c .len [.ref r]) s Q X = (match s.objs[r]? with
    | some (.list xs) => Q (.int xs.length) s
    | some (.dict kvs) => Q (.int kvs.length) s
    | some (.set xs) => Q (.int xs.length) s
    | some (.inst cl _) => Wm (runQ c r cl nLen []) s (fun v t => match v with
      | .int i => decide (0 ≤ i) = true ∧ decide (i < 4611686018427387904) = true ∧ Q (.int i) t
      | _ => False) X
    | none => False) := by exact m_len_o 
theorem m_fld {r f : Nat} : Wm (getFld (.ref r) f) s Q X = (match s.objs[r]? with
    | some (.inst _ fs) => (match lookF fs f with | some v => Q v s | none => False)
    | _ => False) := by exact m_fld_o 
theorem m_setF {r f : Nat} {v : PV} {Q : Unit → Sto → Prop} : Wm (setFld (.ref r) f v) s Q X = (match s.objs[r]? with
    | some (.inst cl fs) => fs.length < 100 ∧ s.lk.contains r = false ∧ Q () ⟨s.objs.set r (.inst cl (storeF fs f v)), min s.low r, s.lk⟩
    | _ => False) := by exact m_setF_o 
theorem m_item {r : Nat} {j : Int} : Wm (getItem (.ref r) (.int j)) s Q X = (match s.objs[r]? with
    | some (.list xs) => (match atO xs j with | some v => Q v s | none => False)
    | some (.dict kvs) => keyOk kvs (.int j) = true ∧ (match lookD kvs (.int j) with | some v => Q v s | none => False)
    | _ => False) := by exact m_item_o 
theorem t_item {xs : List PV} {j : Int} : Wm (getItem (.tup xs) (.int j)) s Q X = (match atO xs j with | some v => Q v s | none => False) := by exact t_item_o 
theorem s_item {z : List Nat} {j : Int} : Wm (getItem (.str z) (.int j)) s Q X = (z.length ≤ lineN ∧ (match atO z j with | some v => Q (.str [v]) s | none => False)) := by exact s_item_o 
theorem m_slice {r : Nat} {lo hi : Option Int} : Wm (sliceV (.ref r) lo hi) s Q X = (match s.objs[r]? with
    | some (.list xs) => Q (.ref s.objs.length) { s with objs := s.objs ++ [.list (cutL xs lo hi)] }
    | _ => False) := by exact m_slice_o 
theorem t_slice {xs : List PV} {lo hi : Option Int} : Wm (sliceV (.tup xs) lo hi) s Q X = Q (.tup (cutL xs lo hi)) s := by exact t_slice_o 
theorem s_slice {z : List Nat} {lo hi : Option Int} : Wm (sliceV (.str z) lo hi) s Q X = (z.length ≤ lineN ∧ Q (.str (cutL z lo hi)) s) := by exact s_slice_o 
theorem m_append {r : Nat} {v : PV} : Wm (methB .append (.ref r) [v]) s Q X = (match s.objs[r]? with
    | some (.list xs) => xs.length < lineN ∧ s.lk.contains r = false ∧ Q .non ⟨s.objs.set r (.list (xs ++ [v])), min s.low r, s.lk⟩
    | _ => False) := by exact m_append_o 
theorem m_recv {r : Nat} {Q : Unit → Sto → Prop} : Wm (recvB .append (.ref r)) s Q X = (match s.objs[r]? with
    | some (.list _) => Q () s
    | _ => False) := by exact m_recv_o 
theorem m_list {r : Nat} : Wm (builtin c .list [.ref r]) s Q X = (match s.objs[r]? with
    | some (.list xs) => Q (.ref s.objs.length) { s with objs := s.objs ++ [.list xs] }
    | some (.dict kvs) => Q (.ref s.objs.length) { s with objs := s.objs ++ [.list (kvs.map (·.1))] }
    | _ => False) := by exact m_list_o 
theorem t_list {xs : List PV} : Wm (builtin c .list [.tup xs]) s Q X = Q (.ref s.objs.length) { s with objs := s.objs ++ [.list xs] } := by exact t_list_o 
theorem m_tuple {r : Nat} : Wm (builtin c .tuple [.ref r]) s Q X = (match s.objs[r]? with
    | some (.list xs) => Q (.tup xs) s
    | _ => False) := by exact m_tuple_o 
theorem t_tuple {xs : List PV} : Wm (builtin c .tuple [.tup xs]) s Q X = Q (.tup xs) s := by exact t_tuple_o 
theorem m_set {r : Nat} : Wm (builtin c .set [.ref r]) s Q X = (match s.objs[r]? with
    | some (.list xs) => setOk xs = true ∧ Q (.ref s.objs.length) { s with objs := s.objs ++ [.set (dedup xs)] }
    | _ => False) := by exact m_set_o 
theorem m_meth {r m : Nat} {Q : Nat → Sto → Prop} : Wm (methM c (.ref r) m) s Q X = (match s.objs[r]? with
    | some (.inst cl fs) => (lookF fs m).isNone = true ∧ (match lookM c.meths cl m with | some f => Q f s | none => False)
    | _ => False) := by exact m_meth_o 
theorem m_all {r : Nat} : Wm (builtin c .all [.ref r]) s Q X = (match s.objs[r]? with
    | some (.list xs) => (match boolsB true xs with | some b => Q (.bl b) s | none => False)
    | _ => False) := by exact m_all_o 
theorem m_any {r : Nat} : Wm (builtin c .any [.ref r]) s Q X = (match s.objs[r]? with
    | some (.list xs) => (match boolsB false xs with | some b => Q (.bl b) s | none => False)
    | _ => False) := by exact m_any_o 
theorem m_sum {r : Nat} : Wm (builtin c .sum [.ref r]) s Q X = (match s.objs[r]? with
    | some (.list xs) => (match sumI xs with | some b => Q (.int b) s | none => False)
    | _ => False) := by exact m_sum_o 
theorem o_abs {i : Int} : Wm (builtin c .abs [.int i]) s Q X = Q (.int (if i < 0 then -i else i)) s := by exact o_abs_o 
theorem b_add {i j : Int} : Wm (binop .add (.int i) (.int j)) s Q X = Q (.int (i + j)) s := by exact b_add_o 
theorem b_sub {i j : Int} : Wm (binop .sub (.int i) (.int j)) s Q X = Q (.int (i - j)) s := by exact b_sub_o 
theorem b_mul {i j : Int} : Wm (binop .mul (.int i) (.int j)) s Q X = (i.natAbs.log2 + j.natAbs.log2 < 1000000 ∧ Q (.int (i * j)) s) := by exact b_mul_o 
theorem b_mod {i j : Int} : Wm (binop .mod (.int i) (.int j)) s Q X = (j ≠ 0 ∧ Q (.int (i.fmod j)) s) := by exact b_mod_o 
theorem b_fdiv {i j : Int} : Wm (binop .fdiv (.int i) (.int j)) s Q X = (j ≠ 0 ∧ j.natAbs.log2 < 9000 ∧ Q (.int (i.fdiv j)) s) := by exact b_fdiv_o 
theorem b_addS {x y : List Nat} : Wm (binop .add (.str x) (.str y)) s Q X = (x.length + y.length ≤ lineN ∧ Q (.str (x ++ y)) s) := by exact b_addS_o 
theorem b_addT {x y : List PV} : Wm (binop .add (.tup x) (.tup y)) s Q X = (x.length + y.length ≤ lineN ∧ Q (.tup (x ++ y)) s) := by exact b_addT_o 
theorem b_addL {r q : Nat} : Wm (binop .add (.ref r) (.ref q)) s Q X = (match s.objs[r]? with
    | some (.list x) => (match s.objs[q]? with
      | some (.list y) => x.length + y.length ≤ lineN ∧ Q (.ref s.objs.length) { s with objs := s.objs ++ [.list (x ++ y)] }
      | _ => False)
    | _ => False) := by exact b_addL_o 
theorem m_augI {o : BOp} {i j : Int} (h : o = .add ∨ o = .sub ∨ o = .mul) : Wm (augV o (.int i) (.int j)) s Q X = Wm (binop o (.int i) (.int j)) s Q X := by exact m_augI_o h
theorem m_aadd {i j : Int} : Wm (augV .add (.int i) (.int j)) s Q X = Q (.int (i + j)) s := by exact m_aadd_o 
theorem m_asub {i j : Int} : Wm (augV .sub (.int i) (.int j)) s Q X = Q (.int (i - j)) s := by exact m_asub_o 
theorem m_amul {i j : Int} : Wm (augV .mul (.int i) (.int j)) s Q X = (i.natAbs.log2 + j.natAbs.log2 < 1000000 ∧ Q (.int (i * j)) s) := by exact m_amul_o 
theorem fx_new {x : Xc} {t : Sto} (h : s.objs.length ≤ t.low) (hb : (x.fs.all fun p => below s.objs.length p.2) = true) : frX s X x t = X x ⟨s.objs, s.low, t.lk⟩ := by exact fx_new_o h hb
theorem fr_ref {r : Nat} {t : Sto} : frQ s Q (.ref r) t = (itT (s.objs.length ≤ t.low) ((itT (r < s.objs.length) (Q (.ref r) ⟨s.objs, s.low, t.lk⟩) (match t.objs[r]? with
      | some o => itT (belowO s.objs.length o = true) (Q (.ref s.objs.length) ⟨s.objs ++ [o], s.low, t.lk⟩) (Q (.ref r) ⟨t.objs, s.low, t.lk⟩)
      | none => False))) (Q (.ref r) ⟨t.objs, min s.low t.low, t.lk⟩)) := by exact fr_ref_o 
theorem fr_new' {r : Nat} {t : Sto} (h1 : s.objs.length ≤ t.low) (h2 : s.objs.length ≤ r) : frQ s Q (.ref r) t = (match t.objs[r]? with
      | some o => itT (belowO s.objs.length o = true) (Q (.ref s.objs.length) ⟨s.objs ++ [o], s.low, t.lk⟩) (Q (.ref r) ⟨t.objs, s.low, t.lk⟩)
      | none => False) := by exact fr_new'_o h1 h2
theorem fr_blQ {b : Bool} {t : Sto} : frQ s Q (.bl b) t = (itT (s.objs.length ≤ t.low) (Q (.bl b) ⟨s.objs, s.low, t.lk⟩) (Q (.bl b) ⟨t.objs, min s.low t.low, t.lk⟩)) := by exact fr_blQ_o 
theorem fr_intQ {b : Int} {t : Sto} : frQ s Q (.int b) t = (itT (s.objs.length ≤ t.low) (Q (.int b) ⟨s.objs, s.low, t.lk⟩) (Q (.int b) ⟨t.objs, min s.low t.low, t.lk⟩)) := by exact fr_intQ_o 
theorem fr_strQ {b : List Nat} {t : Sto} : frQ s Q (.str b) t = (itT (s.objs.length ≤ t.low) (Q (.str b) ⟨s.objs, s.low, t.lk⟩) (Q (.str b) ⟨t.objs, min s.low t.low, t.lk⟩)) := by exact fr_strQ_o 
theorem fr_nonQ  {t : Sto} : frQ s Q (.non) t = (itT (s.objs.length ≤ t.low) (Q (.non) ⟨s.objs, s.low, t.lk⟩) (Q (.non) ⟨t.objs, min s.low t.low, t.lk⟩)) := by exact fr_nonQ_o 
theorem fr_tupQ {xs : List PV} {t : Sto} : frQ s Q (.tup xs) t = (itT (s.objs.length ≤ t.low) ((itT (belows s.objs.length xs = true) (Q (.tup xs) ⟨s.objs, s.low, t.lk⟩) (Q (.tup xs) ⟨t.objs, s.low, t.lk⟩))) (Q (.tup xs) ⟨t.objs, min s.low t.low, t.lk⟩)) := by exact fr_tupQ_o 
end
theorem rangeW_eq {n : Nat} (h : n ≤ 16000000) {s : Sto} {Q : Walk → Sto → Prop} {X : Xc → Sto → Prop} : Wm (rangeW 0 (n : Int)) s Q X = Q ⟨(List.range n).map fun (i : Nat) => .int (i : Int), []⟩ s := by exact rangeW_eq_o h
section
variable {c : Ctx} {ρ : Env} {s : Sto} {O O' : List Ob} {lo lo' : Nat} {lk lk' : List Nat} {Q : PV → Sto → Prop} {X : Xc → Sto → Prop}
theorem w_lst' {es : List Ex} : Wm (evE c ρ (.lst es)) s Q X = Wm (evEs c ρ es) s (fun xs t => xs.length ≤ lineN ∧ stp t fun O lo lk => Q (.ref O.length) ⟨O ++ [.list xs], lo, lk⟩) X := by exact w_lst'_o 
theorem w_dic0' : Wm (evE c ρ (.dic [])) ⟨O, lo, lk⟩ Q X = Q (.ref O.length) ⟨O ++ [.dict []], lo, lk⟩ := by exact w_dic0'_o 
theorem w_bi' {b : BI} {es : List Ex} : Wm (evE c ρ (.bi b es)) ⟨O, lo, lk⟩ Q X = Wm (evEs c ρ es) ⟨O, O.length, lk⟩ (fun vs t => Wm (builtin c b vs) t (frQ ⟨O, lo, lk⟩ Q) (frX ⟨O, lo, lk⟩ X)) (frX ⟨O, lo, lk⟩ X) := by exact w_bi'_o 
theorem w_lc' {e : Ex} {own : List Nat} {tg : Tg} {it : Itr} {ifs : List Ex} : Wm (evE c ρ (.lc e (.mk own tg it ifs))) ⟨O, lo, lk⟩ Q X = Wm (evIt c ρ it) ⟨O, O.length, lk⟩ (fun w t => stp t fun O1 lo1 lk1 => Wm (turns (turnF c ρ own tg ifs e) w.items) ⟨O1, lo1, w.held ++ lk1⟩ (fun xs u => xs.length ≤ lineN ∧ stp u fun O2 lo2 _ => frQ ⟨O, lo, lk⟩ Q (.ref O2.length) ⟨O2 ++ [.list xs], lo2, lk1⟩) fun _ _ => False) (frX ⟨O, lo, lk⟩ X) := by exact w_lc'_o 
theorem w_sc' {e : Ex} {own : List Nat} {tg : Tg} {it : Itr} {ifs : List Ex} : Wm (evE c ρ (.sc e (.mk own tg it ifs))) ⟨O, lo, lk⟩ Q X = Wm (evIt c ρ it) ⟨O, O.length, lk⟩ (fun w t => stp t fun O1 lo1 lk1 => Wm (turns (turnF c ρ own tg ifs e) w.items) ⟨O1, lo1, w.held ++ lk1⟩ (fun xs u => setOk xs = true ∧ stp u fun O2 lo2 _ => frQ ⟨O, lo, lk⟩ Q (.ref O2.length) ⟨O2 ++ [.set (dedup xs)], lo2, lk1⟩) fun _ _ => False) (frX ⟨O, lo, lk⟩ X) := by exact w_sc'_o 
theorem w_lc2' {e : Ex} {own own2 : List Nat} {tg tg2 : Tg} {it it2 : Itr} {ifs ifs2 : List Ex} : Wm (evE c ρ (.lc2 e (.mk own tg it ifs) (.mk own2 tg2 it2 ifs2))) ⟨O, lo, lk⟩ Q X = Wm (evIt c ρ it) ⟨O, O.length, lk⟩ (fun w t => stp t fun O1 lo1 lk1 => Wm (turns2 (turnF2 c ρ own tg ifs own2 tg2 it2 ifs2 e) w.items) ⟨O1, lo1, w.held ++ lk1⟩ (fun xs u => xs.length ≤ lineN ∧ stp u fun O2 lo2 _ => frQ ⟨O, lo, lk⟩ Q (.ref O2.length) ⟨O2 ++ [.list xs], lo2, lk1⟩) fun _ _ => False) (frX ⟨O, lo, lk⟩ X) := by exact w_lc2'_o 
theorem alloc' {o : Ob} : Wm (alloc o) ⟨O, lo, lk⟩ Q X = Q (.ref O.length) ⟨O ++ [o], lo, lk⟩ := by exact alloc'_o 
theorem putOb' {r : Nat} {o : Ob} {Q : Unit → Sto → Prop} : Wm (putOb r o) ⟨O, lo, lk⟩ Q X = (lk.contains r = false ∧ Q () ⟨O.set r o, min lo r, lk⟩) := by exact putOb'_o 
theorem walk' {r : Nat} {Q : Walk → Sto → Prop} : Wm (walkV (.ref r)) ⟨O, lo, lk⟩ Q X = (match O[r]? with
    | some (.list xs) => Q ⟨xs, [r]⟩ ⟨O, lo, lk⟩
    | some (.dict kvs) => Q ⟨kvs.map (·.1), [r]⟩ ⟨O, lo, lk⟩
    | _ => False) := by exact walk'_o 
theorem len' {r : Nat} : Wm (builtin c .len [.ref r]) ⟨O, lo, lk⟩ Q X = (match O[r]? with
    | some (.list xs) => Q (.int xs.length) ⟨O, lo, lk⟩
    | some (.dict kvs) => Q (.int kvs.length) ⟨O, lo, lk⟩
    | some (.set xs) => Q (.int xs.length) ⟨O, lo, lk⟩
    | some (.inst cl _) => Wm (runQ c r cl nLen []) ⟨O, lo, lk⟩ (fun v t => match v with
      | .int i => decide (0 ≤ i) = true ∧ decide (i < 4611686018427387904) = true ∧ Q (.int i) t
      | _ => False) X
    | none => False) := by exact len'_o 
theorem fld' {r f : Nat} : Wm (getFld (.ref r) f) ⟨O, lo, lk⟩ Q X = (match O[r]? with
    | some (.inst _ fs) => (match lookF fs f with | some v => Q v ⟨O, lo, lk⟩ | none => False)
    | _ => False) := by exact fld'_o 
theorem setF' {r f : Nat} {v : PV} {Q : Unit → Sto → Prop} : Wm (setFld (.ref r) f v) ⟨O, lo, lk⟩ Q X = (match O[r]? with
    | some (.inst cl fs) => fs.length < 100 ∧ lk.contains r = false ∧ Q () ⟨O.set r (.inst cl (storeF fs f v)), min lo r, lk⟩
    | _ => False) := by exact setF'_o 
theorem item' {r : Nat} {j : Int} : Wm (getItem (.ref r) (.int j)) ⟨O, lo, lk⟩ Q X = (match O[r]? with
    | some (.list xs) => (match atO xs j with | some v => Q v ⟨O, lo, lk⟩ | none => False)
    | some (.dict kvs) => keyOk kvs (.int j) = true ∧ (match lookD kvs (.int j) with | some v => Q v ⟨O, lo, lk⟩ | none => False)
    | _ => False) := by exact item'_o 
theorem slice' {r : Nat} {l h : Option Int} : Wm (sliceV (.ref r) l h) ⟨O, lo, lk⟩ Q X = (match O[r]? with
    | some (.list xs) => Q (.ref O.length) ⟨O ++ [.list (cutL xs l h)], lo, lk⟩
    | _ => False) := by exact slice'_o 
theorem append' {r : Nat} {v : PV} : Wm (methB .append (.ref r) [v]) ⟨O, lo, lk⟩ Q X = (match O[r]? with
    | some (.list xs) => xs.length < lineN ∧ lk.contains r = false ∧ Q .non ⟨O.set r (.list (xs ++ [v])), min lo r, lk⟩
    | _ => False) := by exact append'_o 
theorem recv' {r : Nat} {Q : Unit → Sto → Prop} : Wm (recvB .append (.ref r)) ⟨O, lo, lk⟩ Q X = (match O[r]? with
    | some (.list _) => Q () ⟨O, lo, lk⟩
    | _ => False) := by exact recv'_o 
theorem list' {r : Nat} : Wm (builtin c .list [.ref r]) ⟨O, lo, lk⟩ Q X = (match O[r]? with
    | some (.list xs) => Q (.ref O.length) ⟨O ++ [.list xs], lo, lk⟩
    | some (.dict kvs) => Q (.ref O.length) ⟨O ++ [.list (kvs.map (·.1))], lo, lk⟩
    | _ => False) := by exact list'_o 
theorem tlist' {xs : List PV} : Wm (builtin c .list [.tup xs]) ⟨O, lo, lk⟩ Q X = Q (.ref O.length) ⟨O ++ [.list xs], lo, lk⟩ := by exact tlist'_o 
theorem tuple' {r : Nat} : Wm (builtin c .tuple [.ref r]) ⟨O, lo, lk⟩ Q X = (match O[r]? with
    | some (.list xs) => Q (.tup xs) ⟨O, lo, lk⟩
    | _ => False) := by exact tuple'_o 
theorem set' {r : Nat} : Wm (builtin c .set [.ref r]) ⟨O, lo, lk⟩ Q X = (match O[r]? with
    | some (.list xs) => setOk xs = true ∧ Q (.ref O.length) ⟨O ++ [.set (dedup xs)], lo, lk⟩
    | _ => False) := by exact set'_o 
theorem meth' {r m : Nat} {Q : Nat → Sto → Prop} : Wm (methM c (.ref r) m) ⟨O, lo, lk⟩ Q X = (match O[r]? with
    | some (.inst cl fs) => (lookF fs m).isNone = true ∧ (match lookM c.meths cl m with | some f => Q f ⟨O, lo, lk⟩ | none => False)
    | _ => False) := by exact meth'_o 
theorem all' {r : Nat} : Wm (builtin c .all [.ref r]) ⟨O, lo, lk⟩ Q X = (match O[r]? with
    | some (.list xs) => (match boolsB true xs with | some b => Q (.bl b) ⟨O, lo, lk⟩ | none => False)
    | _ => False) := by exact all'_o 
theorem any' {r : Nat} : Wm (builtin c .any [.ref r]) ⟨O, lo, lk⟩ Q X = (match O[r]? with
    | some (.list xs) => (match boolsB false xs with | some b => Q (.bl b) ⟨O, lo, lk⟩ | none => False)
    | _ => False) := by exact any'_o 
theorem sum' {r : Nat} : Wm (builtin c .sum [.ref r]) ⟨O, lo, lk⟩ Q X = (match O[r]? with
    | some (.list xs) => (match sumI xs with | some b => Q (.int b) ⟨O, lo, lk⟩ | none => False)
    | _ => False) := by exact sum'_o 
theorem addL' {r q : Nat} : Wm (binop .add (.ref r) (.ref q)) ⟨O, lo, lk⟩ Q X = (match O[r]? with
    | some (.list x) => (match O[q]? with
      | some (.list y) => x.length + y.length ≤ lineN ∧ Q (.ref O.length) ⟨O ++ [.list (x ++ y)], lo, lk⟩
      | _ => False)
    | _ => False) := by exact addL'_o 
theorem isi' {a : Ex} {ts : List Ty} : Wm (evE c ρ (.isi a ts)) s Q X = Wm (evE c ρ a) s (fun x t => stp t fun O lo lk => match isTys O x ts with | some b => Q (.bl b) ⟨O, lo, lk⟩ | none => False) X := by exact isi'_o 
theorem eqTm' {a b : List PV} : Wm (compareV c .eq (.tup a) (.tup b)) ⟨O, lo, lk⟩ Q X = (match eqD O (.tup a) (.tup b) with | some k => Q (.bl k) ⟨O, lo, lk⟩ | none => False) := by exact eqTm'_o 
theorem sorted0' {r : Nat} (h : O[r]? = some (.list [])) : Wm (builtin c .sorted [.ref r]) ⟨O, lo, lk⟩ Q X = Q (.ref O.length) ⟨O ++ [.list []], lo, lk⟩ := by exact sorted0'_o h
theorem mkI' {k f : Nat} {ws : List PV} (h : c.inits.lookup k = some f) : Wm (mkI c k ws) ⟨O, lo, lk⟩ Q X = Wm (c.fn f (.ref O.length :: ws)) ⟨O ++ [.inst k []], O.length, lk⟩ (fun v t => match v with | .non => frQ ⟨O, lo, lk⟩ Q (.ref O.length) t | _ => False) (frX ⟨O, lo, lk⟩ X) := by exact mkI'_o h
theorem eqI2' {r q cl : Nat} {fs gs : List (Nat × PV)} (h1 : O[r]? = some (.inst cl fs)) (h2 : O[q]? = some (.inst cl gs)) : Wm (compareV c .eq (.ref r) (.ref q)) ⟨O, lo, lk⟩ Q X = Wm (runQ c r cl nEq [.ref q]) ⟨O, lo, lk⟩ Q X := by exact eqI2'_o h1 h2
theorem qBl {b : Bool} : frQ ⟨O, lo, lk⟩ Q (.bl b) ⟨O', lo', lk'⟩ = (itT (O.length ≤ lo') (Q (.bl b) ⟨O, lo, lk'⟩) (Q (.bl b) ⟨O', min lo lo', lk'⟩)) := by exact qBl_o 
theorem qInt {b : Int} : frQ ⟨O, lo, lk⟩ Q (.int b) ⟨O', lo', lk'⟩ = (itT (O.length ≤ lo') (Q (.int b) ⟨O, lo, lk'⟩) (Q (.int b) ⟨O', min lo lo', lk'⟩)) := by exact qInt_o 
theorem qStr {b : List Nat} : frQ ⟨O, lo, lk⟩ Q (.str b) ⟨O', lo', lk'⟩ = (itT (O.length ≤ lo') (Q (.str b) ⟨O, lo, lk'⟩) (Q (.str b) ⟨O', min lo lo', lk'⟩)) := by exact qStr_o 
theorem qNon : frQ ⟨O, lo, lk⟩ Q .non ⟨O', lo', lk'⟩ = (itT (O.length ≤ lo') (Q .non ⟨O, lo, lk'⟩) (Q .non ⟨O', min lo lo', lk'⟩)) := by exact qNon_o 
theorem qTup {xs : List PV} : frQ ⟨O, lo, lk⟩ Q (.tup xs) ⟨O', lo', lk'⟩ = (itT (O.length ≤ lo') ((itT (belows O.length xs = true) (Q (.tup xs) ⟨O, lo, lk'⟩) (Q (.tup xs) ⟨O', lo, lk'⟩))) (Q (.tup xs) ⟨O', min lo lo', lk'⟩)) := by exact qTup_o 
theorem qRef {r : Nat} : frQ ⟨O, lo, lk⟩ Q (.ref r) ⟨O', lo', lk'⟩ = (itT (O.length ≤ lo') ((itT (r < O.length) (Q (.ref r) ⟨O, lo, lk'⟩) (match O'[r]? with
      | some o => itT (belowO O.length o = true) (Q (.ref O.length) ⟨O ++ [o], lo, lk'⟩) (Q (.ref r) ⟨O', lo, lk'⟩)
      | none => False))) (Q (.ref r) ⟨O', min lo lo', lk'⟩)) := by exact qRef_o 
theorem xNew {x : Xc} (h : O.length ≤ lo') (hb : (x.fs.all fun p => below O.length p.2) = true) : frX ⟨O, lo, lk⟩ X x ⟨O', lo', lk'⟩ = X x ⟨O, lo, lk'⟩ := by exact xNew_o h hb
theorem xOld {x : Xc} (h : ¬ O.length ≤ lo') : frX ⟨O, lo, lk⟩ X x ⟨O', lo', lk'⟩ = X x ⟨O', min lo lo', lk'⟩ := by exact xOld_o h
end
theorem s_for' {c : Ctx} {ρ : Env} {s : Sto} {Q : Flow → Env → Sto → Prop} {X : Xc → Env → Sto → Prop} {tg : Tg} {it : Itr} {b : List St} : Ws (exS c (.fors tg it b) ρ s) Q X = Wm (evIt c ρ it) s (fun w t => stp t fun O lo lk => Ws (forTurns (fun x ρ t => andThen ρ (M.quiet (asgT c ρ tg x)) (fun ρ' t => exSs c b ρ' t) t) w.items ρ ⟨O, lo, w.held ++ lk⟩) (fun f ρ u => stp u fun O1 lo1 _ => Q f ρ ⟨O1, lo1, lk⟩) fun x ρ u => stp u fun O1 lo1 _ => X x ρ ⟨O1, lo1, lk⟩) fun x t => X x ρ t := by exact s_for'_o 
theorem call_run' {O : List Ob} {lo : Nat} {lk : List Nat} {X : Xc → Sto → Prop} {p : Prog} {k f : Nat} {d : Df} {vs : List PV} {Q : PV → Sto → Prop} (e : p.defs[f]? = some d) (hl : vs.length = d.nps) (h : Ws (exSs (p.ctx (callK p k)) d.body (startE d vs) ⟨O, O.length, lk⟩) (fun g _ t => match g with
    | .rt v => frQ ⟨O, lo, lk⟩ Q v t
    | .nx => frQ ⟨O, lo, lk⟩ Q .non t
    | _ => False) fun x _ t => frX ⟨O, lo, lk⟩ X x t) : Wm (callK p (k + 1) f vs) ⟨O, lo, lk⟩ Q X := by exact call_run'_o e hl h
end TR
end
local macro_rules | `(tactic| push_cast [$ls,*]) => `(tactic| simp -dsimp only [$ls,*, TR.itT_true, TR.itT_false, ↓TR.stp_mk, ↓TR.qRef, ↓TR.qTup, TR.belows_str, TR.belows_int, TR.belows_map_str, TR.belows_map_int, TR.belows_map_bl, TR.bO_list, TR.bO_set, TR.bO_inst, TR.bO_dict, TR.blt_add, TR.blt_self, TL.belows, TL.below, TR.at_add, TR.at_zero, List.append_assoc, List.length_append, List.length_map, Nat.lt_irrefl, Bool.and_true, Bool.true_and, TR.set_add, TR.set_zero, TR.min_addl, TR.min_addr, TR.add_le_no, Nat.min_self, TL.lookF, TL.storeF, Nat.beq, TR.le_line, TR.add_lt_no, TR.le_add_yes, ↓TR.qTup, ↓TR.eqTm', beq_self_eq_true, decide_true, decide_false, eq_self, TL.isTys, TL.isTy, Option.isNone_none, Option.isNone_some, ↓TR.sorted0', ↓TR.w_runQ, ↓TR.w_lc2', ↓TR.w_turns2_nil, ↓TR.w_turns_nil, ↓TR.xOld, not_false_eq_true, ↓TR.xNew, List.zip_cons_cons, List.zip_nil_left, List.zip_nil_right, List.all_cons, List.all_nil, ↓TR.all', ↓TR.any', ↓TR.sum', TR.boolsB_all, TR.boolsB_any, Bool.false_and, Bool.and_false, Bool.not_false, Bool.not_true, ↓TR.walk', ↓TR.len', ↓TR.fld', ↓TR.setF', ↓TR.item', ↓TR.t_item, ↓TR.s_item, ↓TR.slice', ↓TR.t_slice, ↓TR.s_slice, ↓TR.append', ↓TR.recv', ↓TR.list', ↓TR.tlist', ↓TR.tuple', ↓TR.t_tuple, ↓TR.set', ↓TR.meth', ↓TR.o_abs, ↓TR.b_add, ↓TR.b_sub, ↓TR.b_mul, ↓TR.b_mod, ↓TR.b_fdiv, ↓TR.b_addS, ↓TR.b_addT, ↓TR.addL', ↓TR.m_aadd, ↓TR.m_asub, ↓TR.m_amul, TR.at_end, ↓TR.w_var, ↓TR.w_cst, ↓TR.w_glob, ↓TR.w_tup, ↓TR.w_lst', ↓TR.w_dic0', ↓TR.w_bin, ↓TR.w_neg, ↓TR.w_not, ↓TR.w_and, ↓TR.w_or, ↓TR.w_cmp, ↓TR.w_chn, ↓TR.w_ite, ↓TR.w_fld, ↓TR.w_idx, ↓TR.w_slc, ↓TR.w_rev, ↓TR.w_call, ↓TR.w_meth, ↓TR.w_new, ↓TR.w_bi', ↓TR.w_bm, ↓TR.isi', ↓TR.w_lc', ↓TR.w_sc', ↓TR.w_es0, ↓TR.w_es1, ↓TR.w_o0, ↓TR.w_o1, ↓TR.w_ts0, ↓TR.w_ts1, ↓TR.w_any, ↓TR.w_rng1, ↓TR.w_rng2, ↓TR.w_nm, ↓TR.w_tp, ↓TR.w_tgs0, ↓TR.w_tgs1, ↓TR.w_tfld, ↓TR.w_tsub, ↓TR.w_turnF, ↓TR.s_set, ↓TR.s_aug, ↓TR.s_if, ↓TR.s_ret, ↓TR.s_retN, ↓TR.s_exp, ↓TR.s_rse, ↓TR.s_brk, ↓TR.s_cnt, ↓TR.s_pass, ↓TR.s_for', ↓TR.s_try, ↓TR.s_h0, ↓TR.s_h1, ↓TR.s_turn, ↓TR.Ws_nil, ↓TR.Ws_cons, ↓TR.Wm_asB, ↓TR.Wm_asI, ↓TR.Wm_pure, ↓TR.Wm_ret, ↓TR.Wm_guard, ↓TR.alloc', ↓TR.Wm_bind, ↓TR.Wm_objsM, ↓TR.putOb', ↓TR.o_len_tup, ↓TR.o_len_str, ↓TR.o_walk_tup, ↓TR.o_walk_str, ↓TR.o_lt, ↓TR.o_gt, ↓TR.o_le, ↓TR.o_ge, ↓TR.o_eqI, ↓TR.o_neI, ↓TR.o_eqS, ↓TR.o_neS, ↓TR.o_eqB, ↓TR.o_neB, ↓TR.o_isN, ↓TR.o_isNotN, ↓TR.o_inS, TR.o_fn, TR.o_globs, TR.o_flds, TR.o_meths, ↓TR.qBl, ↓TR.qInt, ↓TR.qStr, ↓TR.qNon, Nat.le_refl, List.getElem?_cons_zero, List.getElem?_cons_succ, List.length_cons, List.length_nil, List.set_cons_zero, List.set_cons_succ, TL.wipeE, TL.bindS, List.map_cons, List.map_nil, List.cons_append, List.nil_append, List.append_nil, Nat.reduceAdd, Nat.reduceLT, Nat.reduceLeDiff, Nat.reduceSub, Nat.zero_add, Nat.add_zero, true_and, and_true, Bool.false_eq_true, if_false, if_true, and_self])
section
set_option maxRecDepth 100000
set_option maxHeartbeats 0
set_option autoImplicit false
namespace K53
open TL

/-- _wall: k -/
def b0 : List TL.St := [.exp (.neg (.cst .non))]

/-- BadSizes.__init__: self -/
def b1 : List TL.St := [.exp (.neg (.cst .non))]

/-- BadRow.__init__: self -/
def b2 : List TL.St := [.exp (.neg (.cst .non))]

/-- BadMany.__init__: self -/
def b3 : List TL.St := [.exp (.neg (.cst .non))]

/-- BadDeed.__init__: self -/
def b4 : List TL.St := [.exp (.neg (.cst .non))]

/-- Same.__init__: self -/
def b5 : List TL.St := [.exp (.neg (.cst .non))]

/-- Taken.__init__: self -/
def b6 : List TL.St := [.exp (.neg (.cst .non))]

/-- Full.__init__: self -/
def b7 : List TL.St := [.exp (.neg (.cst .non))]

/-- BadName.__init__: self -/
def b8 : List TL.St := [.exp (.neg (.cst .non))]

/-- Ring.__init__: self ring -/
def b9 : List TL.St := [.exp (.neg (.cst .non))]

/-- NoRows.__init__: self there -/
def b10 : List TL.St := [.exp (.neg (.cst .non))]

/-- NoColumn.__init__: self name -/
def b11 : List TL.St := [.exp (.neg (.cst .non))]

/-- NotBound.__init__: self -/
def b12 : List TL.St := [.exp (.neg (.cst .non))]

/-- multiplied: sizes found size -/
def b13 : List TL.St := [.set (.nm 1) (.cst (.int 1)), .fors (.nm 2) (.any (.var 0)) [.aug 1 .mul (.var 2)], .ret (.var 1)]

/-- look_sizes: sizes size -/
def b14 : List TL.St := [.ifs (.orE (.notE (.chn .le .le (.cst (.int 1)) (.bi .len [.var 0]) (.glob 0))) (.notE (.bi .all [.lc (.chn .le .le (.cst (.int 2)) (.var 1) (.glob 1)) (.mk [1] (.nm 1) (.any (.var 0)) [])]))) [.rse 2 []] [], .ifs (.cmp .gt (.call 13 [.var 0] [.arg 0]) (.glob 2)) [.rse 2 []] []]

/-- look_row: sizes row value size -/
def b15 : List TL.St := [.exp (.neg (.cst .non))]

/-- ring_of: web left loose walk column ahead ring at leans one -/
def b16 : List TL.St := [.exp (.neg (.cst .non))]

/-- web_with: many some column one other -/
def b17 : List TL.St := [.ret (.bi .tuple [.lc (.bi .tuple [.bi .sorted [.sc (.var 3) (.mk [3, 4] (.tp [.nm 3, .nm 4]) (.any (.var 1)) [.cmp .eq (.var 4) (.var 2)])]]) (.mk [2] (.nm 2) (.rng1 (.var 0)) [])])]

/-- Tally.__init__: self sizes -/
def b18 : List TL.St := [.exp (.call 14 [.var 1] [.arg 0]), .set (.fld 41 (.var 0)) (.bi .tuple [.var 1]), .set (.fld 42 (.var 0)) (.dic [])]

/-- Tally.__len__: self row turn -/
def b19 : List TL.St := [.ret (.bi .len [.lc2 (.var 1) (.mk [1, 2] (.nm 1) (.any (.fld 42 (.var 0))) []) (.mk [2] (.nm 2) (.rng1 (.idx (.fld 42 (.var 0)) (.var 1))) [])])]

/-- Tally.__eq__: self other -/
def b20 : List TL.St := [.ret (.andE (.isi (.var 1) [.tcls 14]) (.andE (.cmp .eq (.fld 41 (.var 0)) (.fld 41 (.var 1))) (.cmp .eq (.fld 42 (.var 0)) (.fld 42 (.var 1)))))]

/-- Tally.__repr__: self -/
def b21 : List TL.St := [.exp (.neg (.cst .non))]

/-- Tally.whole: self row -/
def b22 : List TL.St := [.ret (.bi .sum [.lc (.idx (.fld 42 (.var 0)) (.var 1)) (.mk [1] (.nm 1) (.any (.fld 42 (.var 0))) [])])]

/-- Tally.put: self row many -/
def b23 : List TL.St := [.exp (.neg (.cst .non))]

/-- Tally.take: self row many there -/
def b24 : List TL.St := [.exp (.neg (.cst .non))]

/-- Tally.count: self pairs -/
def b25 : List TL.St := [.exp (.neg (.cst .non))]

/-- Tally.rows: self row -/
def b26 : List TL.St := [.ret (.lc (.tup [.var 1, .idx (.fld 42 (.var 0)) (.var 1)]) (.mk [1] (.nm 1) (.any (.bi .sorted [.bi .list [.fld 42 (.var 0)]])) []))]

/-- Tally.table: self columns -/
def b27 : List TL.St := [.exp (.neg (.cst .non))]

/-- Tally.twin: self made -/
def b28 : List TL.St := [.exp (.neg (.cst .non))]

/-- is_name: text sign -/
def b29 : List TL.St := [.ret (.andE (.chn .le .le (.cst (.int 1)) (.bi .len [.var 0]) (.glob 5)) (.bi .all [.lc (.cmp .isIn (.var 1) (.glob 6)) (.mk [1] (.nm 1) (.any (.var 0)) [])]))]

/-- look_names: names name -/
def b30 : List TL.St := [.ifs (.orE (.notE (.bi .all [.lc (.call 29 [.var 1] [.arg 0]) (.mk [1] (.nm 1) (.any (.var 0)) [])])) (.cmp .ne (.bi .len [.sc (.var 1) (.mk [1] (.nm 1) (.any (.var 0)) [])]) (.bi .len [.var 0]))) [.rse 9 []] []]

/-- shown: deed -/
def b31 : List TL.St := [.ret (.ite (.cmp .eq (.idx (.var 0) (.cst (.int 0))) (.cst (.str [115, 101, 118, 101, 114, 97, 108]))) (.tup [.cst (.str [115, 101, 118, 101, 114, 97, 108]), .bi .list [.idx (.var 0) (.cst (.int 1))]]) (.var 0))]

/-- whole_deed: deed -/
def b32 : List TL.St := [.ifs (.cmp .isIn (.idx (.var 0) (.cst (.int 0))) (.tup [.cst (.str [112, 117, 116]), .cst (.str [116, 97, 107, 101])])) [.ret (.tup [.idx (.var 0) (.cst (.int 0)), .bi .tuple [.idx (.var 0) (.cst (.int 1))], .ite (.cmp .gt (.bi .len [.var 0]) (.cst (.int 2))) (.idx (.var 0) (.cst (.int 2))) (.cst (.int 1))])] [], .ret (.ite (.cmp .eq (.idx (.var 0) (.cst (.int 0))) (.cst (.str [108, 105, 109, 105, 116]))) (.tup [.cst (.str [108, 105, 109, 105, 116]), .ite (.cmp .gt (.bi .len [.var 0]) (.cst (.int 1))) (.idx (.var 0) (.cst (.int 1))) (.cst (.non))]) (.bi .tuple [.var 0]))]

/-- Reckoned.__init__: self -/
def b33 : List TL.St := [.set (.fld 43 (.var 0)) (.dic []), .set (.fld 44 (.var 0)) (.cst (.int 0))]

/-- Reckoned.reckon: self tally column leans ahead -/
def b34 : List TL.St := [.exp (.neg (.cst .non))]

/-- Reckoned.twin: self made -/
def b35 : List TL.St := [.exp (.neg (.cst .non))]

/-- Book.__init__: self columns name values -/
def b36 : List TL.St := [.fors (.tp [.nm 2, .nm 3]) (.any (.var 1)) [.exp (.call 30 [.lst [.var 2]] [.arg 0]), .exp (.call 30 [.bi .list [.var 3]] [.arg 0])], .exp (.call 30 [.lc (.var 2) (.mk [2, 3] (.tp [.nm 2, .nm 3]) (.any (.var 1)) [])] [.arg 0]), .set (.fld 45 (.var 0)) (.bi .tuple [.lc (.tup [.var 2, .bi .tuple [.var 3]]) (.mk [2, 3] (.tp [.nm 2, .nm 3]) (.any (.var 1)) [])]), .set (.fld 46 (.var 0)) (.new 14 [.bi .tuple [.lc (.bi .len [.var 3]) (.mk [2, 3] (.tp [.nm 2, .nm 3]) (.any (.var 1)) [])]] [.arg 0]), .set (.fld 47 (.var 0)) (.tup []), .set (.fld 48 (.var 0)) (.tup []), .set (.fld 49 (.var 0)) (.cst (.non)), .set (.fld 50 (.var 0)) (.lst []), .set (.fld 51 (.var 0)) (.lst []), .set (.fld 52 (.var 0)) (.lst []), .set (.fld 53 (.var 0)) (.new 15 [] [])]

/-- Book.__len__: self -/
def b37 : List TL.St := [.ret (.bi .len [.fld 46 (.var 0)])]

/-- Book.__eq__: self other -/
def b38 : List TL.St := [.ifs (.notE (.isi (.var 1) [.tcls 16])) [.ret (.cst (.bl false))] [], .ret (.andE (.cmp .eq (.fld 45 (.var 0)) (.fld 45 (.var 1))) (.cmp .eq (.meth 12 (.var 0) [] []) (.meth 12 (.var 1) [] [])))]

/-- Book.__repr__: self -/
def b39 : List TL.St := [.exp (.neg (.cst .non))]

/-- Book.__str__: self line -/
def b40 : List TL.St := [.exp (.neg (.cst .non))]

/-- Book.face: self -/
def b41 : List TL.St := [.ret (.tup [.meth 8 (.fld 46 (.var 0)) [] [], .fld 47 (.var 0), .fld 48 (.var 0), .fld 49 (.var 0)])]

/-- Book.page_lines: self found word some row many names one other name values value -/
def b42 : List TL.St := [.exp (.neg (.cst .non))]

/-- Book.stand: self -/
def b43 : List TL.St := [.ret (.tup [.meth 10 (.fld 46 (.var 0)) [] [], .fld 47 (.var 0), .fld 48 (.var 0), .fld 49 (.var 0), .bi .list [.fld 50 (.var 0)]])]

/-- Book.go_to: self stand rows done -/
def b44 : List TL.St := [.set (.tp [.nm 2, .fld 47 (.var 0), .fld 48 (.var 0), .fld 49 (.var 0), .nm 3]) (.var 1), .set (.fld 46 (.var 0)) (.meth 10 (.var 2) [] []), .set (.fld 50 (.var 0)) (.bi .list [.var 3])]

/-- Book.mark: self stand deed -/
def b45 : List TL.St := [.exp (.bm .append (.fld 51 (.var 0)) [.var 1]), .set (.fld 52 (.var 0)) (.lst []), .exp (.bm .append (.fld 50 (.var 0)) [.var 2])]

/-- Book.place_of: self name names one values -/
def b46 : List TL.St := [.exp (.neg (.cst .non))]

/-- Book.row_in: self row found word name values -/
def b47 : List TL.St := [.exp (.neg (.cst .non))]

/-- Book.put: self row many stand -/
def b48 : List TL.St := [.exp (.neg (.cst .non))]

/-- Book.take: self row many stand -/
def b49 : List TL.St := [.exp (.neg (.cst .non))]

/-- Book.turn: self row other stand here there -/
def b50 : List TL.St := [.exp (.neg (.cst .non))]

/-- Book.arrow_in: self one other arrow -/
def b51 : List TL.St := [.set (.nm 3) (.tup [.meth 17 (.var 0) [.var 1] [.arg 0], .meth 17 (.var 0) [.var 2] [.arg 0]]), .ifs (.cmp .eq (.idx (.var 3) (.cst (.int 0))) (.idx (.var 3) (.cst (.int 1)))) [.rse 6 []] [], .ifs (.orE (.cmp .isIn (.var 3) (.fld 47 (.var 0))) (.cmp .isIn (.var 3) (.fld 48 (.var 0)))) [.rse 7 []] [], .ret (.var 3)]

/-- Book.must: self one other arrow ring -/
def b52 : List TL.St := [.set (.nm 3) (.meth 20 (.var 0) [.var 1, .var 2] [.arg 0, .arg 1]), .set (.nm 4) (.call 16 [.call 17 [.bi .len [.fld 45 (.var 0)], .bin .add (.fld 47 (.var 0)) (.tup [.var 3])] [.arg 0, .arg 1]] [.arg 0]), .ifs (.cmp .isNot (.var 4) (.cst (.non))) [.rse 10 [.var 4]] [], .exp (.meth 16 (.var 0) [.meth 14 (.var 0) [] [], .tup [.cst (.str [109, 117, 115, 116]), .var 1, .var 2]] [.arg 0, .arg 1]), .set (.fld 47 (.var 0)) (.bi .tuple [.bi .sorted [.bin .add (.fld 47 (.var 0)) (.tup [.var 3])]])]

/-- Book.never: self one other arrow -/
def b53 : List TL.St := [.set (.nm 3) (.meth 20 (.var 0) [.var 1, .var 2] [.arg 0, .arg 1]), .exp (.meth 16 (.var 0) [.meth 14 (.var 0) [] [], .tup [.cst (.str [110, 101, 118, 101, 114]), .var 1, .var 2]] [.arg 0, .arg 1]), .set (.fld 48 (.var 0)) (.bi .tuple [.bi .sorted [.bin .add (.fld 48 (.var 0)) (.tup [.var 3])]])]

/-- Book.free: self one other arrow here -/
def b54 : List TL.St := [.exp (.neg (.cst .non))]

/-- Book.limit: self many -/
def b55 : List TL.St := [.ifs (.andE (.cmp .isNot (.var 1) (.cst (.non))) (.cmp .lt (.var 1) (.cst (.int 0)))) [.rse 4 []] [], .exp (.meth 16 (.var 0) [.meth 14 (.var 0) [] [], .tup [.cst (.str [108, 105, 109, 105, 116]), .var 1]] [.arg 0, .arg 1]), .set (.fld 49 (.var 0)) (.var 1)]

/-- Book.several: self deeds stand after rows musts nevers most done past gone deed -/
def b56 : List TL.St := [.exp (.neg (.cst .non))]

/-- Book.do: self deed word handed -/
def b57 : List TL.St := [.exp (.neg (.cst .non))]

/-- Book.do_rows: self word row many -/
def b58 : List TL.St := [.exp (.neg (.cst .non))]

/-- Book.do_pair: self word one other -/
def b59 : List TL.St := [.ifs (.cmp .eq (.var 1) (.cst (.str [109, 117, 115, 116]))) [.exp (.meth 21 (.var 0) [.var 2, .var 3] [.arg 0, .arg 1])] [.ifs (.cmp .eq (.var 1) (.cst (.str [110, 101, 118, 101, 114]))) [.exp (.meth 22 (.var 0) [.var 2, .var 3] [.arg 0, .arg 1])] [.ifs (.cmp .eq (.var 1) (.cst (.str [102, 114, 101, 101]))) [.exp (.meth 23 (.var 0) [.var 2, .var 3] [.arg 0, .arg 1])] [.exp (.meth 19 (.var 0) [.var 2, .var 3] [.arg 0, .arg 1])]]]]

/-- Book.bare: self -/
def b60 : List TL.St := [.exp (.neg (.cst .non))]

/-- Book.undo: self -/
def b61 : List TL.St := [.exp (.neg (.cst .non))]

/-- Book.redo: self -/
def b62 : List TL.St := [.exp (.neg (.cst .non))]

/-- Book.columns: self -/
def b63 : List TL.St := [.ret (.bi .list [.fld 45 (.var 0)])]

/-- Book.tally: self -/
def b64 : List TL.St := [.ret (.meth 10 (.fld 46 (.var 0)) [] [])]

/-- Book.bound: self -/
def b65 : List TL.St := [.exp (.neg (.cst .non))]

/-- Book.deeds: self deed -/
def b66 : List TL.St := [.ret (.lc (.call 31 [.var 1] [.arg 0]) (.mk [1] (.nm 1) (.any (.fld 50 (.var 0))) []))]

/-- Book.best: self ahead -/
def b67 : List TL.St := [.exp (.neg (.cst .non))]

/-- Book.share: self arrows ahead -/
def b68 : List TL.St := [.exp (.neg (.cst .non))]

/-- Book.pairs_in: self some -/
def b69 : List TL.St := [.exp (.neg (.cst .non))]

/-- Book.chance: self asked seen ahead -/
def b70 : List TL.St := [.exp (.neg (.cst .non))]

/-- Book.reckoned: self -/
def b71 : List TL.St := [.ret (.fld 44 (.fld 53 (.var 0)))]

/-- Book.twin: self made -/
def b72 : List TL.St := [.set (.nm 1) (.new 16 [.fld 45 (.var 0)] [.arg 0]), .exp (.meth 15 (.var 1) [.meth 14 (.var 0) [] []] [.arg 0]), .set (.fld 51 (.var 1)) (.bi .list [.fld 51 (.var 0)]), .set (.fld 52 (.var 1)) (.bi .list [.fld 52 (.var 0)]), .set (.fld 53 (.var 1)) (.meth 10 (.fld 53 (.var 0)) [] []), .ret (.var 1)]

/-- _law_draws: _law_cell _law_sizes _law_found _law_size _law_mixed _law_two _law_six -/
def b73 : List TL.St := [.ifs (.cmp .lt (.bi .abs [.var 0]) (.bin .pow (.cst (.int 10)) (.cst (.int 18)))) [.set (.nm 4) (.bin .mod (.bin .add (.bin .mul (.var 0) (.cst (.int 48271))) (.cst (.int 11))) (.cst (.int 2147483647))), .set (.nm 5) (.bin .mod (.bin .add (.bin .add (.bin .mul (.var 4) (.var 4)) (.bin .mul (.cst (.int 40692)) (.var 4))) (.var 0)) (.cst (.int 2147483399))), .set (.nm 6) (.bin .mod (.bin .add (.bin .mul (.var 5) (.cst (.int 16807))) (.var 4)) (.cst (.int 1000000007))), .set (.nm 0) (.bin .add (.var 5) (.bin .mul (.cst (.int 2147483399)) (.bin .add (.var 6) (.bin .mul (.cst (.int 1000000007)) (.var 4)))))] [.set (.nm 0) (.bin .sub (.bi .abs [.var 0]) (.bin .pow (.cst (.int 10)) (.cst (.int 18))))], .set (.nm 2) (.lst []), .fors (.nm 3) (.any (.var 1)) [.exp (.bm .append (.var 2) [.bin .mod (.var 0) (.var 3)]), .set (.nm 0) (.bin .fdiv (.var 0) (.var 3))], .ret (.var 2)]

/-- _law_same: _law_found _law_due _law_k -/
def b74 : List TL.St := [.ifs (.cmp .is (.var 1) (.cst (.non))) [.ret (.cmp .is (.var 0) (.cst (.non)))] [], .ifs (.isi (.var 1) [.tstr]) [.ret (.andE (.isi (.var 0) [.tstr]) (.cmp .eq (.var 0) (.var 1)))] [], .ifs (.isi (.var 1) [.tint]) [.ret (.andE (.isi (.var 0) [.tint]) (.andE (.cmp .eq (.isi (.var 0) [.tbool]) (.isi (.var 1) [.tbool])) (.cmp .eq (.var 0) (.var 1))))] [], .ifs (.orE (.cmp .ne (.isi (.var 1) [.tlist]) (.isi (.var 0) [.tlist])) (.cmp .ne (.isi (.var 1) [.ttuple]) (.isi (.var 0) [.ttuple]))) [.ret (.cst (.bl false))] [], .ret (.andE (.cmp .eq (.bi .len [.var 0]) (.bi .len [.var 1])) (.bi .all [.lc (.call 74 [.idx (.var 0) (.var 2), .idx (.var 1) (.var 2)] [.arg 0, .arg 1]) (.mk [2] (.nm 2) (.rng1 (.bi .len [.var 1])) [])]))]

/-- _law_good_names: _law_some _law_letters _law_name _law_sign -/
def b75 : List TL.St := [.set (.nm 1) (.cst (.str [97, 98, 99, 100, 101, 102, 103, 104, 105, 106, 107, 108, 109, 110, 111, 112, 113, 114, 115, 116, 117, 118, 119, 120, 121, 122])), .ifs (.cmp .ne (.bi .len [.bi .set [.var 0]]) (.bi .len [.var 0])) [.ret (.cst (.bl false))] [], .ret (.bi .all [.lc (.andE (.chn .le .le (.cst (.int 1)) (.bi .len [.var 2]) (.cst (.int 8))) (.bi .all [.lc (.cmp .isIn (.var 3) (.var 1)) (.mk [3] (.nm 3) (.any (.var 2)) [])])) (.mk [2] (.nm 2) (.any (.var 0)) [])])]

/-- _law_word_due: _law_columns _law_whole _law_good _law_name _law_values -/
def b76 : List TL.St := [.ifs (.notE (.bi .all [.lc (.andE (.call 75 [.lst [.var 3]] [.arg 0]) (.call 75 [.bi .list [.var 4]] [.arg 0])) (.mk [3, 4] (.tp [.nm 3, .nm 4]) (.any (.var 0)) [])])) [.ret (.cst (.str [98, 97, 100, 110, 97, 109, 101]))] [], .ifs (.notE (.call 75 [.lc (.var 3) (.mk [3, 4] (.tp [.nm 3, .nm 4]) (.any (.var 0)) [])] [.arg 0])) [.ret (.cst (.str [98, 97, 100, 110, 97, 109, 101]))] [], .set (.nm 1) (.cst (.int 1)), .fors (.tp [.nm 3, .nm 4]) (.any (.var 0)) [.set (.nm 1) (.bin .mul (.var 1) (.bi .len [.var 4]))], .set (.nm 2) (.andE (.chn .le .le (.cst (.int 1)) (.bi .len [.var 0]) (.cst (.int 6))) (.andE (.bi .all [.lc (.chn .le .le (.cst (.int 2)) (.bi .len [.var 4]) (.cst (.int 4))) (.mk [3, 4] (.tp [.nm 3, .nm 4]) (.any (.var 0)) [])]) (.cmp .le (.var 1) (.cst (.int 300))))), .ret (.ite (.var 2) (.cst (.str [])) (.cst (.str [98, 97, 100, 115, 105, 122, 101, 115])))]

/-- law: _law_script _law_cell _law_drawn _law_columns _law_k _law_odd _law_word _law_handed _law_book e _law_size _law_at _law_others _law_other -/
def b77 : List TL.St := [.set (.nm 0) (.slc (.var 0) none (some (.cst (.int 63)))), .fors (.nm 1) (.any (.bin .add (.var 0) (.lst [.cst (.int 0), .cst (.int 1), .cst (.int 2)]))) [.set (.nm 2) (.call 73 [.var 1, .lst [.cst (.int 8), .cst (.int 5), .cst (.int 5), .cst (.int 5), .cst (.int 5), .cst (.int 5), .cst (.int 5), .cst (.int 5), .cst (.int 8), .cst (.int 9), .cst (.int 3)]] [.arg 0, .arg 1]), .set (.nm 3) (.lst []), .fors (.nm 4) (.rng1 (.idx (.var 2) (.cst (.int 0)))) [.set (.nm 10) (.idx (.lst [.cst (.int 2), .cst (.int 2), .cst (.int 3), .cst (.int 4), .cst (.int 2)]) (.idx (.var 2) (.bin .add (.cst (.int 1)) (.var 4)))), .exp (.bm .append (.var 3) [.tup [.bin .add (.slc (.cst (.str [99, 111, 108, 117, 109, 110])) none (some (.bin .add (.cst (.int 1)) (.bin .mod (.var 4) (.cst (.int 6)))))) (.idx (.cst (.str [97, 98, 99, 100, 101, 102, 103])) (.var 4)), .bi .tuple [.slc (.lst [.cst (.str [110, 111]), .cst (.str [121, 101, 115]), .cst (.str [109, 97, 121, 98, 101]), .cst (.str [110, 101, 118, 101, 114])]) none (some (.var 10))]]])], .set (.nm 5) (.idx (.lst [.cst (.str [97, 98, 99, 100, 101, 102, 103, 104, 105]), .cst (.str []), .cst (.str [65, 98]), .cst (.str [97, 49]), .cst (.str [97, 98, 99, 100, 101, 102, 103, 104]), .cst (.str [110, 111]), .cst (.str [97, 32, 98]), .ite (.cmp .ne (.var 3) (.lst [])) (.idx (.idx (.var 3) (.cst (.int 0))) (.cst (.int 0))) (.cst (.str [120]))]) (.idx (.var 2) (.cst (.int 8)))), .ifs (.cmp .ne (.var 3) (.lst [])) [.set (.nm 11) (.bin .mod (.idx (.var 2) (.cst (.int 9))) (.bi .len [.var 3])), .ifs (.cmp .eq (.idx (.var 2) (.cst (.int 10))) (.cst (.int 0))) [.set (.sub (.var 3) (.var 11)) (.tup [.var 5, .idx (.idx (.var 3) (.var 11)) (.cst (.int 1))])] [], .ifs (.cmp .eq (.idx (.var 2) (.cst (.int 9))) (.cst (.int 7))) [.set (.sub (.var 3) (.var 11)) (.tup [.idx (.idx (.var 3) (.var 11)) (.cst (.int 0)), .slc (.idx (.idx (.var 3) (.var 11)) (.cst (.int 1))) none (some (.cst (.int 1)))])] [], .ifs (.cmp .eq (.idx (.var 2) (.cst (.int 9))) (.cst (.int 8))) [.set (.sub (.var 3) (.var 11)) (.tup [.idx (.idx (.var 3) (.var 11)) (.cst (.int 0)), .bin .add (.idx (.idx (.var 3) (.var 11)) (.cst (.int 1))) (.tup [.var 5, .cst (.str [109, 111, 114, 101]), .cst (.str [109, 111, 115, 116])])])] []] [], .set (.nm 6) (.cst (.str [])), .set (.nm 7) (.bi .list [.var 3]), .set (.nm 8) (.cst (.non)), .tryE [.set (.nm 8) (.new 16 [.ite (.cmp .gt (.idx (.var 2) (.cst (.int 1))) (.cst (.int 0))) (.var 7) (.bi .tuple [.var 7])] [.arg 0])] [.mk [9, 2] (some 9) [.set (.nm 6) (.exf 54)]], .ifs (.cmp .ne (.var 6) (.call 76 [.var 3] [.arg 0])) [.ret (.cst (.bl false))] [], .ifs (.cmp .eq (.var 6) (.cst (.str []))) [.exp (.bm .append (.var 7) [.tup [.cst (.str [108, 97, 116, 101]), .tup [.cst (.str [110, 111]), .cst (.str [121, 101, 115])]]]), .ifs (.orE (.notE (.call 74 [.meth 32 (.var 8) [] [], .var 3] [.arg 0, .arg 1])) (.orE (.cmp .ne (.bi .len [.var 8]) (.cst (.int 0))) (.notE (.cmp .eq (.var 8) (.new 16 [.var 3] [.arg 0]))))) [.ret (.cst (.bl false))] [], .set (.nm 12) (.lst [.bin .add (.lst [.tup [.cst (.str [108, 97, 116, 101]), .idx (.idx (.var 3) (.cst (.int 0))) (.cst (.int 1))]]) (.slc (.var 3) (some (.cst (.int 1))) none), .bin .add (.lst [.tup [.idx (.idx (.var 3) (.cst (.int 0))) (.cst (.int 0)), .rev (.idx (.idx (.var 3) (.cst (.int 0))) (.cst (.int 1)))]]) (.slc (.var 3) (some (.cst (.int 1))) none)]), .exp (.bm .append (.var 12) [.bin .add (.lst [.tup [.idx (.idx (.var 3) (.cst (.int 0))) (.cst (.int 0)), .bin .add (.tup [.cst (.str [119])]) (.slc (.idx (.idx (.var 3) (.cst (.int 0))) (.cst (.int 1))) (some (.cst (.int 1))) none)]]) (.slc (.var 3) (some (.cst (.int 1))) none)]), .ifs (.bi .any [.lc (.orE (.cmp .eq (.var 8) (.new 16 [.var 13] [.arg 0])) (.cmp .eq (.new 16 [.var 13] [.arg 0]) (.var 8))) (.mk [13] (.nm 13) (.any (.var 12)) [])]) [.ret (.cst (.bl false))] []] []], .ret (.cst (.bl true))]

def defs : List Df := ([
  ⟨1, 1, b0⟩,
  ⟨1, 1, b1⟩,
  ⟨1, 1, b2⟩,
  ⟨1, 1, b3⟩,
  ⟨1, 1, b4⟩,
  ⟨1, 1, b5⟩,
  ⟨1, 1, b6⟩,
  ⟨1, 1, b7⟩,
  ⟨1, 1, b8⟩,
  ⟨2, 2, b9⟩,
  ⟨2, 2, b10⟩,
  ⟨2, 2, b11⟩,
  ⟨1, 1, b12⟩,
  ⟨1, 3, b13⟩,
  ⟨1, 2, b14⟩,
  ⟨2, 4, b15⟩,
  ⟨1, 10, b16⟩,
  ⟨2, 5, b17⟩,
  ⟨2, 2, b18⟩,
  ⟨1, 3, b19⟩,
  ⟨2, 2, b20⟩,
  ⟨1, 1, b21⟩,
  ⟨1, 2, b22⟩,
  ⟨3, 3, b23⟩,
  ⟨3, 4, b24⟩,
  ⟨2, 2, b25⟩,
  ⟨1, 2, b26⟩,
  ⟨2, 2, b27⟩,
  ⟨1, 2, b28⟩,
  ⟨1, 2, b29⟩] : List (Df)) ++ ([
  ⟨1, 2, b30⟩,
  ⟨1, 1, b31⟩,
  ⟨1, 1, b32⟩,
  ⟨1, 1, b33⟩,
  ⟨5, 5, b34⟩,
  ⟨1, 2, b35⟩,
  ⟨2, 4, b36⟩,
  ⟨1, 1, b37⟩,
  ⟨2, 2, b38⟩,
  ⟨1, 1, b39⟩,
  ⟨1, 2, b40⟩,
  ⟨1, 1, b41⟩,
  ⟨1, 12, b42⟩,
  ⟨1, 1, b43⟩,
  ⟨2, 4, b44⟩,
  ⟨3, 3, b45⟩,
  ⟨2, 5, b46⟩,
  ⟨2, 6, b47⟩,
  ⟨3, 4, b48⟩,
  ⟨3, 4, b49⟩,
  ⟨3, 6, b50⟩,
  ⟨3, 4, b51⟩,
  ⟨3, 5, b52⟩,
  ⟨3, 4, b53⟩,
  ⟨3, 5, b54⟩,
  ⟨2, 2, b55⟩,
  ⟨2, 12, b56⟩,
  ⟨2, 4, b57⟩,
  ⟨4, 4, b58⟩,
  ⟨4, 4, b59⟩] : List (Df)) ++ ([
  ⟨1, 1, b60⟩,
  ⟨1, 1, b61⟩,
  ⟨1, 1, b62⟩,
  ⟨1, 1, b63⟩,
  ⟨1, 1, b64⟩,
  ⟨1, 1, b65⟩,
  ⟨1, 2, b66⟩,
  ⟨2, 2, b67⟩,
  ⟨3, 3, b68⟩,
  ⟨2, 2, b69⟩,
  ⟨4, 4, b70⟩,
  ⟨1, 1, b71⟩,
  ⟨1, 2, b72⟩,
  ⟨2, 7, b73⟩,
  ⟨2, 3, b74⟩,
  ⟨1, 4, b75⟩,
  ⟨1, 5, b76⟩,
  ⟨1, 14, b77⟩] : List (Df))

def prog : Prog := { defs := defs, meths := [((14, 0), 19), ((14, 1), 20), ((14, 3), 21), ((14, 4), 22), ((14, 5), 23), ((14, 6), 24), ((14, 7), 25), ((14, 8), 26), ((14, 9), 27), ((14, 10), 28), ((15, 11), 34), ((15, 10), 35), ((16, 0), 37), ((16, 1), 38), ((16, 3), 39), ((16, 2), 40), ((16, 12), 41), ((16, 13), 42), ((16, 14), 43), ((16, 15), 44), ((16, 16), 45), ((16, 17), 46), ((16, 18), 47), ((16, 5), 48), ((16, 6), 49), ((16, 19), 50), ((16, 20), 51), ((16, 21), 52), ((16, 22), 53), ((16, 23), 54), ((16, 24), 55), ((16, 25), 56), ((16, 26), 57), ((16, 27), 58), ((16, 28), 59), ((16, 29), 60), ((16, 30), 61), ((16, 31), 62), ((16, 32), 63), ((16, 33), 64), ((16, 34), 65), ((16, 35), 66), ((16, 36), 67), ((16, 37), 68), ((16, 38), 69), ((16, 39), 70), ((16, 40), 71), ((16, 10), 72)], inits := [(14, 18), (15, 33), (16, 36)], globs := [(.int 6), (.int 4), (.int 300), (.int 1), (.int 10000), (.int 8), (.str [97, 98, 99, 100, 101, 102, 103, 104, 105, 106, 107, 108, 109, 110, 111, 112, 113, 114, 115, 116, 117, 118, 119, 120, 121, 122])], subs := [(0, [0]), (2, [2, 0]), (3, [3, 0]), (4, [4, 0]), (5, [5, 0]), (6, [6, 0]), (7, [7, 0]), (8, [8, 0]), (9, [9, 0]), (10, [10, 0]), (11, [11, 0])], flds := [(2, [(54, .dfl (.str [98, 97, 100, 115, 105, 122, 101, 115]))]), (3, [(54, .dfl (.str [98, 97, 100, 114, 111, 119]))]), (4, [(54, .dfl (.str [98, 97, 100, 109, 97, 110, 121]))]), (5, [(54, .dfl (.str [98, 97, 100, 100, 101, 101, 100]))]), (6, [(54, .dfl (.str [115, 97, 109, 101]))]), (7, [(54, .dfl (.str [116, 97, 107, 101, 110]))]), (8, [(54, .dfl (.str [102, 117, 108, 108]))]), (9, [(54, .dfl (.str [98, 97, 100, 110, 97, 109, 101]))]), (10, [(54, .dfl (.str [114, 105, 110, 103])), (55, .arg 0)]), (11, [(54, .dfl (.str [110, 111, 114, 111, 119, 115])), (56, .arg 0)])] }

/-- the law stands at 44, its def is 77 -/
def lawAt : Nat := 44
def lawFn : Nat := 77

end K53
end

section
set_option maxRecDepth 100000
set_option maxHeartbeats 0
set_option autoImplicit false
namespace K53
open TL PySem PySem.Spec PyProof.Rows L2

abbrev pw : Program := PySem.Challenge.pw_tallyloom_k53_books_of_columns_refused
abbrev rw : PySem.W.OpenLaw := PySem.Challenge.rw_tallyloom_k53_books_of_columns_refused

def top (i : Nat) : Stmt := pw.main.body.getD i (.Pass ⟨0, 0, 0, 0⟩)
def met (i j : Nat) : Stmt := (rowsOf (top i)).getD j (.Pass ⟨0, 0, 0, 0⟩)

def fns : List He.DefD := ([
  ⟨("_wall", none), "_wall", "_wall", defArgs (top 0), defBody (top 0), defScope (top 0), [], []⟩,
  ⟨("BadSizes", some "__init__"), "__init__", "BadSizes.__init__", defArgs (met 4 0), defBody (met 4 0), defScope (met 4 0), [], []⟩,
  ⟨("BadRow", some "__init__"), "__init__", "BadRow.__init__", defArgs (met 5 0), defBody (met 5 0), defScope (met 5 0), [], []⟩,
  ⟨("BadMany", some "__init__"), "__init__", "BadMany.__init__", defArgs (met 6 0), defBody (met 6 0), defScope (met 6 0), [], []⟩,
  ⟨("BadDeed", some "__init__"), "__init__", "BadDeed.__init__", defArgs (met 7 0), defBody (met 7 0), defScope (met 7 0), [], []⟩,
  ⟨("Same", some "__init__"), "__init__", "Same.__init__", defArgs (met 8 0), defBody (met 8 0), defScope (met 8 0), [], []⟩,
  ⟨("Taken", some "__init__"), "__init__", "Taken.__init__", defArgs (met 9 0), defBody (met 9 0), defScope (met 9 0), [], []⟩,
  ⟨("Full", some "__init__"), "__init__", "Full.__init__", defArgs (met 10 0), defBody (met 10 0), defScope (met 10 0), [], []⟩,
  ⟨("BadName", some "__init__"), "__init__", "BadName.__init__", defArgs (met 11 0), defBody (met 11 0), defScope (met 11 0), [], []⟩,
  ⟨("Ring", some "__init__"), "__init__", "Ring.__init__", defArgs (met 12 0), defBody (met 12 0), defScope (met 12 0), [], []⟩,
  ⟨("NoRows", some "__init__"), "__init__", "NoRows.__init__", defArgs (met 13 0), defBody (met 13 0), defScope (met 13 0), [], []⟩,
  ⟨("NoColumn", some "__init__"), "__init__", "NoColumn.__init__", defArgs (met 14 0), defBody (met 14 0), defScope (met 14 0), [], []⟩,
  ⟨("NotBound", some "__init__"), "__init__", "NotBound.__init__", defArgs (met 15 0), defBody (met 15 0), defScope (met 15 0), [], []⟩,
  ⟨("multiplied", none), "multiplied", "multiplied", defArgs (top 20), defBody (top 20), defScope (top 20), [], []⟩,
  ⟨("look_sizes", none), "look_sizes", "look_sizes", defArgs (top 21), defBody (top 21), defScope (top 21), [], []⟩,
  ⟨("look_row", none), "look_row", "look_row", defArgs (top 22), defBody (top 22), defScope (top 22), [], []⟩,
  ⟨("ring_of", none), "ring_of", "ring_of", defArgs (top 24), defBody (top 24), defScope (top 24), [], []⟩,
  ⟨("web_with", none), "web_with", "web_with", defArgs (top 25), defBody (top 25), defScope (top 25), [], []⟩,
  ⟨("Tally", some "__init__"), "__init__", "Tally.__init__", defArgs (met 29 0), defBody (met 29 0), defScope (met 29 0), [], []⟩,
  ⟨("Tally", some "__len__"), "__len__", "Tally.__len__", defArgs (met 29 1), defBody (met 29 1), defScope (met 29 1), [], []⟩,
  ⟨("Tally", some "__eq__"), "__eq__", "Tally.__eq__", defArgs (met 29 2), defBody (met 29 2), defScope (met 29 2), [], []⟩,
  ⟨("Tally", some "__repr__"), "__repr__", "Tally.__repr__", defArgs (met 29 3), defBody (met 29 3), defScope (met 29 3), [], []⟩,
  ⟨("Tally", some "whole"), "whole", "Tally.whole", defArgs (met 29 4), defBody (met 29 4), defScope (met 29 4), [], []⟩,
  ⟨("Tally", some "put"), "put", "Tally.put", defArgs (met 29 5), defBody (met 29 5), defScope (met 29 5), [.int 1], []⟩,
  ⟨("Tally", some "take"), "take", "Tally.take", defArgs (met 29 6), defBody (met 29 6), defScope (met 29 6), [.int 1], []⟩,
  ⟨("Tally", some "count"), "count", "Tally.count", defArgs (met 29 7), defBody (met 29 7), defScope (met 29 7), [.adr (He.dflAt ("Tally", some "count") 0)], []⟩,
  ⟨("Tally", some "rows"), "rows", "Tally.rows", defArgs (met 29 8), defBody (met 29 8), defScope (met 29 8), [], []⟩,
  ⟨("Tally", some "table"), "table", "Tally.table", defArgs (met 29 9), defBody (met 29 9), defScope (met 29 9), [], []⟩,
  ⟨("Tally", some "twin"), "twin", "Tally.twin", defArgs (met 29 10), defBody (met 29 10), defScope (met 29 10), [], []⟩,
  ⟨("is_name", none), "is_name", "is_name", defArgs (top 33), defBody (top 33), defScope (top 33), [], []⟩] : List (He.DefD)) ++ ([
  ⟨("look_names", none), "look_names", "look_names", defArgs (top 34), defBody (top 34), defScope (top 34), [], []⟩,
  ⟨("shown", none), "shown", "shown", defArgs (top 35), defBody (top 35), defScope (top 35), [], []⟩,
  ⟨("whole_deed", none), "whole_deed", "whole_deed", defArgs (top 36), defBody (top 36), defScope (top 36), [], []⟩,
  ⟨("Reckoned", some "__init__"), "__init__", "Reckoned.__init__", defArgs (met 37 0), defBody (met 37 0), defScope (met 37 0), [], []⟩,
  ⟨("Reckoned", some "reckon"), "reckon", "Reckoned.reckon", defArgs (met 37 1), defBody (met 37 1), defScope (met 37 1), [], []⟩,
  ⟨("Reckoned", some "twin"), "twin", "Reckoned.twin", defArgs (met 37 2), defBody (met 37 2), defScope (met 37 2), [], []⟩,
  ⟨("Book", some "__init__"), "__init__", "Book.__init__", defArgs (met 38 0), defBody (met 38 0), defScope (met 38 0), [], []⟩,
  ⟨("Book", some "__len__"), "__len__", "Book.__len__", defArgs (met 38 1), defBody (met 38 1), defScope (met 38 1), [], []⟩,
  ⟨("Book", some "__eq__"), "__eq__", "Book.__eq__", defArgs (met 38 2), defBody (met 38 2), defScope (met 38 2), [], []⟩,
  ⟨("Book", some "__repr__"), "__repr__", "Book.__repr__", defArgs (met 38 3), defBody (met 38 3), defScope (met 38 3), [], []⟩,
  ⟨("Book", some "__str__"), "__str__", "Book.__str__", defArgs (met 38 4), defBody (met 38 4), defScope (met 38 4), [], []⟩,
  ⟨("Book", some "face"), "face", "Book.face", defArgs (met 38 5), defBody (met 38 5), defScope (met 38 5), [], []⟩,
  ⟨("Book", some "page_lines"), "page_lines", "Book.page_lines", defArgs (met 38 6), defBody (met 38 6), defScope (met 38 6), [], []⟩,
  ⟨("Book", some "stand"), "stand", "Book.stand", defArgs (met 38 7), defBody (met 38 7), defScope (met 38 7), [], []⟩,
  ⟨("Book", some "go_to"), "go_to", "Book.go_to", defArgs (met 38 8), defBody (met 38 8), defScope (met 38 8), [], []⟩,
  ⟨("Book", some "mark"), "mark", "Book.mark", defArgs (met 38 9), defBody (met 38 9), defScope (met 38 9), [], []⟩,
  ⟨("Book", some "place_of"), "place_of", "Book.place_of", defArgs (met 38 10), defBody (met 38 10), defScope (met 38 10), [], []⟩,
  ⟨("Book", some "row_in"), "row_in", "Book.row_in", defArgs (met 38 11), defBody (met 38 11), defScope (met 38 11), [], []⟩,
  ⟨("Book", some "put"), "put", "Book.put", defArgs (met 38 12), defBody (met 38 12), defScope (met 38 12), [.int 1], []⟩,
  ⟨("Book", some "take"), "take", "Book.take", defArgs (met 38 13), defBody (met 38 13), defScope (met 38 13), [.int 1], []⟩,
  ⟨("Book", some "turn"), "turn", "Book.turn", defArgs (met 38 14), defBody (met 38 14), defScope (met 38 14), [], []⟩,
  ⟨("Book", some "arrow_in"), "arrow_in", "Book.arrow_in", defArgs (met 38 15), defBody (met 38 15), defScope (met 38 15), [], []⟩,
  ⟨("Book", some "must"), "must", "Book.must", defArgs (met 38 16), defBody (met 38 16), defScope (met 38 16), [], []⟩,
  ⟨("Book", some "never"), "never", "Book.never", defArgs (met 38 17), defBody (met 38 17), defScope (met 38 17), [], []⟩,
  ⟨("Book", some "free"), "free", "Book.free", defArgs (met 38 18), defBody (met 38 18), defScope (met 38 18), [], []⟩,
  ⟨("Book", some "limit"), "limit", "Book.limit", defArgs (met 38 19), defBody (met 38 19), defScope (met 38 19), [.non], []⟩,
  ⟨("Book", some "several"), "several", "Book.several", defArgs (met 38 20), defBody (met 38 20), defScope (met 38 20), [], []⟩,
  ⟨("Book", some "do"), "do", "Book.do", defArgs (met 38 21), defBody (met 38 21), defScope (met 38 21), [], []⟩,
  ⟨("Book", some "do_rows"), "do_rows", "Book.do_rows", defArgs (met 38 22), defBody (met 38 22), defScope (met 38 22), [], []⟩,
  ⟨("Book", some "do_pair"), "do_pair", "Book.do_pair", defArgs (met 38 23), defBody (met 38 23), defScope (met 38 23), [], []⟩] : List (He.DefD)) ++ ([
  ⟨("Book", some "bare"), "bare", "Book.bare", defArgs (met 38 24), defBody (met 38 24), defScope (met 38 24), [], []⟩,
  ⟨("Book", some "undo"), "undo", "Book.undo", defArgs (met 38 25), defBody (met 38 25), defScope (met 38 25), [], []⟩,
  ⟨("Book", some "redo"), "redo", "Book.redo", defArgs (met 38 26), defBody (met 38 26), defScope (met 38 26), [], []⟩,
  ⟨("Book", some "columns"), "columns", "Book.columns", defArgs (met 38 27), defBody (met 38 27), defScope (met 38 27), [], []⟩,
  ⟨("Book", some "tally"), "tally", "Book.tally", defArgs (met 38 28), defBody (met 38 28), defScope (met 38 28), [], []⟩,
  ⟨("Book", some "bound"), "bound", "Book.bound", defArgs (met 38 29), defBody (met 38 29), defScope (met 38 29), [], []⟩,
  ⟨("Book", some "deeds"), "deeds", "Book.deeds", defArgs (met 38 30), defBody (met 38 30), defScope (met 38 30), [], []⟩,
  ⟨("Book", some "best"), "best", "Book.best", defArgs (met 38 31), defBody (met 38 31), defScope (met 38 31), [], [("ahead", .int 1)]⟩,
  ⟨("Book", some "share"), "share", "Book.share", defArgs (met 38 32), defBody (met 38 32), defScope (met 38 32), [], [("ahead", .int 1)]⟩,
  ⟨("Book", some "pairs_in"), "pairs_in", "Book.pairs_in", defArgs (met 38 33), defBody (met 38 33), defScope (met 38 33), [], []⟩,
  ⟨("Book", some "chance"), "chance", "Book.chance", defArgs (met 38 34), defBody (met 38 34), defScope (met 38 34), [], [("ahead", .int 1)]⟩,
  ⟨("Book", some "reckoned"), "reckoned", "Book.reckoned", defArgs (met 38 35), defBody (met 38 35), defScope (met 38 35), [], []⟩,
  ⟨("Book", some "twin"), "twin", "Book.twin", defArgs (met 38 36), defBody (met 38 36), defScope (met 38 36), [], []⟩,
  ⟨("_law_draws", none), "_law_draws", "_law_draws", defArgs (top 40), defBody (top 40), defScope (top 40), [], []⟩,
  ⟨("_law_same", none), "_law_same", "_law_same", defArgs (top 41), defBody (top 41), defScope (top 41), [], []⟩,
  ⟨("_law_good_names", none), "_law_good_names", "_law_good_names", defArgs (top 42), defBody (top 42), defScope (top 42), [], []⟩,
  ⟨("_law_word_due", none), "_law_word_due", "_law_word_due", defArgs (top 43), defBody (top 43), defScope (top 43), [], []⟩,
  ⟨("law", none), "law", "law", defArgs (top 44), defBody (top 44), defScope (top 44), [], []⟩] : List (He.DefD))

def Ns : List (List Str) := ([
  ["k"],
  ["self"],
  ["self"],
  ["self"],
  ["self"],
  ["self"],
  ["self"],
  ["self"],
  ["self"],
  ["self", "ring"],
  ["self", "there"],
  ["self", "name"],
  ["self"],
  ["sizes", "found", "size"],
  ["sizes", "size"],
  ["sizes", "row", "value", "size"],
  ["web", "left", "loose", "walk", "column", "ahead", "ring", "at", "leans", "one"],
  ["many", "some", "column", "one", "other"],
  ["self", "sizes"],
  ["self", "row", "turn"],
  ["self", "other"],
  ["self"],
  ["self", "row"],
  ["self", "row", "many"],
  ["self", "row", "many", "there"],
  ["self", "pairs"],
  ["self", "row"],
  ["self", "columns"],
  ["self", "made"],
  ["text", "sign"]] : List (List Str)) ++ ([
  ["names", "name"],
  ["deed"],
  ["deed"],
  ["self"],
  ["self", "tally", "column", "leans", "ahead"],
  ["self", "made"],
  ["self", "columns", "name", "values"],
  ["self"],
  ["self", "other"],
  ["self"],
  ["self", "line"],
  ["self"],
  ["self", "found", "word", "some", "row", "many", "names", "one", "other", "name", "values", "value"],
  ["self"],
  ["self", "stand", "rows", "done"],
  ["self", "stand", "deed"],
  ["self", "name", "names", "one", "values"],
  ["self", "row", "found", "word", "name", "values"],
  ["self", "row", "many", "stand"],
  ["self", "row", "many", "stand"],
  ["self", "row", "other", "stand", "here", "there"],
  ["self", "one", "other", "arrow"],
  ["self", "one", "other", "arrow", "ring"],
  ["self", "one", "other", "arrow"],
  ["self", "one", "other", "arrow", "here"],
  ["self", "many"],
  ["self", "deeds", "stand", "after", "rows", "musts", "nevers", "most", "done", "past", "gone", "deed"],
  ["self", "deed", "word", "handed"],
  ["self", "word", "row", "many"],
  ["self", "word", "one", "other"]] : List (List Str)) ++ ([
  ["self"],
  ["self"],
  ["self"],
  ["self"],
  ["self"],
  ["self"],
  ["self", "deed"],
  ["self", "ahead"],
  ["self", "arrows", "ahead"],
  ["self", "some"],
  ["self", "asked", "seen", "ahead"],
  ["self"],
  ["self", "made"],
  ["_law_cell", "_law_sizes", "_law_found", "_law_size", "_law_mixed", "_law_two", "_law_six"],
  ["_law_found", "_law_due", "_law_k"],
  ["_law_some", "_law_letters", "_law_name", "_law_sign"],
  ["_law_columns", "_law_whole", "_law_good", "_law_name", "_law_values"],
  ["_law_script", "_law_cell", "_law_drawn", "_law_columns", "_law_k", "_law_odd", "_law_word", "_law_handed", "_law_book", "e", "_law_size", "_law_at", "_law_others", "_law_other"]] : List (List Str))
def pss : List (List Str) := ([
  ["k"],
  ["self"],
  ["self"],
  ["self"],
  ["self"],
  ["self"],
  ["self"],
  ["self"],
  ["self"],
  ["self", "ring"],
  ["self", "there"],
  ["self", "name"],
  ["self"],
  ["sizes"],
  ["sizes"],
  ["sizes", "row"],
  ["web"],
  ["many", "some"],
  ["self", "sizes"],
  ["self"],
  ["self", "other"],
  ["self"],
  ["self"],
  ["self", "row", "many"],
  ["self", "row", "many"],
  ["self", "pairs"],
  ["self"],
  ["self", "columns"],
  ["self"],
  ["text"]] : List (List Str)) ++ ([
  ["names"],
  ["deed"],
  ["deed"],
  ["self"],
  ["self", "tally", "column", "leans", "ahead"],
  ["self"],
  ["self", "columns"],
  ["self"],
  ["self", "other"],
  ["self"],
  ["self"],
  ["self"],
  ["self"],
  ["self"],
  ["self", "stand"],
  ["self", "stand", "deed"],
  ["self", "name"],
  ["self", "row"],
  ["self", "row", "many"],
  ["self", "row", "many"],
  ["self", "row", "other"],
  ["self", "one", "other"],
  ["self", "one", "other"],
  ["self", "one", "other"],
  ["self", "one", "other"],
  ["self", "many"],
  ["self", "deeds"],
  ["self", "deed"],
  ["self", "word", "row", "many"],
  ["self", "word", "one", "other"]] : List (List Str)) ++ ([
  ["self"],
  ["self"],
  ["self"],
  ["self"],
  ["self"],
  ["self"],
  ["self"],
  ["self", "ahead"],
  ["self", "arrows", "ahead"],
  ["self", "some"],
  ["self", "asked", "seen", "ahead"],
  ["self"],
  ["self"],
  ["_law_cell", "_law_sizes"],
  ["_law_found", "_law_due"],
  ["_law_some"],
  ["_law_columns"],
  ["_law_script"]] : List (List Str))

def names : List Str := ([
  "__len__",
  "__eq__",
  "__str__",
  "__repr__",
  "whole",
  "put",
  "take",
  "count",
  "rows",
  "table",
  "twin",
  "reckon",
  "face",
  "page_lines",
  "stand",
  "go_to",
  "mark",
  "place_of",
  "row_in",
  "turn",
  "arrow_in",
  "must",
  "never",
  "free",
  "limit",
  "several",
  "do",
  "do_rows",
  "do_pair",
  "bare"] : List (Str)) ++ ([
  "undo",
  "redo",
  "columns",
  "tally",
  "bound",
  "deeds",
  "best",
  "share",
  "pairs_in",
  "chance",
  "reckoned",
  "sizes",
  "known",
  "worths_told",
  "many_told",
  "names_told",
  "rows_told",
  "musts",
  "nevers",
  "at_most",
  "done",
  "past",
  "gone",
  "reckoner",
  "word",
  "ring",
  "there"] : List (Str))

def gl0 : List (Str × GK) := [("BadMany", .cls 4), ("BadName", .cls 9), ("BadSizes", .cls 2), ("Book", .cls 16), ("LONGEST", .con 5), ("MOST_COLUMNS", .con 0), ("MOST_ROWS", .con 2), ("MOST_SIZE", .con 1), ("Reckoned", .cls 15), ("Ring", .cls 10), ("SMALL", .con 6), ("Same", .cls 6), ("Taken", .cls 7), ("Tally", .cls 14), ("_law_draws", .fn 73), ("_law_good_names", .fn 75), ("_law_same", .fn 74), ("_law_word_due", .fn 76), ("abs", .blt), ("all", .blt), ("any", .blt), ("bool", .blt), ("int", .blt), ("is_name", .fn 29), ("isinstance", .blt)]

def gl1 : List (Str × GK) := [("len", .blt), ("list", .blt), ("look_names", .fn 30), ("look_sizes", .fn 14), ("multiplied", .fn 13), ("range", .blt), ("ring_of", .fn 16), ("set", .blt), ("shown", .fn 31), ("sorted", .blt), ("str", .blt), ("sum", .blt), ("tuple", .blt), ("web_with", .fn 17), ("law", .fn 77)]

def tx : Tx := { prog := prog, names := names, fl := [41, 42, 43, 44, 45, 46, 47, 48, 49, 50, 51, 52, 53], fns := fns, Ns := Ns, pss := pss, clss := ["LoomError", "Absent", "BadSizes", "BadRow", "BadMany", "BadDeed", "Same", "Taken", "Full", "BadName", "Ring", "NoRows", "NoColumn", "NotBound", "Tally", "Reckoned", "Book"], cs := [14, 15, 16], gls := gl0 ++ gl1, xs := [2, 9], xf := [54], ens := [(2, 0), (3, 0), (4, 0), (5, 0), (6, 0), (7, 0), (8, 0), (9, 0), (10, 1), (11, 1)], xis := [(2, 1), (3, 2), (4, 3), (5, 4), (6, 5), (7, 6), (8, 7), (9, 8), (10, 9), (11, 10)], bfs := [], bms := [] }

def loose0 : List PySem.Str := [PySem.Str.ofString "_wall", PySem.Str.ofString "__name__", PySem.Str.ofString "LoomError", PySem.Str.ofString "Absent", PySem.Str.ofString "BadSizes", PySem.Str.ofString "BadRow", PySem.Str.ofString "BadMany", PySem.Str.ofString "BadDeed", PySem.Str.ofString "Same", PySem.Str.ofString "Taken", PySem.Str.ofString "Full", PySem.Str.ofString "BadName", PySem.Str.ofString "Ring", PySem.Str.ofString "NoRows", PySem.Str.ofString "NoColumn", PySem.Str.ofString "NotBound", PySem.Str.ofString "MOST_COLUMNS", PySem.Str.ofString "MOST_SIZE", PySem.Str.ofString "MOST_ROWS", PySem.Str.ofString "multiplied", PySem.Str.ofString "look_sizes", PySem.Str.ofString "look_row", PySem.Str.ofString "ring_of", PySem.Str.ofString "web_with", PySem.Str.ofString "AHEAD", PySem.Str.ofString "MOST_COUNTED", PySem.Str.ofString "Tally", PySem.Str.ofString "LONGEST", PySem.Str.ofString "SMALL", PySem.Str.ofString "is_name", PySem.Str.ofString "look_names", PySem.Str.ofString "shown", PySem.Str.ofString "whole_deed", PySem.Str.ofString "Reckoned", PySem.Str.ofString "Book", PySem.Str.ofString "_law_draws", PySem.Str.ofString "_law_same", PySem.Str.ofString "_law_good_names", PySem.Str.ofString "_law_word_due"]

def loose : List PySem.Str := loose0

end K53
end

section
set_option maxRecDepth 100000
set_option maxHeartbeats 0
open TL PySem PySem.Spec PyProof.Rows L2
namespace K53
theorem textB_ok : tx.textB = true := by kernel_rfl
theorem nms_ok : nmsB tx.names = true := by kernel_rfl
abbrev R : PySem.W.OpenRow := PySem.W.OpenLaw.row rw
def ob (s : PySem.W.SharedT) : Tx.Al := tx.obsG 4 (HandSHeadRun.getT s)
theorem ob_eq (s : PySem.W.SharedT) : ob s = (tx.hook 4).obs s.abs := tx.obsG_eq (HandSHeadRun.getT_eq s)
theorem run (w : World) : HandSHeadRun.RunEq R (PySem.W.view R.prog [lawAt]) (tx.hook 4) ob 20000 loose w := by
  intro os
  kernel_rfl
end K53
end

section
set_option maxRecDepth 100000
set_option maxHeartbeats 1000000
set_option autoImplicit false
namespace K53
open TL TR
def letters : List Nat := [97, 98, 99, 100, 101, 102, 103, 104, 105, 106, 107, 108, 109, 110, 111, 112, 113, 114, 115, 116, 117, 118, 119, 120, 121, 122]
def okName (z : List Nat) : Bool := decide ((1 : Int) ≤ z.length) && decide ((z.length : Int) ≤ 8) && z.all fun x => decide (x ∈ letters)
theorem gl : prog.globs = [.int 6, .int 4, .int 300, .int 1, .int 10000, .int 8, .str letters] := rfl
theorem fl9 : prog.flds.lookup 9 = some [(54, .dfl (.str [98, 97, 100, 110, 97, 109, 101]))] := rfl
theorem fl2 : prog.flds.lookup 2 = some [(54, .dfl (.str [98, 97, 100, 115, 105, 122, 101, 115]))] := rfl
theorem lin {n : Nat} (h : n ≤ 4000) : n ≤ lineN := by unfold lineN; omega
theorem c29 (k : Nat) (z : List Nat) (s : Sto) (hz : z.length ≤ 4000) : callK prog (k + 1) 29 [.str z] s = .ok (.bl (okName z)) s := by
  apply of_Wm
  obtain ⟨O, lo, lk⟩ := s
  apply call_run' (d := ⟨1, 2, b29⟩) rfl rfl
  show Ws (exSs _ b29 [some (.str z), none] _) _ _
  unfold b29
  have h1 := lin hz
  push_cast [gl, h1]
  refine if_neg' (fun q1 => ?_) fun q1 => ?_
  · push_cast [gl, h1]
    refine if_neg' (fun q2 => ?_) fun q2 => ?_
    · push_cast [gl, h1]
      refine w_map (fun x => .bl (decide (x ∈ letters))) _ (fun x hx => ?_) ?_
      · push_cast [gl]
      · push_cast [h1, okName, q1, q2]
    · push_cast [okName, q1, q2]
  · push_cast [okName, q1]
/-- good names: each is one, none twice -/
def good (l : List (List Nat)) : Bool := (l.all okName) && decide (((dedup (l.map .str)).length : Int) = l.length)
theorem setOk_str {l : List (List Nat)} (h : l.length ≤ 4000) : setOk (l.map .str) = true := by
  unfold setOk
  have : (l.map PV.str).all isS = true := by rw [List.all_map]; exact List.all_eq_true.mpr fun _ _ => rfl
  rw [this, List.length_map, decide_eq_true h]
  rfl
def badname : Xc := ⟨9, [(54, .str [98, 97, 100, 110, 97, 109, 101])]⟩
def badsizes : Xc := ⟨2, [(54, .str [98, 97, 100, 115, 105, 122, 101, 115])]⟩
theorem c30 (k : Nat) (l : List (List Nat)) (r : Nat) (s : Sto) (hr : s.objs[r]? = some (.list (l.map .str))) (hl : l.length ≤ 4000) (hz : ∀ z ∈ l, z.length ≤ 4000) {Q : PV → Sto → Prop} {X : Xc → Sto → Prop}
    (q1 : good l = true → Q .non s) (q2 : good l = false → X badname s) : Wm (callK prog (k + 2) 30 [.ref r]) s Q X := by
  obtain ⟨O, lo, lk⟩ := s
  apply call_run' (d := ⟨1, 2, b30⟩) rfl rfl
  show Ws (exSs _ b30 [some (.ref r), none] _) _ _
  unfold b30
  have h1 := lin hl
  have hr0 : O[r]? = some (.list (l.map .str)) := hr
  have hr1 : ∀ L, (O ++ L)[r]? = some (.list (l.map .str)) := fun L => at_old hr
  push_cast [hr0, hr1]
  refine w_map (fun z => .bl (okName z)) _ (fun z hz' => ?_) ?_
  · push_cast [TR.o_fn]
    rw [Wm_ok (c29 k z _ (hz z hz'))]
    push_cast [TR.o_fn]
  · push_cast [h1, hr0, hr1, fl9]
    refine if_neg' (fun e => ?_) (fun e => ?_)
    · push_cast [fl9]
      exact q2 (by simp only [Bool.not_eq_true'] at e; simp [good, e])
    · push_cast [hr0, hr1]
      refine w_map PV.str _ (fun z hz' => by push_cast [TR.o_fn]) ?_
      push_cast [hr0, hr1, setOk_str hl]
      have e1 : l.all okName = true := by simpa using e
      refine if_neg' (fun e2 => ?_) (fun e2 => ?_)
      · push_cast [fl9]
        exact q2 (by simp only [good, e1, Bool.true_and]; simpa using e2)
      · push_cast [TR.o_fn]
        exact q1 (by simp only [good, e1, Bool.true_and]; simpa using e2)
/-- the law's own reading of good names -/
theorem c75 (k : Nat) (l : List (List Nat)) (r : Nat) (s : Sto) (hr : s.objs[r]? = some (.list (l.map .str))) (hl : l.length ≤ 4000) (hz : ∀ z ∈ l, z.length ≤ 4000) : callK prog (k + 1) 75 [.ref r] s = .ok (.bl (good l)) s := by
  apply of_Wm
  obtain ⟨O, lo, lk⟩ := s
  apply call_run' (d := ⟨1, 4, b75⟩) rfl rfl
  show Ws (exSs _ b75 [some (.ref r), none, none, none] _) _ _
  unfold b75
  have h1 := lin hl
  have hr0 : O[r]? = some (.list (l.map .str)) := hr
  have hr1 : ∀ L, (O ++ L)[r]? = some (.list (l.map .str)) := fun L => at_old hr
  push_cast [hr0, hr1, setOk_str hl]
  refine if_neg' (fun e2 => ?_) (fun e2 => ?_)
  · have : good l = false := by
      have : decide (((dedup (l.map .str)).length : Int) = l.length) = false := by simpa using e2
      simp only [good, this, Bool.and_false]
    push_cast [this]
  · push_cast [hr0, hr1]
    refine w_map (fun z => .bl (okName z)) _ (fun z hz' => ?_) ?_
    · have h2 := lin (hz z hz')
      push_cast [h2]
      refine if_neg' (fun q1 => ?_) fun q1 => ?_
      · push_cast [h2]
        refine if_neg' (fun q2 => ?_) fun q2 => ?_
        · push_cast [h2]
          refine w_map (fun x => .bl (decide (x ∈ letters))) _ (fun x hx => ?_) ?_
          · push_cast [show [97, 98, 99, 100, 101, 102, 103, 104, 105, 106, 107, 108, 109, 110, 111, 112, 113, 114, 115, 116, 117, 118, 119, 120, 121, 122] = letters from rfl]
          · push_cast [h2, okName, q1, q2]
        · push_cast [okName, q1, q2]
      · push_cast [okName, q1]
    · push_cast [h1]
      have : good l = l.all okName := by
        have : decide (((dedup (l.map .str)).length : Int) = l.length) = true := by simpa using e2
        rw [good, this, Bool.and_true]
      rw [this]
/-! ### sizes -/
def prod : List Nat → Nat
  | [] => 1
  | n :: r => n * prod r
def nats (l : List Nat) : List PV := l.map fun (n : Nat) => .int (n : Int)
def sized (l : List Nat) : Bool := decide ((1 : Int) ≤ l.length) && decide ((l.length : Int) ≤ 6) && (l.all fun n => decide ((2 : Int) ≤ n) && decide ((n : Int) ≤ 4)) && decide ((prod l : Int) ≤ 300)
theorem big_log {a x m : Nat} (hm : m ≤ 10) (ha : a ≤ 4000 ^ m) (hx : x ≤ 4000) : (a : Int).natAbs.log2 + (x : Int).natAbs.log2 < 1000000 := by
  have h1 : a < 2 ^ 200 := Nat.lt_of_le_of_lt (Nat.le_trans ha (Nat.pow_le_pow_right (by omega) hm)) (by decide)
  have e1 := log2_lt (i := (a : Int)) (k := 200) (by omega) (by simpa using h1)
  have e2 := log2_lt (i := (x : Int)) (k := 200) (by omega) (by simp only [Int.natAbs_natCast]; exact Nat.lt_of_le_of_lt hx (by decide))
  omega
theorem c13 (k : Nat) (l : List Nat) (s : Sto) (hl : l.length ≤ 10) (hn : ∀ n ∈ l, n ≤ 4000) : callK prog (k + 1) 13 [.tup (nats l)] s = .ok (.int (prod l)) s := by
  apply of_Wm
  obtain ⟨O, lo, lk⟩ := s
  apply call_run' (d := ⟨1, 3, b13⟩) rfl rfl
  show Ws (exSs _ b13 [some (.tup (nats l)), none, none] _) _ _
  unfold b13
  push_cast [TR.o_fn]
  refine w_for (fun r ρ t => ∃ (a m : Nat) (v : Option PV), ρ = [some (.tup (nats l)), some (.int a), v] ∧ t = ⟨O, O.length, lk⟩ ∧ a * prod r = prod l ∧ m + r.length ≤ 10 ∧ a ≤ 4000 ^ m ∧ ∀ n ∈ r, n ≤ 4000)
    (fun x r ρ t ⟨a, m, v, e1, e2, e3, e4, e5, e6⟩ => ?_) (fun ρ t ⟨a, m, v, e1, e2, e3, e4, e5, e6⟩ => ?_) ⟨1, 0, none, rfl, rfl, Nat.one_mul _, by omega, by omega, hn⟩
  · subst e1 e2
    have x1 := e6 x (List.mem_cons_self ..)
    rw [List.length_cons] at e4
    push_cast [big_log (by omega) e5 x1]
    refine ⟨a * x, m + 1, some (.int x), by simp, by rw [← e3, prod, Nat.mul_assoc], by omega, ?_, fun n hn => e6 n (List.mem_cons_of_mem _ hn)⟩
    rw [Nat.pow_succ]
    exact Nat.mul_le_mul e5 x1
  · subst e1 e2
    push_cast [TR.o_fn]
    have : a = prod l := by simpa [prod] using e3
    rw [this]
/-- look_sizes -/
theorem c14 (k : Nat) (l : List Nat) (s : Sto) (hl : l.length ≤ 10) (hn : ∀ n ∈ l, n ≤ 4000) {Q : PV → Sto → Prop} {X : Xc → Sto → Prop} (q1 : sized l = true → Q .non s) (q2 : sized l = false → X badsizes s) : Wm (callK prog (k + 2) 14 [.tup (nats l)]) s Q X := by
  obtain ⟨O, lo, lk⟩ := s
  apply call_run' (d := ⟨1, 2, b14⟩) rfl rfl
  show Ws (exSs _ b14 [some (.tup (nats l)), none] _) _ _
  unfold b14
  have hl0 : (nats l).length = l.length := by simp [nats]
  have h1 : l.length ≤ lineN := lin (Nat.le_trans hl (by decide))
  push_cast [gl, hl0]
  refine if_neg' (fun p1 => ?_) fun p1 => ?_
  · push_cast [gl, hl0]
    refine if_neg' (fun p2 => ?_) fun p2 => ?_
    · push_cast [fl2]
      exact q2 (by simp only [Bool.not_eq_true'] at p2; simp only [sized, p2, Bool.and_false, Bool.false_and])
    · push_cast [gl, hl0]
      refine w_map (fun (n : Nat) => .bl (decide ((2 : Int) ≤ n) && decide ((n : Int) ≤ 4))) (fun (n : Nat) => .int (n : Int)) (fun n hn => ?_) ?_
      · push_cast [gl]
        refine if_neg' (fun e => ?_) fun e => ?_
        · push_cast [gl, e]
        · push_cast [gl, e]
      · have hl1 : (l.map fun (n : Nat) => PV.bl (decide ((2 : Int) ≤ n) && decide ((n : Int) ≤ 4))).length ≤ lineN := by rw [List.length_map]; exact h1
        push_cast [h1]
        refine if_neg' (fun e => ?_) fun e => ?_
        · push_cast [fl2]
          refine q2 ?_
          have : (l.all fun n => decide ((2 : Int) ≤ n) && decide ((n : Int) ≤ 4)) = false := by simpa using e
          simp only [sized, this, Bool.and_false, Bool.false_and]
        · push_cast [TR.o_fn]
          rw [Wm_ok (c13 k l _ hl hn)]
          push_cast [gl]
          refine if_neg' (fun e2 => ?_) fun e2 => ?_
          · push_cast [fl2]
            refine q2 ?_
            have : decide ((prod l : Int) ≤ 300) = false := by simp at e2 ⊢; omega
            simp only [sized, this, Bool.and_false]
          · push_cast [TR.o_fn]
            refine q1 ?_
            have e0 : (l.all fun n => decide ((2 : Int) ≤ n) && decide ((n : Int) ≤ 4)) = true := by simpa using e
            have e3 : decide ((prod l : Int) ≤ 300) = true := by simp at e2 ⊢; omega
            try rw [hl0] at p1 p2
            have p3 : decide ((l.length : Int) ≤ 6) = true := by simpa using p2
            simp only [sized, p1, p3, e0, e3, Bool.and_true]
  · push_cast [fl2]
    try rw [hl0] at p1
    exact q2 (by simp only [sized, Bool.eq_false_iff.mpr p1, Bool.false_and])
/-! ### columns -/
abbrev Col : Type := List Nat × List (List Nat)
def colV (p : Col) : PV := .tup [.str p.1, .tup (p.2.map .str)]
def goodC (cols : List Col) : Bool := (cols.all fun p => good [p.1] && good p.2) && good (cols.map (·.1))
def sizesC (cols : List Col) : List Nat := cols.map fun p => p.2.length
def due (cols : List Col) : List Nat := if goodC cols = true then (if sized (sizesC cols) = true then [] else [98, 97, 100, 115, 105, 122, 101, 115]) else [98, 97, 100, 110, 97, 109, 101]
/-- columns that may come: few, of few short names -/
structure Small (cols : List Col) : Prop where
  n : cols.length ≤ 10
  v : ∀ p ∈ cols, p.2.length ≤ 100
  z : ∀ p ∈ cols, p.1.length ≤ 100 ∧ ∀ x ∈ p.2, x.length ≤ 100
  c : ∀ p ∈ cols, p.1.all (· < 1114112) = true ∧ ∀ x ∈ p.2, x.all (· < 1114112) = true
theorem c76 (k : Nat) (cols : List Col) (r : Nat) (s : Sto) (hr : s.objs[r]? = some (.list (cols.map colV))) (sm : Small cols) : callK prog (k + 2) 76 [.ref r] s = .ok (.str (due cols)) s := by
  apply of_Wm
  obtain ⟨O, lo, lk⟩ := s
  apply call_run' (d := ⟨1, 5, b76⟩) rfl rfl
  show Ws (exSs _ b76 [some (.ref r), none, none, none, none] _) _ _
  unfold b76
  have h1 : cols.length ≤ lineN := lin (Nat.le_trans sm.n (by decide))
  have hr0 : O[r]? = some (.list (cols.map colV)) := hr
  have hr1 : ∀ L, (O ++ L)[r]? = some (.list (cols.map colV)) := fun L => at_old hr
  push_cast [hr0, hr1]
  refine w_mapX0 (fun p => .bl (good [p.1] && good p.2)) colV (fun p hp J => ?_) (fun J => ?_)
  · obtain ⟨z1, z2⟩ := sm.z p hp
    unfold colV
    push_cast [TR.o_fn]
    rw [Wm_ok (c75 k [p.1] _ _ (by simp only [TR.at_add, TR.at_end]; rfl) (by simp) (by simpa using Nat.le_trans z1 (by decide)))]
    push_cast [TR.o_fn]
    refine if_neg' (fun e => ?_) fun e => ?_
    · push_cast [TR.o_fn]
      rw [Wm_ok (c75 k p.2 _ _ (by simp only [TR.at_add]; simp) (Nat.le_trans (sm.v p hp) (by decide)) fun x hx => Nat.le_trans (z2 x hx) (by decide))]
      push_cast [e]
      exact ⟨_, rfl⟩
    · push_cast [e]
      exact ⟨_, rfl⟩
  · push_cast [hr0, hr1, h1]
    refine if_neg' (fun e => ?_) fun e => ?_
    · push_cast [TR.o_fn]
      have : due cols = [98, 97, 100, 110, 97, 109, 101] := by
        have : (cols.all fun p => good [p.1] && good p.2) = false := by simpa using e
        simp only [due, goodC, this, Bool.false_and, Bool.false_eq_true, if_false]
      rw [this]
    · push_cast [hr0, hr1, h1]
      refine w_map (fun p => .str p.1) colV (fun p hp => by unfold colV; push_cast [TR.o_fn]) ?_
      push_cast [h1]
      have hN : (cols.map fun p => PV.str p.1) = (cols.map (·.1)).map PV.str := by rw [List.map_map]; rfl
      have hM : ∀ z ∈ cols.map (·.1), z.length ≤ 4000 := fun z hz => by
        obtain ⟨p, hp, rfl⟩ := List.mem_map.mp hz
        exact Nat.le_trans (sm.z p hp).1 (by decide)
      rw [Wm_ok (c75 k (cols.map (·.1)) _ _ (by rw [hN]; exact at_end) (by rw [List.length_map]; exact Nat.le_trans sm.n (by decide)) hM)]
      have e1 : (cols.all fun p => good [p.1] && good p.2) = true := by simpa using e
      push_cast [TR.o_fn]
      refine if_neg' (fun e2 => ?_) fun e2 => ?_
      · push_cast [TR.o_fn]
        have : due cols = [98, 97, 100, 110, 97, 109, 101] := by
          have : good (cols.map (·.1)) = false := by simpa using e2
          simp only [due, goodC, this, Bool.and_false, Bool.false_eq_true, if_false]
        rw [this]
      · have e3 : good (cols.map (·.1)) = true := by simpa using e2
        push_cast [hr0, hr1]
        refine w_for (fun (q : List Col) ρ t => ∃ (a m : Nat) (v3 v4 : Option PV), ρ = [some (.ref r), some (.int a), none, v3, v4] ∧ t = ⟨O ++ [Ob.list (cols.map fun p => PV.str p.1)], O.length, r :: lk⟩ ∧ a * prod (sizesC q) = prod (sizesC cols) ∧ m + q.length ≤ 10 ∧ a ≤ 4000 ^ m ∧ ∀ p ∈ q, p.2.length ≤ 4000)
          (fun x q ρ t ⟨a, m, v3, v4, f1, f2, f3, f4, f5, f6⟩ => ?_) (fun ρ t ⟨a, m, v3, v4, f1, f2, f3, f4, f5, f6⟩ => ?_) ⟨1, 0, none, none, rfl, rfl, Nat.one_mul _, by have := sm.n; omega, by omega, fun p hp => Nat.le_trans (sm.v p hp) (by decide)⟩
        · subst f1 f2
          have x1 := f6 x (List.mem_cons_self ..)
          rw [List.length_cons] at f4
          unfold colV
          push_cast [big_log (by omega) f5 x1]
          refine ⟨a * x.2.length, m + 1, some (.str x.1), some (.tup (x.2.map .str)), by simp, by rw [← f3]; simp only [sizesC, List.map_cons, prod, Nat.mul_assoc], by omega, ?_, fun p hp => f6 p (List.mem_cons_of_mem _ hp)⟩
          rw [Nat.pow_succ]
          exact Nat.mul_le_mul f5 x1
        · subst f1 f2
          have f7 : a = prod (sizesC cols) := by simpa [sizesC, prod] using f3
          subst f7
          have hg : goodC cols = true := by simp only [goodC, e1, e3, Bool.and_true]
          have hs : (sizesC cols).length = cols.length := by simp [sizesC]
          have ha : ((sizesC cols).all fun n => decide ((2 : Int) ≤ n) && decide ((n : Int) ≤ 4)) = cols.all fun p => decide ((2 : Int) ≤ p.2.length) && decide ((p.2.length : Int) ≤ 4) := by simp [sizesC, List.all_map, Function.comp_def]
          have due' : due cols = if sized (sizesC cols) = true then [] else [98, 97, 100, 115, 105, 122, 101, 115] := by simp only [due, hg, if_true]
          push_cast [hr0, hr1]
          refine if_neg' (fun g1 => ?_) fun g1 => ?_
          · try rw [List.length_map] at g1
            push_cast [hr0, hr1]
            refine if_neg' (fun g2 => ?_) fun g2 => ?_
            · try rw [List.length_map] at g2
              push_cast [hr0, hr1]
              refine w_map (fun (p : Col) => .bl (decide ((2 : Int) ≤ p.2.length) && decide ((p.2.length : Int) ≤ 4))) colV (fun p hp => ?_) ?_
              · unfold colV
                push_cast [TR.o_fn]
                refine if_neg' (fun g => ?_) fun g => ?_
                · try rw [List.length_map] at g
                  push_cast [g]
                · try rw [List.length_map] at g
                  push_cast [g]
              · push_cast [h1]
                refine if_neg' (fun g3 => ?_) fun g3 => ?_
                · push_cast [TR.o_fn]
                  refine if_neg' (fun g4 => ?_) fun g4 => ?_
                  · push_cast [TR.o_fn]
                    rw [due', if_pos (by simp only [sized, hs, ha, g1, g2, g3, g4, Bool.and_true])]
                  · push_cast [TR.o_fn]
                    rw [due', if_neg (by simp only [sized, Bool.eq_false_iff.mpr g4, Bool.and_false]; decide)]
                · push_cast [TR.o_fn]
                  rw [due', if_neg (by simp only [sized, ha, Bool.eq_false_iff.mpr g3, Bool.and_false, Bool.false_and]; decide)]
            · try rw [List.length_map] at g2
              push_cast [TR.o_fn]
              rw [due', if_neg (by simp only [sized, hs, Bool.eq_false_iff.mpr g2, Bool.and_false, Bool.false_and]; decide)]
          · try rw [List.length_map] at g1
            push_cast [TR.o_fn]
            rw [due', if_neg (by simp only [sized, hs, Bool.eq_false_iff.mpr g1, Bool.and_false, Bool.false_and]; decide)]
/-! ### instances -/
theorem in15 : prog.inits.lookup 15 = some 33 := rfl
theorem in14 : prog.inits.lookup 14 = some 18 := rfl
theorem in16 : prog.inits.lookup 16 = some 36 := rfl
theorem inits_ctx {f : Nat → List PV → M PV} : (prog.ctx f).inits = prog.inits := rfl
def oRec (n : Nat) : Ob := .inst 15 [(43, .ref (n + 1)), (44, .int 0)]
theorem mk15 (k : Nat) (B : List Ob) (lo : Nat) (lk : List Nat) (hk : ∀ i ∈ lk, i < B.length) : mkI (prog.ctx (callK prog (k + 1))) 15 [] ⟨B, lo, lk⟩ = .ok (.ref B.length) ⟨B ++ [oRec B.length, .dict []], lo, lk⟩ := by
  apply of_Wm
  rw [mkI' in15]
  rw [o_fn]
  apply call_run' (d := ⟨1, 1, b33⟩) rfl rfl
  show Ws (exSs _ b33 [some (.ref B.length)] _) _ _
  unfold b33
  have n0 := nolk hk B.length (Nat.le_refl _)
  push_cast [n0, oRec]
def oTal (n : Nat) (sizes : PV) : Ob := .inst 14 [(41, sizes), (42, .ref (n + 1))]
theorem belows_nats {n : Nat} {l : List Nat} : belows n (nats l) = true := belows_map_int
theorem mk14 (k : Nat) (l : List Nat) (B : List Ob) (lo : Nat) (lk : List Nat) (hk : ∀ i ∈ lk, i < B.length) (hl : l.length ≤ 10) (hn : ∀ n ∈ l, n ≤ 4000) {Q : PV → Sto → Prop} {X : Xc → Sto → Prop}
    (q1 : sized l = true → Q (.ref B.length) ⟨B ++ [oTal B.length (.tup (nats l)), .dict []], lo, lk⟩) (q2 : sized l = false → X badsizes ⟨B, lo, lk⟩) : Wm (mkI (prog.ctx (callK prog (k + 3))) 14 [.tup (nats l)]) ⟨B, lo, lk⟩ Q X := by
  rw [mkI' in14]
  rw [o_fn]
  apply call_run' (d := ⟨2, 2, b18⟩) rfl rfl
  show Ws (exSs _ b18 [some (.ref B.length), some (.tup (nats l))] _) _ _
  unfold b18
  have n0 := nolk hk B.length (Nat.le_refl _)
  push_cast [n0]
  refine c14 k l _ hl hn (fun e => ?_) fun e => ?_
  · push_cast [n0, belows_nats]
    exact q1 e
  · push_cast [badsizes]
    exact q2 e
/-- a book of these columns stands at b -/
def isBook (O : List Ob) (b : Nat) (cols : List Col) : Prop := ∃ rt kn dn pa go rc : Nat, O[b]? = some (.inst 16 [(45, .tup (cols.map colV)), (46, .ref rt), (47, .tup []), (48, .tup []), (49, .non), (50, .ref dn), (51, .ref pa), (52, .ref go), (53, .ref rc)]) ∧
  O[rt]? = some (.inst 14 [(41, .tup (nats (sizesC cols))), (42, .ref kn)]) ∧ O[kn]? = some (.dict [])
theorem belows_cols {n : Nat} : ∀ {l : List Col}, belows n (l.map colV) = true
  | [] => rfl
  | p :: l => by
    simp only [List.map_cons, belows, Bool.and_eq_true]
    refine ⟨?_, belows_cols⟩
    simp only [colV, below, belows, Bool.true_and, Bool.and_true]
    exact belows_str
def J36 (B : List Ob) (lk held : List Nat) (cols : List Col) (cv : PV) (q : List Col) (ρ : Env) (t : Sto) : Prop := ∃ (J : List Ob) (v2 v3 : Option PV), ρ = [some (.ref B.length), some cv, v2, v3] ∧ t = ⟨B ++ (.inst 16 [] :: J), B.length + 1, held ++ lk⟩ ∧ (∀ p ∈ q, p ∈ cols) ∧
  (cols.all fun p => good [p.1] && good p.2) = q.all fun p => good [p.1] && good p.2
theorem mk16 (k : Nat) (cols : List Col) (cv : PV) (held : List Nat) (B : List Ob) (lo : Nat) (lk : List Nat) (hk : ∀ i ∈ lk, i < B.length) (hh : ∀ i ∈ held, i < B.length) (sm : Small cols)
    (hw : ∀ (J : List Ob) (lo : Nat) (lk : List Nat) (Q : Walk → Sto → Prop) (X : Xc → Sto → Prop), Wm (walkV cv) ⟨B ++ J, lo, lk⟩ Q X = Q ⟨cols.map colV, held⟩ ⟨B ++ J, lo, lk⟩) {Q : PV → Sto → Prop} {X : Xc → Sto → Prop}
    (q1 : goodC cols = true → sized (sizesC cols) = true → ∀ K, isBook (B ++ K) B.length cols → Q (.ref B.length) ⟨B ++ K, lo, lk⟩) (q2 : goodC cols = false → X badname ⟨B, lo, lk⟩) (q3 : goodC cols = true → sized (sizesC cols) = false → X badsizes ⟨B, lo, lk⟩) :
    Wm (mkI (prog.ctx (callK prog (k + 4))) 16 [cv]) ⟨B, lo, lk⟩ Q X := by
  rw [mkI' in16]
  rw [o_fn]
  apply call_run' (d := ⟨2, 4, b36⟩) rfl rfl
  show Ws (exSs _ b36 [some (.ref B.length), some cv, none, none] _) _ _
  unfold b36
  have n0 := nolk hk B.length (Nat.le_refl _)
  push_cast [n0, hw]
  refine w_for (J36 B lk held cols cv) (fun x q ρ t ⟨J, v2, v3, f1, f2, f3, f4⟩ => ?_) (fun ρ t ⟨J, v2, v3, f1, f2, f3, f4⟩ => ?_) ⟨[], none, none, rfl, rfl, fun p hp => hp, rfl⟩
  · subst f1 f2
    have hx := f3 x (List.mem_cons_self ..)
    obtain ⟨z1, z2⟩ := sm.z x hx
    have bad : (good [x.1] && good x.2) = false → X badname ⟨B, lo, lk⟩ := fun e => q2 (by rw [goodC, f4, List.all_cons, e, Bool.false_and, Bool.false_and])
    unfold colV
    push_cast [TR.o_fn]
    refine c30 (k + 1) [x.1] _ _ (by simp only [at_add, List.getElem?_cons_succ, at_end]; rfl) (by simp) (by simpa using Nat.le_trans z1 (by decide)) (fun e => ?_) fun e => ?_
    · push_cast [TR.o_fn]
      refine c30 (k + 1) x.2 _ _ (by simp only [at_add, List.getElem?_cons_succ]; simp) (Nat.le_trans (sm.v x hx) (by decide)) (fun z hz => Nat.le_trans (z2 z hz) (by decide)) (fun e2 => ?_) fun e2 => ?_
      · push_cast [TR.o_fn]
        exact ⟨_, some (.str x.1), some (.tup (x.2.map .str)), rfl, rfl, fun p hp => f3 p (List.mem_cons_of_mem _ hp), by rw [f4, List.all_cons, e, e2]; rfl⟩
      · push_cast [badname]
        exact bad (by rw [e2, Bool.and_false])
    · push_cast [badname]
      exact bad (by rw [e, Bool.false_and])
  · subst f1 f2
    have e1 : (cols.all fun p => good [p.1] && good p.2) = true := f4
    push_cast [n0, hw]
    refine w_map (fun p => .str p.1) colV (fun p hp => by unfold colV; push_cast [TR.o_fn]) ?_
    have h1 : cols.length ≤ lineN := lin (Nat.le_trans sm.n (by decide))
    push_cast [h1]
    have hN : (cols.map fun p => PV.str p.1) = (cols.map (·.1)).map PV.str := by rw [List.map_map]; rfl
    have hM : ∀ z ∈ cols.map (·.1), z.length ≤ 4000 := fun z hz => by
      obtain ⟨p, hp, rfl⟩ := List.mem_map.mp hz
      exact Nat.le_trans (sm.z p hp).1 (by decide)
    refine c30 (k + 1) (cols.map (·.1)) _ _ (by simp only [at_add, List.getElem?_cons_succ, at_end, hN]) (by rw [List.length_map]; exact Nat.le_trans sm.n (by decide)) hM (fun e3 => ?_) fun e3 => ?_
    · have hg : goodC cols = true := by simp only [goodC, e1, e3, Bool.and_true]
      push_cast [n0, hw]
      refine w_map colV colV (fun p hp => by unfold colV; push_cast [TR.o_fn]) ?_
      push_cast [h1, belows_cols, n0, hw]
      refine w_map (fun p => .int (p.2.length : Int)) colV (fun p hp => by unfold colV; push_cast [TR.o_fn]) ?_
      have hS : (cols.map fun p => PV.int (p.2.length : Int)) = nats (sizesC cols) := by simp [nats, sizesC, Function.comp_def]
      push_cast [h1, hS, belows_nats, n0, hw]
      have hk' : ∀ (L : List Ob), ∀ i ∈ lk, i < (B ++ L).length := fun L i hi => by rw [List.length_append]; exact Nat.lt_of_lt_of_le (hk i hi) (Nat.le_add_right _ _)
      refine ⟨by simpa [nats, sizesC] using h1, mk14 k (sizesC cols) _ _ _ (hk' _) (by simpa [sizesC] using sm.n) (fun n hn => ?_) (fun e4 => ?_) fun e4 => ?_⟩
      · obtain ⟨p, hp, rfl⟩ := List.mem_map.mp hn
        exact Nat.le_trans (sm.v p hp) (by decide)
      · push_cast [n0]
        rw [Wm_ok (mk15 (k + 2) _ _ _ (hk' _))]
        push_cast [n0]
        refine q1 hg e4 _ ⟨B.length + (J.length + 1 + 1), B.length + (J.length + 1 + 1) + 1, _, _, _, _, by simp only [at_zero, List.getElem?_cons_zero]; rfl, ?_, ?_⟩
        · simp only [at_add, List.getElem?_cons_succ, Nat.add_assoc]
          rfl
        · simp only [at_add, List.getElem?_cons_succ, Nat.add_assoc]
          rfl
      · push_cast [badsizes]
        exact q3 hg e4
    · push_cast [badname]
      exact q2 (by rw [goodC, e3, Bool.and_false])
theorem fn_ctx {f : Nat → List PV → M PV} : (prog.ctx f).fn = f := rfl
theorem isBook.up {O : List Ob} {b : Nat} {cols : List Col} (h : isBook O b cols) (L : List Ob) : isBook (O ++ L) b cols := by
  obtain ⟨rt, kn, dn, pa, go, rc, h1, h2, h3⟩ := h
  exact ⟨rt, kn, dn, pa, go, rc, at_old h1, at_old h2, at_old h3⟩
/-- len of a book without rows -/
theorem me14l : lookM prog.meths 14 nLen = some 19 := rfl
theorem me16l : lookM prog.meths 16 nLen = some 37 := rfl
theorem me16e : lookM prog.meths 16 nEq = some 38 := rfl
theorem me16f : lookM prog.meths 16 12 = some 41 := rfl
theorem me14r : lookM prog.meths 14 8 = some 26 := rfl
theorem me16c : lookM prog.meths 16 32 = some 63 := rfl
/-- len of a tally without rows -/
theorem c19 (k : Nat) (r kn : Nat) (sz : PV) (s : Sto) (h1 : s.objs[r]? = some (.inst 14 [(41, sz), (42, .ref kn)])) (h2 : s.objs[kn]? = some (.dict [])) : callK prog (k + 1) 19 [.ref r] s = .ok (.int 0) s := by
  apply of_Wm
  obtain ⟨O, lo, lk⟩ := s
  apply call_run' (d := ⟨1, 3, b19⟩) rfl rfl
  show Ws (exSs _ b19 [some (.ref r), none, none] _) _ _
  unfold b19
  have h1 : O[r]? = _ := h1
  have h2 : O[kn]? = _ := h2
  push_cast [h1, h2]
  rfl
/-- len of a book without rows -/
theorem len16 (k : Nat) (b : Nat) (cols : List Col) (s : Sto) (h : isBook s.objs b cols) : builtin (prog.ctx (callK prog (k + 2))) .len [.ref b] s = .ok (.int 0) s := by
  obtain ⟨O, lo, lk⟩ := s
  obtain ⟨rt, kn, dn, pa, go, rc, h1, h2, h3⟩ := h
  apply of_Wm
  have h1 : O[b]? = _ := h1
  have h2 : O[rt]? = _ := h2
  have h3 : O[kn]? = _ := h3
  push_cast [h1, me16l]
  apply call_run' (d := ⟨1, 1, b37⟩) rfl rfl
  show Ws (exSs _ b37 [some (.ref b)] _) _ _
  unfold b37
  push_cast [h1, h2, me14l]
  rw [Wm_ok (c19 k rt kn _ _ h2 h3)]
  push_cast [TR.o_fn]
  decide
theorem colV_eq (a b : Col) : PV.beq (colV a) (colV b) = decide (a = b) := by
  obtain ⟨x, xs⟩ := a
  obtain ⟨y, ys⟩ := b
  have h1 : PV.beqs (xs.map PV.str) (ys.map PV.str) = decide (xs = ys) := beqs_map fun a b => by simp [PV.beq]
  simp only [colV, PV.beq, PV.beqs, h1, Bool.and_true]
  by_cases e1 : x = y <;> by_cases e2 : xs = ys <;> simp [e1, e2]
theorem okCs {n : Nat} {cols : List Col} (h : Small cols) : okD (n + 4) (.tup (cols.map colV)) = true := by
  rw [okD_tup, List.all_map]
  refine List.all_eq_true.mpr fun p hp => ?_
  obtain ⟨c1, c2⟩ := h.c p hp
  show okD (n + 3) (colV p) = true
  unfold colV
  rw [okD_tup, List.all_cons, List.all_cons, List.all_nil, okD_str, okD_tup, c1, List.all_map, Bool.true_and, Bool.and_true]
  exact List.all_eq_true.mpr fun x hx => c2 x hx
theorem cols_eqD {objs : List Ob} {cols cols' : List Col} (h : Small cols) (h' : Small cols') : eqD objs (.tup (cols.map colV)) (.tup (cols'.map colV)) = some (decide (cols = cols')) := by
  rw [eqD_ok (okCs (n := 36) h) (okCs (n := 36) h')]
  simp only [PV.beq]
  rw [beqs_map colV_eq]
/-- rows of a tally without rows -/
theorem c26 (k : Nat) (r kn : Nat) (sz : PV) (s : Sto) (h1 : s.objs[r]? = some (.inst 14 [(41, sz), (42, .ref kn)])) (h2 : s.objs[kn]? = some (.dict [])) : callK prog (k + 1) 26 [.ref r] s = .ok (.ref s.objs.length) { s with objs := s.objs ++ [.list []] } := by
  apply of_Wm
  obtain ⟨O, lo, lk⟩ := s
  apply call_run' (d := ⟨1, 2, b26⟩) rfl rfl
  show Ws (exSs _ b26 [some (.ref r), none] _) _ _
  unfold b26
  have h1 : O[r]? = _ := h1
  have h2 : O[kn]? = _ := h2
  have h1' : ∀ L, (O ++ L)[r]? = _ := fun L => at_old h1
  have h2' : ∀ L, (O ++ L)[kn]? = _ := fun L => at_old h2
  push_cast [h1, h2, h1', h2']
/-- the face of a book without rows -/
theorem c41 (k : Nat) (b : Nat) (cols : List Col) (s : Sto) (h : isBook s.objs b cols) : callK prog (k + 2) 41 [.ref b] s = .ok (.tup [.ref s.objs.length, .tup [], .tup [], .non]) ⟨s.objs ++ [.list []], s.low, s.lk⟩ := by
  apply of_Wm
  obtain ⟨O, lo, lk⟩ := s
  obtain ⟨rt, kn, dn, pa, go, rc, h1, h2, h3⟩ := h
  have h1 : O[b]? = _ := h1
  have h2 : O[rt]? = _ := h2
  have h3 : O[kn]? = _ := h3
  have h1' : ∀ L, (O ++ L)[b]? = _ := fun L => at_old h1
  have h2' : ∀ L, (O ++ L)[rt]? = _ := fun L => at_old h2
  apply call_run' (d := ⟨1, 1, b41⟩) rfl rfl
  show Ws (exSs _ b41 [some (.ref b)] _) _ _
  unfold b41
  push_cast [h1, h2, h1', h2', me14r]
  rw [Wm_ok (c26 k rt kn _ _ h2 h3)]
  push_cast [h1, h2, h1', h2', me14r]
theorem face_eqD {objs : List Ob} {r q : Nat} (h1 : objs[r]? = some (.list [])) (h2 : objs[q]? = some (.list [])) : eqD objs (.tup [.ref r, .tup [], .tup [], .non]) (.tup [.ref q, .tup [], .tup [], .non]) = some true := by
  have e : ∀ (n r : Nat), objs[r]? = some (.list []) → toD objs (n + 3) (.tup [.ref r, .tup [], .tup [], .non]) = some (.tuple [.list [], .tuple [], .tuple [], .none]) := fun n r h => by
    simp [toD, mapO, h]
  unfold eqD
  rw [e 37 r h1, e 37 q h2]
  simp [PySem.PyData.eqv, PySem.PyData.eqvAll]
/-- == of two books without rows -/
theorem c38 (k : Nat) (b d : Nat) (cols cols' : List Col) (s : Sto) (h : isBook s.objs b cols) (h' : isBook s.objs d cols') (sm : Small cols) (sm' : Small cols') : callK prog (k + 3) 38 [.ref b, .ref d] s = .ok (.bl (decide (cols = cols'))) s := by
  apply of_Wm
  obtain ⟨O, lo, lk⟩ := s
  have hb : isBook O b cols := h
  have hd : isBook O d cols' := h'
  obtain ⟨rt, kn, dn, pa, go, rc, h1, h2, h3⟩ := h
  obtain ⟨rt', kn', dn', pa', go', rc', g1, g2, g3⟩ := h'
  have h1 : O[b]? = _ := h1
  have g1 : O[d]? = _ := g1
  have h1' : ∀ L, (O ++ L)[b]? = _ := fun L => at_old h1
  have g1' : ∀ L, (O ++ L)[d]? = _ := fun L => at_old g1
  apply call_run' (d := ⟨2, 2, b38⟩) rfl rfl
  show Ws (exSs _ b38 [some (.ref b), some (.ref d)] _) _ _
  unfold b38
  push_cast [h1, g1, cols_eqD sm sm']
  refine if_neg' (fun e => ?_) fun e => ?_
  · push_cast [h1, g1, me16f]
    rw [Wm_ok (c41 k b cols ⟨O, _, _⟩ hb)]
    push_cast [h1', g1', me16f]
    rw [Wm_ok (c41 k d cols' ⟨O ++ _, _, _⟩ (isBook.up hd _))]
    push_cast [TR.o_fn]
    rw [face_eqD (by simp only [at_zero]; rfl) (by simp only [at_add]; rfl)]
    push_cast [e]
  · push_cast [e]
/-- its columns -/
theorem c63 (k : Nat) (b : Nat) (cols : List Col) (s : Sto) (h : isBook s.objs b cols) : callK prog (k + 1) 63 [.ref b] s = .ok (.ref s.objs.length) ⟨s.objs ++ [.list (cols.map colV)], s.low, s.lk⟩ := by
  apply of_Wm
  obtain ⟨O, lo, lk⟩ := s
  obtain ⟨rt, kn, dn, pa, go, rc, h1, h2, h3⟩ := h
  have h1 : O[b]? = _ := h1
  have h1' : ∀ L, (O ++ L)[b]? = _ := fun L => at_old h1
  apply call_run' (d := ⟨1, 1, b63⟩) rfl rfl
  show Ws (exSs _ b63 [some (.ref b)] _) _ _
  unfold b63
  push_cast [h1, belows_cols]
/-! ### the law's sameness -/
/-- texts, tuples of these -/
def okT : Nat → PV → Bool
  | 0, _ => false
  | n + 1, v => match v with
    | .str _ => true
    | .tup xs => decide (xs.length ≤ 1000) && xs.all (okT n)
    | _ => false
theorem all_tt {γ : Type} {l : List γ} : (l.all fun _ => true) = true := List.all_eq_true.mpr fun _ _ => rfl
end K53
end

section
set_option maxRecDepth 100000
set_option maxHeartbeats 1000000
set_option autoImplicit false
namespace K53
open TL TR
theorem c74 (d : Nat) : ∀ (k : Nat) (v : PV) (s : Sto), okT d v = true → callK prog (k + d) 74 [v, v] s = .ok (.bl true) s := by
  induction d with
  | zero => intro k v s h; simp only [okT] at h; cases h
  | succ d ih =>
    intro k v s h
    cases v with
    | str z =>
      apply of_Wm
      obtain ⟨O, lo, lk⟩ := s
      apply call_run' (k := k + d) (d := ⟨2, 3, b74⟩) rfl rfl
      show Ws (exSs _ b74 [some (.str z), some (.str z), none] _) _ _
      unfold b74
      push_cast [TR.o_fn]
    | tup xs =>
      have h' : (decide (xs.length ≤ 1000) && xs.all (okT d)) = true := h
      rw [Bool.and_eq_true, decide_eq_true_eq] at h'
      apply of_Wm
      obtain ⟨O, lo, lk⟩ := s
      apply call_run' (k := k + d) (d := ⟨2, 3, b74⟩) rfl rfl
      show Ws (exSs _ b74 [some (.tup xs), some (.tup xs), none] _) _ _
      unfold b74
      push_cast [rangeW_eq (Nat.le_trans h'.1 (by decide))]
      refine w_map (fun _ => .bl true) (fun (i : Nat) => .int (i : Int)) (fun i hi => ?_) ?_
      · have hi' : i < xs.length := List.mem_range.mp hi
        push_cast [atO_nat, List.getElem?_eq_getElem hi']
        rw [Wm_ok (ih k xs[i] _ (List.all_eq_true.mp h'.2 _ (List.getElem_mem hi')))]
        push_cast [TR.o_fn]
      · have h1 : xs.length ≤ lineN := lin (Nat.le_trans h'.1 (by decide))
        push_cast [List.length_range, h1, all_tt]
    | non => have z : false = true := h; cases z
    | bl b => have z : false = true := h; cases z
    | int i => have z : false = true := h; cases z
    | ref r => have z : false = true := h; cases z
theorem okT_col {p : Col} (h : p.2.length ≤ 100) : okT 3 (colV p) = true := by
  show (decide ([PV.str p.1, PV.tup (p.2.map .str)].length ≤ 1000) && [PV.str p.1, PV.tup (p.2.map .str)].all (okT 2)) = true
  have : okT 2 (.tup (p.2.map PV.str)) = true := by
    show (decide ((p.2.map PV.str).length ≤ 1000) && (p.2.map PV.str).all (okT 1)) = true
    rw [List.length_map, List.all_map, decide_eq_true (Nat.le_trans h (by decide)), Bool.true_and]
    exact all_tt
  simp only [List.all_cons, List.all_nil, this, Bool.and_true]
  rfl
/-- two lists of the same columns -/
theorem c74l (k : Nat) (cols : List Col) (r q : Nat) (s : Sto) (sm : Small cols) (h1 : s.objs[r]? = some (.list (cols.map colV))) (h2 : s.objs[q]? = some (.list (cols.map colV))) : callK prog (k + 4) 74 [.ref r, .ref q] s = .ok (.bl true) s := by
  apply of_Wm
  obtain ⟨O, lo, lk⟩ := s
  have h1 : O[r]? = _ := h1
  have h2 : O[q]? = _ := h2
  have h1' : ∀ L, (O ++ L)[r]? = _ := fun L => at_old h1
  have h2' : ∀ L, (O ++ L)[q]? = _ := fun L => at_old h2
  apply call_run' (k := k + 3) (d := ⟨2, 3, b74⟩) rfl rfl
  show Ws (exSs _ b74 [some (.ref r), some (.ref q), none] _) _ _
  unfold b74
  have hn := sm.n
  push_cast [h1, h2, rangeW_eq (show cols.length ≤ 16000000 from Nat.le_trans hn (by decide))]
  refine w_map (fun _ => .bl true) (fun (i : Nat) => .int (i : Int)) (fun i hi => ?_) ?_
  · have hi' : i < cols.length := List.mem_range.mp hi
    have hi2 : i < (cols.map colV).length := by rw [List.length_map]; exact hi'
    push_cast [h1, h2, atO_nat, List.getElem?_map, List.getElem?_eq_getElem hi', Option.map_some]
    rw [Wm_ok (c74 3 k (colV cols[i]) _ (okT_col (sm.v _ (List.getElem_mem hi'))))]
    push_cast [TR.o_fn]
  · have h1 : cols.length ≤ lineN := lin (Nat.le_trans hn (by decide))
    push_cast [List.length_range, h1, all_tt]
/-! ### draws -/
theorem pow18 {s : Sto} {Q : PV → Sto → Prop} {X : Xc → Sto → Prop} : Wm (binop .pow (.int 10) (.int 18)) s Q X = Q (.int 1000000000000000000) s := rfl
theorem mulOk {i j : Int} (k : Nat) (hk : 0 < k ∧ k ≤ 400000) (hi : i.natAbs < 2 ^ k) (hj : j.natAbs < 2 ^ k) : i.natAbs.log2 + j.natAbs.log2 < 1000000 := by
  have := log2_lt hk.1 hi
  have := log2_lt hk.1 hj
  omega
def DrOk : List Nat → List Int → Prop
  | [], [] => True
  | n :: ns, d :: ds => (0 ≤ d ∧ d < n) ∧ DrOk ns ds
  | _, _ => False
theorem DrOk.snoc {n : Nat} {d : Int} (h : 0 ≤ d ∧ d < n) : ∀ {ns : List Nat} {ds : List Int}, DrOk ns ds → DrOk (ns ++ [n]) (ds ++ [d])
  | [], [], _ => ⟨h, trivial⟩
  | _ :: _, _ :: _, q => ⟨q.1, DrOk.snoc h q.2⟩
  | [], _ :: _, q => q.elim
  | _ :: _, [], q => q.elim
theorem DrOk.len : ∀ {ns : List Nat} {ds : List Int}, DrOk ns ds → ds.length = ns.length
  | [], [], _ => rfl
  | _ :: _, _ :: _, q => congrArg Nat.succ (DrOk.len q.2)
  | [], _ :: _, q => q.elim
  | _ :: _, [], q => q.elim
theorem c73l (k : Nat) (sizes : List Nat) (r : Nat) (O : List Ob) (lk : List Nat) (hs : ∀ n ∈ sizes, 0 < n ∧ n ≤ 1000) (hl : sizes.length ≤ 100) (hk : ∀ i ∈ r :: lk, i < O.length) {Q : Flow → Env → Sto → Prop} {X : Xc → Env → Sto → Prop} (c : Int) (v4 v5 v6 : Option PV)
    (q : ∀ (c' : Int) (ds : List Int) (v3 : Option PV), DrOk sizes ds → Q .nx [some (.int c'), some (.ref r), some (.ref O.length), v3, v4, v5, v6] ⟨O ++ [.list (ds.map .int)], O.length, r :: lk⟩) :
    Ws (forTurns (fun x ρ t => andThen ρ (M.quiet (asgT (prog.ctx (callK prog k)) ρ (.nm 3) x)) (fun ρ' t => exSs (prog.ctx (callK prog k)) [.exp (.bm .append (.var 2) [.bin .mod (.var 0) (.var 3)]), .set (.nm 0) (.bin .fdiv (.var 0) (.var 3))] ρ' t) t) (nats sizes) [some (.int c), some (.ref r), some (.ref O.length), none, v4, v5, v6] ⟨O ++ [.list []], O.length, r :: lk⟩) Q X := by
  have n0 : (r :: lk).contains O.length = false := nolk hk _ (Nat.le_refl _)
  refine w_for (h := fun (n : Nat) => PV.int (n : Int)) (fun (w : List Nat) ρ t => ∃ (c : Int) (ds : List Int) (pre : List Nat) (v3 : Option PV), sizes = pre ++ w ∧ DrOk pre ds ∧ ρ = [some (.int c), some (.ref r), some (.ref O.length), v3, v4, v5, v6] ∧ t = ⟨O ++ [.list (ds.map .int)], O.length, r :: lk⟩)
    (fun x w ρ t ⟨c, ds, pre, v3, e1, e2, e3, e4⟩ => ?_) (fun ρ t ⟨c, ds, pre, v3, e1, e2, e3, e4⟩ => ?_) ⟨c, [], [], none, rfl, trivial, rfl, rfl⟩
  · subst e3 e4
    obtain ⟨x0, x1⟩ := hs x (by rw [e1]; simp)
    have h0 : (x : Int) ≠ 0 := by omega
    have hlen : ds.length < lineN := by
      have := e2.len
      have : pre.length ≤ sizes.length := by rw [e1]; simp
      unfold lineN
      omega
    have hlg : (x : Int).natAbs.log2 < 9000 := Nat.lt_trans (log2_lt (k := 20) (by omega) (by simp only [Int.natAbs_natCast]; exact Nat.lt_of_le_of_lt x1 (by decide))) (by decide)
    push_cast [n0, hlen, hlg]
    have hp : (0 : Int) < x := by omega
    exact ⟨h0, h0, c.fdiv x, ds ++ [c.fmod x], pre ++ [x], some (.int x), by rw [e1]; simp, DrOk.snoc ⟨Int.fmod_nonneg_of_pos _ hp, Int.fmod_lt_of_pos _ hp⟩ e2, rfl, by rw [List.map_append]; rfl⟩
  · subst e3 e4
    rw [List.append_nil] at e1
    subst e1
    exact q c ds v3 e2
theorem c73 (k : Nat) (cell : Int) (sizes : List Nat) (r : Nat) (O : List Ob) (lo : Nat) (lk : List Nat) (hr : O[r]? = some (.list (nats sizes))) (hs : ∀ n ∈ sizes, 0 < n ∧ n ≤ 1000) (hl : sizes.length ≤ 100) (hk : ∀ i ∈ lk, i < O.length) {Q : PV → Sto → Prop} {X : Xc → Sto → Prop}
    (q : ∀ ds : List Int, DrOk sizes ds → Q (.ref O.length) ⟨O ++ [.list (ds.map .int)], lo, lk⟩) : Wm (callK prog (k + 1) 73 [.int cell, .ref r]) ⟨O, lo, lk⟩ Q X := by
  have hr1 : ∀ L, (O ++ L)[r]? = _ := fun L => at_old hr
  have hrl : r < O.length := (List.getElem?_eq_some_iff.mp hr).1
  have hk2 : ∀ i ∈ r :: lk, i < O.length := fun i hi => by
    rcases List.mem_cons.mp hi with rfl | hi
    · exact hrl
    · exact hk i hi
  have bI : ∀ ds : List Int, belows O.length (ds.map PV.int) = true := fun ds => belows_int
  apply call_run' (d := ⟨2, 7, b73⟩) rfl rfl
  show Ws (exSs _ b73 [some (.int cell), some (.ref r), none, none, none, none, none] _) _ _
  unfold b73
  push_cast [pow18]
  refine if_neg' (fun e => ?_) fun e => ?_
  · have e' : (if cell < 0 then -cell else cell) < 1000000000000000000 := by simpa using e
    have hc : cell.natAbs < 2 ^ 60 := by
      have : cell.natAbs < 1000000000000000000 := by split at e' <;> omega
      exact Nat.lt_trans this (by decide)
    have m1 : cell.natAbs.log2 + (48271 : Int).natAbs.log2 < 1000000 := mulOk 60 (by decide) hc (by decide)
    push_cast [pow18, m1]
    have a1 := Int.fmod_nonneg_of_pos (cell * 48271 + 11) (show (0 : Int) < 2147483647 by decide)
    have a2 := Int.fmod_lt_of_pos (cell * 48271 + 11) (show (0 : Int) < 2147483647 by decide)
    generalize (cell * 48271 + 11).fmod 2147483647 = m at a1 a2 ⊢
    have b1 := Int.fmod_nonneg_of_pos (m * m + 40692 * m + cell) (show (0 : Int) < 2147483399 by decide)
    have b2 := Int.fmod_lt_of_pos (m * m + 40692 * m + cell) (show (0 : Int) < 2147483399 by decide)
    generalize (m * m + 40692 * m + cell).fmod 2147483399 = two at b1 b2 ⊢
    have d1 := Int.fmod_nonneg_of_pos (two * 16807 + m) (show (0 : Int) < 1000000007 by decide)
    have d2 := Int.fmod_lt_of_pos (two * 16807 + m) (show (0 : Int) < 1000000007 by decide)
    generalize (two * 16807 + m).fmod 1000000007 = six at d1 d2 ⊢
    have hm : m.natAbs < 2 ^ 70 := Nat.lt_trans (show m.natAbs < 2147483648 by omega) (by decide)
    have ht : two.natAbs < 2 ^ 70 := Nat.lt_trans (show two.natAbs < 2147483648 by omega) (by decide)
    have hx : (six + 1000000007 * m).natAbs < 2 ^ 70 := Nat.lt_trans (show (six + 1000000007 * m).natAbs < 1000000007 * 2147483649 by omega) (by decide)
    refine ⟨by decide, mulOk 70 (by decide) hm hm, mulOk 70 (by decide) (by decide) hm, by decide, mulOk 70 (by decide) ht (by decide), by decide, mulOk 70 (by decide) (by decide) hm, mulOk 70 (by decide) (by decide) hx, ?_⟩
    push_cast [hr1]
    refine c73l k sizes r O lk hs hl hk2 _ _ _ _ (fun c' ds v3 hd => ?_)
    push_cast [bI]
    exact q ds hd
  · push_cast [pow18, hr1]
    refine c73l k sizes r O lk hs hl hk2 _ _ _ _ (fun c' ds v3 hd => ?_)
    push_cast [bI]
    exact q ds hd
end K53
end

section
set_option maxRecDepth 100000
set_option maxHeartbeats 1000000
set_option autoImplicit false
namespace K53
open TL TR
theorem of_Ws {r : SRes} (h : Ws r (fun f _ _ => f = .rt (.bl true)) fun _ _ _ => False) : ∃ ρ t, r = .fin (.rt (.bl true)) ρ t := by
  cases r with
  | fin f ρ t =>
    have e : f = .rt (.bl true) := h
    exact ⟨ρ, t, by rw [e]⟩
  | exc x ρ t => exact (show False from h).elim
  | stuck => exact (show False from h).elim
theorem cutL_map {α β : Type} {f : α → β} {l : List α} {lo hi : Option Int} : cutL (l.map f) lo hi = (cutL l lo hi).map f := by
  unfold cutL
  rw [List.length_map, List.map_take, List.map_drop]
theorem cutL_len {α : Type} {l : List α} {m : Int} (h : 0 ≤ m) : (cutL l none (some m)).length ≤ m.toNat := by
  unfold cutL clip
  dsimp only
  rw [if_pos h]
  simp only [List.drop_zero, List.length_take]
  omega
def restB : List TL.St := (prog.defs.getD lawFn ⟨0, 0, []⟩).body.tail
/-- the law's turns: what stands between them -/
def J77 (q : List Int) (ρ : Env) (t : Sto) : Prop := ∃ (O : List Ob) (lo : Nat) (v1 v2 v3 v4 v5 v6 v7 v8 v9 v10 v11 v12 v13 : Option PV), ρ = [some (.ref 0), v1, v2, v3, v4, v5, v6, v7, v8, v9, v10, v11, v12, v13] ∧ t = ⟨O, lo, [2]⟩ ∧ 2 < O.length
def body77 : List TL.St := match b77 with
  | [_, .fors _ _ b, _] => b
  | _ => []
theorem atO0 {α : Type} {xs : List α} : atO xs 0 = xs[0]? := atO_nat (i := 0)
theorem atO1 {α : Type} {xs : List α} : atO xs 1 = xs[1]? := atO_nat (i := 1)
theorem atO8 {α : Type} {xs : List α} : atO xs 8 = xs[8]? := atO_nat (i := 8)
theorem atO9 {α : Type} {xs : List α} : atO xs 9 = xs[9]? := atO_nat (i := 9)
theorem atO10 {α : Type} {xs : List α} : atO xs 10 = xs[10]? := atO_nat (i := 10)
theorem atO_1 {α : Type} {xs : List α} {k : Nat} : atO xs (1 + (k : Int)) = xs[1 + k]? := by
  rw [show (1 + (k : Int)) = ((1 + k : Nat) : Int) by omega]
  exact atO_nat
theorem DrOk.uncons {n : Nat} {ns : List Nat} {ds : List Int} (h : DrOk (n :: ns) ds) : ∃ d r, ds = d :: r ∧ 0 ≤ d ∧ d < n ∧ DrOk ns r := by
  cases ds with
  | nil => exact h.elim
  | cons d r => exact ⟨d, r, rfl, h.1.1, h.1.2, h.2⟩
/-- the draws: how many columns, their sizes' places, the odd name, the change's place, its kind -/
theorem dr11 {ds : List Int} (h : DrOk [8, 5, 5, 5, 5, 5, 5, 5, 8, 9, 3] ds) : ∃ (d0 : Nat) (ss : Nat → Nat) (d8 d9 d10 : Nat), (ds.map PV.int)[0]? = some (.int d0) ∧ (∀ k, k < 7 → (ds.map PV.int)[1 + k]? = some (.int (ss k)) ∧ ss k < 5) ∧ (ds.map PV.int)[8]? = some (.int d8) ∧ (ds.map PV.int)[9]? = some (.int d9) ∧ (ds.map PV.int)[10]? = some (.int d10) ∧ d0 < 8 ∧ d8 < 8 ∧ d9 < 9 ∧ d10 < 3 := by
  obtain ⟨a0, r, rfl, x0, y0, h⟩ := h.uncons
  obtain ⟨a1, r, rfl, x1, y1, h⟩ := h.uncons
  obtain ⟨a2, r, rfl, x2, y2, h⟩ := h.uncons
  obtain ⟨a3, r, rfl, x3, y3, h⟩ := h.uncons
  obtain ⟨a4, r, rfl, x4, y4, h⟩ := h.uncons
  obtain ⟨a5, r, rfl, x5, y5, h⟩ := h.uncons
  obtain ⟨a6, r, rfl, x6, y6, h⟩ := h.uncons
  obtain ⟨a7, r, rfl, x7, y7, h⟩ := h.uncons
  obtain ⟨a8, r, rfl, x8, y8, h⟩ := h.uncons
  obtain ⟨a9, r, rfl, x9, y9, h⟩ := h.uncons
  obtain ⟨aa, r, rfl, xa, ya, h⟩ := h.uncons
  have : r = [] := by cases r with | nil => rfl | cons a r => exact h.elim
  subst this
  have c : ∀ {a : Int}, 0 ≤ a → ((a.toNat : Nat) : Int) = a := fun h => Int.toNat_of_nonneg h
  refine ⟨a0.toNat, fun k => ([a1.toNat, a2.toNat, a3.toNat, a4.toNat, a5.toNat, a6.toNat, a7.toNat] : List Nat).getD k 0, a8.toNat, a9.toNat, aa.toNat, by simp [c x0], fun k hk => ?_, by simp [c x8], by simp [c x9], by simp [c xa], by omega, by omega, by omega, by omega⟩
  match k, hk with
  | 0, _ => exact ⟨by simp [c x1], by simp; omega⟩
  | 1, _ => exact ⟨by simp [c x2], by simp; omega⟩
  | 2, _ => exact ⟨by simp [c x3], by simp; omega⟩
  | 3, _ => exact ⟨by simp [c x4], by simp; omega⟩
  | 4, _ => exact ⟨by simp [c x5], by simp; omega⟩
  | 5, _ => exact ⟨by simp [c x6], by simp; omega⟩
  | 6, _ => exact ⟨by simp [c x7], by simp; omega⟩
  | k + 7, h => omega
/-! ### the columns that are drawn -/
def nameK (k : Nat) : List Nat := cutL [99, 111, 108, 117, 109, 110] none (some (1 + (k : Int).fmod 6)) ++ [97 + k]
def sizeK (d : Nat) : Nat := match d with
  | 2 => 3
  | 3 => 4
  | _ => 2
def valsK (n : Nat) : List (List Nat) := cutL [[110, 111], [121, 101, 115], [109, 97, 121, 98, 101], [110, 101, 118, 101, 114]] none (some (n : Int))
def colK (ss : Nat → Nat) (k : Nat) : Col := (nameK k, valsK (sizeK (ss k)))
theorem size_at {d : Nat} (h : d < 5) : ([PV.int 2, PV.int 2, PV.int 3, PV.int 4, PV.int 2] : List PV)[d]? = some (.int (sizeK d)) := by
  match d, h with
  | 0, _ => rfl
  | 1, _ => rfl
  | 2, _ => rfl
  | 3, _ => rfl
  | 4, _ => rfl
  | d + 5, h => omega
theorem letter_at {k : Nat} (h : k < 7) : ([97, 98, 99, 100, 101, 102, 103] : List Nat)[k]? = some (97 + k) := by
  match k, h with
  | 0, _ => rfl
  | 1, _ => rfl
  | 2, _ => rfl
  | 3, _ => rfl
  | 4, _ => rfl
  | 5, _ => rfl
  | 6, _ => rfl
  | k + 7, h => omega
theorem cutL_le {α : Type} {l : List α} {lo hi : Option Int} : (cutL l lo hi).length ≤ l.length := by
  unfold cutL
  rw [List.length_take, List.length_drop]
  omega
def consts : List PV := [PV.int 8, PV.int 5, PV.int 5, PV.int 5, PV.int 5, PV.int 5, PV.int 5, PV.int 5, PV.int 8, PV.int 9, PV.int 3]
def JC (cell : Int) (O : List Ob) (lk : List Nat) (D : List PV) (ss : Nat → Nat) (d0 : Nat) (u5 u6 u7 u8 u9 u11 u12 u13 : Option PV) (r : List Nat) (ρ : Env) (t : Sto) : Prop := ∃ (j : Nat) (junk : List Ob) (lo : Nat) (v4 v10 : Option PV), r = (List.range d0).drop j ∧ j ≤ d0 ∧
  ρ = [some (.ref 0), some (.int cell), some (.ref (O.length + 1)), some (.ref (O.length + 2)), v4, u5, u6, u7, u8, u9, v10, u11, u12, u13] ∧
  t = ⟨O ++ (.list consts :: .list D :: .list (((List.range j).map (colK ss)).map colV) :: junk), lo, lk⟩
theorem okC {n : Nat} {cols : List Col} (h : Small cols) : ∀ p ∈ cols, okD (n + 3) (colV p) = true := fun p hp => by
  have := okCs (n := n) h
  rw [okD_tup, List.all_map] at this
  exact List.all_eq_true.mp this p hp
theorem nil_eqD {objs : List Ob} {r q : Nat} {cols : List Col} (sm : Small cols) (h1 : objs[r]? = some (.list (cols.map colV))) (h2 : objs[q]? = some (.list [])) : eqD objs (.ref r) (.ref q) = some cols.isEmpty := by
  have e1 : ∀ n : Nat, toD objs (n + 4) (.ref r) = some (.list ((cols.map colV).map (pdat (n + 3)))) := fun n => by
    unfold toD
    dsimp only
    rw [h1]
    dsimp only
    rw [mapO_some (g := pdat (n + 3)) fun a ha => ?_]
    · rfl
    · obtain ⟨p, hp, rfl⟩ := List.mem_map.mp ha
      exact toD_ok (n + 3) _ (okC sm p hp)
  have e2 : ∀ n : Nat, toD objs (n + 4) (.ref q) = some (.list []) := fun n => by
    unfold toD
    dsimp only
    rw [h2]
    rfl
  unfold eqD
  rw [e1 36, e2 36]
  cases cols <;> simp [PySem.PyData.eqv, PySem.PyData.eqvAll]
theorem neRef {c : Ctx} {O : List Ob} {lo : Nat} {lk : List Nat} {r q : Nat} {Q : PV → Sto → Prop} {X : Xc → Sto → Prop} : Wm (compareV c .ne (.ref r) (.ref q)) ⟨O, lo, lk⟩ Q X = (match eqD O (.ref r) (.ref q) with | some k => Q (.bl (!k)) ⟨O, lo, lk⟩ | none => False) := by
  rw [o_cmp (.inl (by decide))]
  show (match (eqD O (.ref r) (.ref q)).map not with | some k => Q (.bl k) ⟨O, lo, lk⟩ | none => False) = _
  cases eqD O (.ref r) (.ref q) <;> rfl
def firstN (cols : List Col) : List Nat := match cols with
  | [] => [120]
  | p :: _ => p.1
def oddN (cols : List Col) (d : Nat) : List Nat := ([[97, 98, 99, 100, 101, 102, 103, 104, 105], [], [65, 98], [97, 49], [97, 98, 99, 100, 101, 102, 103, 104], [110, 111], [97, 32, 98], firstN cols] : List (List Nat)).getD d []
theorem odd_at {cols : List Col} {d : Nat} (h : d < 8) : ([PV.str [97, 98, 99, 100, 101, 102, 103, 104, 105], PV.str [], PV.str [65, 98], PV.str [97, 49], PV.str [97, 98, 99, 100, 101, 102, 103, 104], PV.str [110, 111], PV.str [97, 32, 98], PV.str (firstN cols)] : List PV)[d]? = some (.str (oddN cols d)) := by
  match d, h with
  | 0, _ => rfl
  | 1, _ => rfl
  | 2, _ => rfl
  | 3, _ => rfl
  | 4, _ => rfl
  | 5, _ => rfl
  | 6, _ => rfl
  | 7, _ => rfl
  | d + 8, h => omega
/-- the i-th statement of a turn -/
def stm (i : Nat) : TL.St := body77.getD i .pass
/-- the odd name is chosen -/
theorem st3 (c : Int) (O junk : List Ob) (lo : Nat) (lk : List Nat) (D : List PV) (cols : List Col) (d8 : Nat) (e8 : D[8]? = some (.int d8)) (h8 : d8 < 8) (sm : Small cols) (v4 v5 v6 v7 v8 v9 v10 v11 v12 v13 : Option PV) :
    Ws (exS (prog.ctx (callK prog 9)) (stm 3) [some (.ref 0), some (.int c), some (.ref (O.length + 1)), some (.ref (O.length + 2)), v4, v5, v6, v7, v8, v9, v10, v11, v12, v13] ⟨O ++ (.list consts :: .list D :: .list (cols.map colV) :: junk), lo, lk⟩)
      (fun f ρ t => f = .nx ∧ ρ = [some (.ref 0), some (.int c), some (.ref (O.length + 1)), some (.ref (O.length + 2)), v4, some (.str (oddN cols d8)), v6, v7, v8, v9, v10, v11, v12, v13] ∧ ∃ junk', t = ⟨O ++ (.list consts :: .list D :: .list (cols.map colV) :: junk'), lo, lk⟩) (fun _ _ _ => False) := by
  unfold stm body77 b77
  simp only [List.getD_cons_succ, List.getD_cons_zero]
  have hq : ∀ (L : List Ob), eqD (O ++ (.list consts :: .list D :: .list (cols.map colV) :: (L ++ [.list []]))) (.ref (O.length + 2)) (.ref (O.length + (L.length + 1 + 1 + 1))) = some cols.isEmpty := fun L =>
    nil_eqD sm (by simp only [at_add, List.getElem?_cons_succ, List.getElem?_cons_zero]) (by simp only [at_add, List.getElem?_cons_succ, at_end])
  have ho : ([PV.str [97, 98, 99, 100, 101, 102, 103, 104, 105], PV.str [], PV.str [65, 98], PV.str [97, 49], PV.str [97, 98, 99, 100, 101, 102, 103, 104], PV.str [110, 111], PV.str [97, 32, 98], PV.str (firstN cols)] : List PV)[d8]? = some (.str (oddN cols d8)) := odd_at h8
  push_cast [neRef, hq]
  refine if_neg' (fun ec => ?_) fun ec => ?_
  · obtain ⟨p, ps, rfl⟩ : ∃ p ps, cols = p :: ps := by cases cols with | nil => simp at ec | cons p ps => exact ⟨p, ps, rfl⟩
    have ho' := ho
    simp only [firstN] at ho'
    push_cast [atO0, atO8, e8, atO_nat, ho', colV]
    exact ⟨_, rfl⟩
  · have : cols = [] := by cases cols with | nil => rfl | cons p ps => simp at ec
    subst this
    simp only [firstN] at ho
    push_cast [atO0, atO8, e8, atO_nat, ho]
    exact ⟨_, rfl⟩
theorem setL {O : List Ob} {lo : Nat} {lk : List Nat} {r i : Nat} {xs : List PV} {v : PV} {Q : Unit → Sto → Prop} {X : Xc → Sto → Prop} (h : O[r]? = some (.list xs)) (hi : i < xs.length) : Wm (setItem (.ref r) (.int (i : Int)) v) ⟨O, lo, lk⟩ Q X = (lk.contains r = false ∧ Q () ⟨O.set r (.list (xs.set i v)), min lo r, lk⟩) := by
  show Wm (getOb r >>= _) _ Q X = _
  rw [Wm_bind, o_getOb, h]
  have e : ixO xs.length (i : Int) = some i := by
    unfold ixO
    rw [if_pos (by omega), if_pos (by omega)]
    rfl
  dsimp only
  rw [e]
  dsimp only
  exact Wm_putOb
theorem setM {O : List Ob} {lo : Nat} {lk : List Nat} {r : Nat} {j : Int} {v : PV} {Q : Unit → Sto → Prop} {X : Xc → Sto → Prop} : Wm (setItem (.ref r) (.int j) v) ⟨O, lo, lk⟩ Q X = (match O[r]? with
    | some (.list xs) => (match ixO xs.length j with
      | some i => lk.contains r = false ∧ Q () ⟨O.set r (.list (xs.set i v)), min lo r, lk⟩
      | none => False)
    | some (.dict kvs) => (keyOk kvs (.int j) && decide (kvs.length < lineN)) = true ∧ lk.contains r = false ∧ Q () ⟨O.set r (.dict (storeD kvs (.int j) v)), min lo r, lk⟩
    | _ => False) := by
  show Wm (getOb r >>= _) _ Q X = _
  rw [Wm_bind, o_getOb]
  dsimp only
  cases O[r]? with
  | none => rfl
  | some o =>
    cases o with
    | list xs =>
      dsimp only
      cases ixO xs.length j with
      | none => rfl
      | some i => dsimp only; exact Wm_putOb
    | dict kvs =>
      show Wm (M.guard _ >>= fun _ => putOb r _) _ Q X = _
      rw [Wm_bind, Wm_guard, Wm_putOb]
    | _ => rfl
theorem ixO_nat {n i : Nat} (h : i < n) : ixO n (i : Int) = some i := by
  unfold ixO
  rw [if_pos (by omega), if_pos (by omega)]
  rfl
theorem fmod_nat (a b : Nat) : (a : Int).fmod (b : Int) = ((a % b : Nat) : Int) := by
  rw [Int.fmod_eq_emod_of_nonneg _ (by omega)]
  rfl
/-- one column is changed -/
def chg1 (cols : List Col) (i : Nat) (f : Col → Col) : List Col := match cols[i]? with
  | some p => cols.set i (f p)
  | none => cols
def more3 (odd : List Nat) : List (List Nat) := [odd, [109, 111, 114, 101], [109, 111, 115, 116]]
def chg (cols : List Col) (odd : List Nat) (d9 d10 : Nat) : List Col :=
  let i := d9 % cols.length
  let c1 := if d10 = 0 then chg1 cols i (fun p => (odd, p.2)) else cols
  let c2 := if d9 = 7 then chg1 c1 i (fun p => (p.1, cutL p.2 none (some 1))) else c1
  if d9 = 8 then chg1 c2 i (fun p => (p.1, p.2 ++ more3 odd)) else c2
theorem col0 {p : Col} {s : Sto} {Q : PV → Sto → Prop} {X : Xc → Sto → Prop} : Wm (getItem (colV p) (.int 0)) s Q X = Q (.str p.1) s := rfl
theorem col1 {p : Col} {s : Sto} {Q : PV → Sto → Prop} {X : Xc → Sto → Prop} : Wm (getItem (colV p) (.int 1)) s Q X = Q (.tup (p.2.map .str)) s := rfl
/-- the statements of a change -/
def in4 (j : Nat) : TL.St := match stm 4 with
  | .ifs _ b _ => b.getD j .pass
  | _ => .pass
def rho4 (c : Int) (n i : Nat) (odd : List Nat) (v4 v6 v7 v8 v9 v10 v12 v13 : Option PV) : Env := [some (.ref 0), some (.int c), some (.ref (n + 1)), some (.ref (n + 2)), v4, some (.str odd), v6, v7, v8, v9, v10, some (.int (i : Int)), v12, v13]
def Post4 (O : List Ob) (lk : List Nat) (D : List PV) (ρ0 : Env) (cols : List Col) (f : Flow) (ρ : Env) (t : Sto) : Prop := f = .nx ∧ ρ = ρ0 ∧ ∃ junk lo, t = ⟨O ++ (.list consts :: .list D :: .list (cols.map colV) :: junk), lo, lk⟩
theorem set_colV {cols : List Col} {i : Nat} {p : Col} : (cols.map colV).set i (colV p) = (cols.set i p).map colV := List.map_set.symm
theorem if41 (c : Int) (O junk : List Ob) (lo : Nat) (lk : List Nat) (hk : ∀ i ∈ lk, i < O.length) (D : List PV) (cols : List Col) (odd : List Nat) (d10 i : Nat) (e10 : D[10]? = some (.int d10)) (hi : i < cols.length) (v4 v6 v7 v8 v9 v10 v12 v13 : Option PV) :
    Ws (exS (prog.ctx (callK prog 9)) (in4 1) (rho4 c O.length i odd v4 v6 v7 v8 v9 v10 v12 v13) ⟨O ++ (.list consts :: .list D :: .list (cols.map colV) :: junk), lo, lk⟩)
      (Post4 O lk D (rho4 c O.length i odd v4 v6 v7 v8 v9 v10 v12 v13) (if d10 = 0 then chg1 cols i (fun p => (odd, p.2)) else cols)) (fun _ _ _ => False) := by
  unfold in4 stm body77 b77 rho4
  simp only [List.getD_cons_succ, List.getD_cons_zero]
  have n0 : lk.contains (O.length + 2) = false := nolk hk _ (by omega)
  have hc := List.getElem?_eq_getElem hi
  have hm : (cols.map colV)[i]? = some (colV cols[i]) := by rw [List.getElem?_map, hc]; rfl
  push_cast [atO10, e10]
  refine if_neg' (fun g1 => ?_) fun g1 => ?_
  · have g : d10 = 0 := by simpa using g1
    push_cast [atO_nat, hm, ↓col0, ↓col1, setM, ixO_nat hi, n0]
    refine ⟨rfl, rfl, junk, min lo (O.length + 2), ?_⟩
    rw [if_pos g, chg1, hc]
    dsimp only
    rw [← set_colV]
    rfl
  · have g : ¬ d10 = 0 := by simpa using g1
    push_cast [TR.o_fn]
    exact ⟨rfl, rfl, junk, _, by rw [if_neg g]⟩
theorem if42 (c : Int) (O junk : List Ob) (lo : Nat) (lk : List Nat) (hk : ∀ i ∈ lk, i < O.length) (D : List PV) (cols : List Col) (odd : List Nat) (d9 i : Nat) (e9 : D[9]? = some (.int d9)) (hi : i < cols.length) (sm : ∀ p ∈ cols, p.2.length ≤ 100) (v4 v6 v7 v8 v9 v10 v12 v13 : Option PV) :
    Ws (exS (prog.ctx (callK prog 9)) (in4 2) (rho4 c O.length i odd v4 v6 v7 v8 v9 v10 v12 v13) ⟨O ++ (.list consts :: .list D :: .list (cols.map colV) :: junk), lo, lk⟩)
      (Post4 O lk D (rho4 c O.length i odd v4 v6 v7 v8 v9 v10 v12 v13) (if d9 = 7 then chg1 cols i (fun p => (p.1, cutL p.2 none (some 1))) else cols)) (fun _ _ _ => False) := by
  unfold in4 stm body77 b77 rho4
  simp only [List.getD_cons_succ, List.getD_cons_zero]
  have n0 : lk.contains (O.length + 2) = false := nolk hk _ (by omega)
  have hc := List.getElem?_eq_getElem hi
  have hm : (cols.map colV)[i]? = some (colV cols[i]) := by rw [List.getElem?_map, hc]; rfl
  have hl : cols[i].2.length + 3 ≤ lineN := lin (Nat.le_trans (Nat.add_le_add_right (sm _ (List.getElem_mem hi)) 3) (by decide))
  push_cast [atO9, e9]
  refine if_neg' (fun g1 => ?_) fun g1 => ?_
  · have g : d9 = 7 := by simp at g1; omega
    push_cast [atO_nat, hm, ↓col0, ↓col1, setM, ixO_nat hi, n0, hl, cutL_map]
    refine ⟨rfl, rfl, junk, min lo (O.length + 2), ?_⟩
    rw [if_pos g, chg1, hc]
    dsimp only
    rw [← set_colV]
    rfl
  · have g : ¬ d9 = 7 := by simp at g1; omega
    push_cast [TR.o_fn]
    exact ⟨rfl, rfl, junk, _, by rw [if_neg g]⟩
theorem if43 (c : Int) (O junk : List Ob) (lo : Nat) (lk : List Nat) (hk : ∀ i ∈ lk, i < O.length) (D : List PV) (cols : List Col) (odd : List Nat) (d9 i : Nat) (e9 : D[9]? = some (.int d9)) (hi : i < cols.length) (sm : ∀ p ∈ cols, p.2.length ≤ 100) (v4 v6 v7 v8 v9 v10 v12 v13 : Option PV) :
    Ws (exS (prog.ctx (callK prog 9)) (in4 3) (rho4 c O.length i odd v4 v6 v7 v8 v9 v10 v12 v13) ⟨O ++ (.list consts :: .list D :: .list (cols.map colV) :: junk), lo, lk⟩)
      (Post4 O lk D (rho4 c O.length i odd v4 v6 v7 v8 v9 v10 v12 v13) (if d9 = 8 then chg1 cols i (fun p => (p.1, p.2 ++ more3 odd)) else cols)) (fun _ _ _ => False) := by
  unfold in4 stm body77 b77 rho4
  simp only [List.getD_cons_succ, List.getD_cons_zero]
  have n0 : lk.contains (O.length + 2) = false := nolk hk _ (by omega)
  have hc := List.getElem?_eq_getElem hi
  have hm : (cols.map colV)[i]? = some (colV cols[i]) := by rw [List.getElem?_map, hc]; rfl
  have hl : cols[i].2.length + 3 ≤ lineN := lin (Nat.le_trans (Nat.add_le_add_right (sm _ (List.getElem_mem hi)) 3) (by decide))
  push_cast [atO9, e9]
  refine if_neg' (fun g1 => ?_) fun g1 => ?_
  · have g : d9 = 8 := by simp at g1; omega
    push_cast [atO_nat, hm, ↓col0, ↓col1, setM, ixO_nat hi, n0, hl, cutL_map]
    refine ⟨rfl, rfl, junk, min lo (O.length + 2), ?_⟩
    rw [if_pos g, chg1, hc]
    dsimp only
    rw [← set_colV]
    simp only [colV, List.map_append]; rfl
  · have g : ¬ d9 = 8 := by simp at g1; omega
    push_cast [TR.o_fn]
    exact ⟨rfl, rfl, junk, _, by rw [if_neg g]⟩
theorem chg1_len {cols : List Col} {i : Nat} {f : Col → Col} : (chg1 cols i f).length = cols.length := by
  unfold chg1
  split
  · rw [List.length_set]
  · rfl
theorem chg1_all {cols : List Col} {i : Nat} {f : Col → Col} (h : ∀ p ∈ cols, p.2.length ≤ 100) (hf : ∀ p ∈ cols, (f p).2.length ≤ 100) : ∀ p ∈ chg1 cols i f, p.2.length ≤ 100 := by
  unfold chg1
  split
  · rename_i p0 e
    intro p hp
    rcases List.mem_or_eq_of_mem_set hp with z | z
    · exact h p z
    · rw [z]; exact hf p0 (List.mem_of_getElem? e)
  · exact h
/-- a column is changed, perhaps -/
theorem st4 (c : Int) (O junk : List Ob) (lo : Nat) (lk : List Nat) (hk : ∀ i ∈ lk, i < O.length) (D : List PV) (cols : List Col) (odd : List Nat) (d9 d10 : Nat) (e9 : D[9]? = some (.int d9)) (e10 : D[10]? = some (.int d10)) (sm : Small cols) (v4 v6 v7 v8 v9 v10 v11 v12 v13 : Option PV) :
    Ws (exS (prog.ctx (callK prog 9)) (stm 4) [some (.ref 0), some (.int c), some (.ref (O.length + 1)), some (.ref (O.length + 2)), v4, some (.str odd), v6, v7, v8, v9, v10, v11, v12, v13] ⟨O ++ (.list consts :: .list D :: .list (cols.map colV) :: junk), lo, lk⟩)
      (fun f ρ t => f = .nx ∧ ∃ v11' junk' lo', ρ = [some (.ref 0), some (.int c), some (.ref (O.length + 1)), some (.ref (O.length + 2)), v4, some (.str odd), v6, v7, v8, v9, v10, v11', v12, v13] ∧ t = ⟨O ++ (.list consts :: .list D :: .list ((chg cols odd d9 d10).map colV) :: junk'), lo', lk⟩) (fun _ _ _ => False) := by
  rw [show stm 4 = .ifs (.cmp .ne (.var 3) (.lst [])) [in4 0, in4 1, in4 2, in4 3] [] from rfl]
  have hq : ∀ (L : List Ob), eqD (O ++ (.list consts :: .list D :: .list (cols.map colV) :: (L ++ [.list []]))) (.ref (O.length + 2)) (.ref (O.length + (L.length + 1 + 1 + 1))) = some cols.isEmpty := fun L =>
    nil_eqD sm (by simp only [at_add, List.getElem?_cons_succ, List.getElem?_cons_zero]) (by simp only [at_add, List.getElem?_cons_succ, at_end])
  push_cast [neRef, hq]
  refine if_neg' (fun ec => ?_) fun ec => ?_
  · have hpos : 0 < cols.length := by cases cols with | nil => simp at ec | cons p ps => simp
    have hi : d9 % cols.length < cols.length := Nat.mod_lt _ hpos
    rw [show in4 0 = .set (.nm 11) (.bin .mod (.idx (.var 2) (.cst (.int 9))) (.bi .len [.var 3])) from rfl]
    push_cast [atO9, e9, fmod_nat]
    refine ⟨by omega, ?_⟩
    refine (if41 c O _ _ lk hk D cols odd d10 (d9 % cols.length) e10 hi v4 v6 v7 v8 v9 v10 v12 v13).mono (fun f ρ t ⟨f1, f2, J1, l1, f3⟩ => ?_) fun _ _ _ z => z
    subst f1 f2 f3
    have sv := sm.v
    have hi1 : d9 % cols.length < (if d10 = 0 then chg1 cols (d9 % cols.length) (fun p => (odd, p.2)) else cols).length := by split; rw [chg1_len]; exact hi; exact hi
    have s1 : ∀ p ∈ (if d10 = 0 then chg1 cols (d9 % cols.length) (fun p => (odd, p.2)) else cols), p.2.length ≤ 100 := by
      split
      · exact chg1_all sv fun p hp => sv p hp
      · exact sv
    dsimp only
    rw [Ws_cons]
    refine (if42 c O _ _ lk hk D _ odd d9 (d9 % cols.length) e9 hi1 s1 v4 v6 v7 v8 v9 v10 v12 v13).mono (fun f ρ t ⟨f1, f2, J2, l2, f3⟩ => ?_) fun _ _ _ z => z
    subst f1 f2 f3
    dsimp only
    rw [Ws_cons]
    refine (if43 c O _ _ lk hk D _ odd d9 (d9 % cols.length) e9 (by split; rw [chg1_len]; exact hi1; exact hi1) (by
      split
      · exact chg1_all s1 fun p hp => Nat.le_trans cutL_le (s1 p hp)
      · exact s1) v4 v6 v7 v8 v9 v10 v12 v13).mono (fun f ρ t ⟨f1, f2, J3, l3, f3⟩ => ?_) fun _ _ _ z => z
    subst f1 f2 f3
    dsimp only
    rw [Ws_nil]
    exact ⟨rfl, _, J3, l3, rfl, rfl⟩
  · have : cols = [] := by cases cols with | nil => rfl | cons p ps => simp at ec
    subst this
    push_cast [TR.o_fn]
    have e : chg [] odd d9 d10 = [] := by simp [chg, chg1]
    exact ⟨v11, _, lo, rfl, by rw [e]; rfl⟩
end K53
end

section
set_option maxRecDepth 100000
set_option maxHeartbeats 1000000
set_option autoImplicit false
namespace K53
open TL TR
theorem st5 (cell : Int) (O junk : List Ob) (lo : Nat) (lk : List Nat) (D : List PV) (cols : List Col) (d1 : Nat) (e1 : D[1]? = some (.int d1)) (v4 v5 v6 v7 v8 v9 v10 v11 v12 v13 : Option PV) {Q : Flow → Env → Sto → Prop} {X : Xc → Env → Sto → Prop}
    (q : ∀ junk, Ws (exSs (prog.ctx (callK prog 9)) (body77.drop 8) [some (.ref 0), some (.int cell), some (.ref (O.length + 1)), some (.ref (O.length + 2)), v4, v5, some (.str []), some (.ref (O.length + (junk.length + 1 + 1 + 1))), some .non, v9, v10, v11, v12, v13] ⟨O ++ (.list consts :: .list D :: .list (cols.map colV) :: (junk ++ [.list (cols.map colV)])), lo, lk⟩) Q X) :
    Ws (exSs (prog.ctx (callK prog 9)) (body77.drop 5) [some (.ref 0), some (.int cell), some (.ref (O.length + 1)), some (.ref (O.length + 2)), v4, v5, v6, v7, v8, v9, v10, v11, v12, v13] ⟨O ++ (.list consts :: .list D :: .list (cols.map colV) :: junk), lo, lk⟩) Q X := by
  rw [show body77.drop 5 = .set (.nm 6) (.cst (.str [])) :: .set (.nm 7) (.bi .list [.var 3]) :: .set (.nm 8) (.cst .non) :: body77.drop 8 from rfl]
  generalize body77.drop 8 = rest at q ⊢
  push_cast [belows_cols]
  exact q junk
end K53
end

section
set_option maxRecDepth 100000
set_option maxHeartbeats 1000000
set_option autoImplicit false
namespace K53
open TL TR
theorem addS_len (xs : List PV) (y : PV) : (addS xs y).length ≤ xs.length + 1 := by
  unfold addS; split
  · omega
  · simp
theorem dd_le : ∀ (l acc : List PV), (l.foldl addS acc).length ≤ acc.length + l.length
  | [], acc => by simp
  | y :: l, acc => by
    have := dd_le l (addS acc y)
    have := addS_len acc y
    simp only [List.foldl_cons, List.length_cons]
    omega
theorem any_beq {xs : List PV} {y : PV} : (xs.any fun x => PV.beq x y) = decide (y ∈ xs) := by
  induction xs with
  | nil => rfl
  | cons x xs ih =>
    rw [List.any_cons, ih]
    by_cases h : x = y
    · subst h; simp [PV.beq_self]
    · have : PV.beq x y = false := by
        cases e : PV.beq x y with
        | false => rfl
        | true => exact absurd (PV.eq_of_beq x y e) h
      have h' : ¬ y = x := fun e => h e.symm
      simp [this, h']
theorem dd_iff : ∀ (l acc : List PV), (l.foldl addS acc).length = acc.length + l.length ↔ l.Nodup ∧ ∀ x ∈ l, x ∉ acc
  | [], acc => by simp
  | y :: l, acc => by
    rw [List.foldl_cons, List.length_cons, List.nodup_cons]
    have hb : addS acc y = if y ∈ acc then acc else acc ++ [y] := by unfold addS; rw [any_beq]; simp
    by_cases h : y ∈ acc
    · rw [hb, if_pos h]
      have := dd_le l acc
      constructor
      · intro e; omega
      · rintro ⟨_, h2⟩; exact absurd h (h2 y (List.mem_cons_self ..))
    · rw [hb, if_neg h]
      have := dd_iff l (acc ++ [y])
      rw [List.length_append, List.length_singleton] at this
      rw [show acc.length + (l.length + 1) = acc.length + 1 + l.length by omega, this]
      constructor
      · rintro ⟨h1, h2⟩
        refine ⟨⟨fun hy => ?_, h1⟩, fun x hx => ?_⟩
        · exact h2 y hy (by simp)
        · rcases List.mem_cons.mp hx with rfl | hx
          · exact h
          · intro hc; exact h2 x hx (by simp [hc])
      · rintro ⟨⟨h1, h2⟩, h3⟩
        refine ⟨h2, fun x hx => ?_⟩
        rw [List.mem_append, List.mem_singleton]
        rintro (hc | rfl)
        · exact h3 x (List.mem_cons_of_mem _ hx) hc
        · exact h1 hx
theorem nodup_str {l : List (List Nat)} : (l.map PV.str).Nodup ↔ l.Nodup := by
  induction l with
  | nil => simp
  | cons a l ih => simp [List.nodup_cons, ih]
theorem good_iff {l : List (List Nat)} : good l = true ↔ (∀ z ∈ l, okName z = true) ∧ l.Nodup := by
  unfold good
  rw [Bool.and_eq_true, decide_eq_true_eq, List.all_eq_true]
  have := dd_iff (l.map PV.str) []
  simp only [List.length_nil, Nat.zero_add, List.length_map, List.not_mem_nil, not_false_eq_true, implies_true, and_true, nodup_str] at this
  unfold dedup
  rw [← this]
  constructor
  · rintro ⟨h1, h2⟩; exact ⟨h1, by omega⟩
  · rintro ⟨h1, h2⟩; exact ⟨h1, by omega⟩
theorem goodC_iff {cols : List Col} : goodC cols = true ↔ (∀ p ∈ cols, okName p.1 = true ∧ (∀ z ∈ p.2, okName z = true) ∧ p.2.Nodup) ∧ (cols.map (·.1)).Nodup := by
  unfold goodC
  rw [Bool.and_eq_true, List.all_eq_true, good_iff]
  constructor
  · rintro ⟨h1, h2, h3⟩
    refine ⟨fun p hp => ?_, h3⟩
    have := h1 p hp
    rw [Bool.and_eq_true, good_iff, good_iff] at this
    exact ⟨this.1.1 _ (by simp), this.2⟩
  · rintro ⟨h1, h2⟩
    refine ⟨fun p hp => ?_, fun z hz => ?_, h2⟩
    · rw [Bool.and_eq_true, good_iff, good_iff]
      refine ⟨⟨fun z hz => ?_, by simp⟩, (h1 p hp).2⟩
      rw [List.mem_singleton.mp hz]; exact (h1 p hp).1
    · obtain ⟨p, hp, rfl⟩ := List.mem_map.mp hz
      exact (h1 p hp).1
/-- the three other lists of columns -/
def late : List Nat := [108, 97, 116, 101]
def oth0 : List Col → List Col
  | p :: ps => (late, p.2) :: ps
  | [] => []
def oth1 : List Col → List Col
  | p :: ps => (p.1, p.2.reverse) :: ps
  | [] => []
def oth2 : List Col → List Col
  | p :: ps => (p.1, [119] :: p.2.drop 1) :: ps
  | [] => []
/-- what the other columns want -/
structure Oth (cols o : List Col) : Prop where
  sm : Small o
  g : goodC o = true
  s : sized (sizesC o) = true
  ne : o ≠ cols
structure Nw (cols : List Col) : Prop where
  n : ∀ p ∈ cols, p.1 ≠ late
  v : ∀ p ∈ cols, ∀ x ∈ p.2, x ≠ [119]
theorem sized_pos {l : List Nat} (h : sized l = true) : ∀ n ∈ l, 2 ≤ n := by
  unfold sized at h
  simp only [Bool.and_eq_true, List.all_eq_true, decide_eq_true_eq] at h
  intro n hn
  have := (h.1.2 n hn).1
  omega
theorem Small.cons {p q : Col} {ps : List Col} (h : Small (p :: ps)) (h1 : q.2.length ≤ 100) (h2 : q.1.length ≤ 100 ∧ ∀ x ∈ q.2, x.length ≤ 100) (h3 : q.1.all (· < 1114112) = true ∧ ∀ x ∈ q.2, x.all (· < 1114112) = true) : Small (q :: ps) where
  n := h.n
  v := fun r hr => by
    rcases List.mem_cons.mp hr with rfl | hr
    · exact h1
    · exact h.v r (List.mem_cons_of_mem _ hr)
  z := fun r hr => by
    rcases List.mem_cons.mp hr with rfl | hr
    · exact h2
    · exact h.z r (List.mem_cons_of_mem _ hr)
  c := fun r hr => by
    rcases List.mem_cons.mp hr with rfl | hr
    · exact h3
    · exact h.c r (List.mem_cons_of_mem _ hr)
theorem goodC_cons {p q : Col} {ps : List Col} (h : goodC (p :: ps) = true) (h1 : okName q.1 = true) (h2 : ∀ z ∈ q.2, okName z = true) (h3 : q.2.Nodup) (h4 : ∀ r ∈ ps, r.1 ≠ q.1) : goodC (q :: ps) = true := by
  rw [goodC_iff] at h ⊢
  obtain ⟨g1, g2⟩ := h
  rw [List.map_cons, List.nodup_cons] at g2 ⊢
  refine ⟨fun r hr => ?_, fun hm => ?_, g2.2⟩
  · rcases List.mem_cons.mp hr with rfl | hr
    · exact ⟨h1, h2, h3⟩
    · exact g1 r (List.mem_cons_of_mem _ hr)
  · obtain ⟨r, hr, e⟩ := List.mem_map.mp hm
    exact h4 r hr e
theorem oth_ok {cols : List Col} (sm : Small cols) (g : goodC cols = true) (z : sized (sizesC cols) = true) (nw : Nw cols) : ∃ p ps, cols = p :: ps ∧ Oth cols (oth0 cols) ∧ Oth cols (oth1 cols) ∧ Oth cols (oth2 cols) := by
  cases cols with
  | nil => exact absurd z (by decide)
  | cons p ps =>
    refine ⟨p, ps, rfl, ?_, ?_, ?_⟩
    all_goals
      have g' := goodC_iff.mp g
      obtain ⟨gp1, gp2, gp3⟩ := g'.1 p (List.mem_cons_self ..)
      have gn := g'.2
      rw [List.map_cons, List.nodup_cons] at gn
      have hp := sized_pos z p.2.length (by simp [sizesC])
      have v1 := sm.v p (List.mem_cons_self ..)
      obtain ⟨v2, v3⟩ := sm.z p (List.mem_cons_self ..)
      obtain ⟨v4, v5⟩ := sm.c p (List.mem_cons_self ..)
      have nm : ∀ r ∈ ps, r.1 ≠ p.1 := fun r hr e => gn.1 (by rw [← e]; exact List.mem_map_of_mem hr)
    · exact ⟨sm.cons v1 ⟨(by decide : late.length ≤ 100), v3⟩ ⟨(by decide : late.all (· < 1114112) = true), v5⟩, goodC_cons g (by decide : okName late = true) gp2 gp3 fun r hr => nw.n r (List.mem_cons_of_mem _ hr), z, fun e => by
        have := congrArg (fun l : List Col => l.map (·.1)) e
        simp only [oth0, List.map_cons, List.cons.injEq] at this
        exact nw.n p (List.mem_cons_self ..) this.1.symm⟩
    · exact ⟨sm.cons (by simpa using v1) ⟨v2, by simpa using v3⟩ ⟨v4, by simpa using v5⟩, goodC_cons g gp1 (by simpa using gp2) (List.pairwise_reverse.mpr (gp3.imp fun h => Ne.symm h)) nm, by simpa [oth1, sizesC] using z, fun e => by
        have := congrArg (fun l : List Col => l.map (·.2)) e
        simp only [oth1, List.map_cons, List.cons.injEq] at this
        have e2 := this.1
        cases hq : p.2 with
        | nil => rw [hq] at hp; simp at hp
        | cons a l =>
          rw [hq] at e2 hp gp3
          rw [List.nodup_cons] at gp3
          have := congrArg List.getLast? e2
          rw [List.getLast?_reverse] at this
          cases l with
          | nil => simp at hp
          | cons b l =>
            have : a ∈ b :: l := by
              have q : (b :: l).getLast? = some a := by simpa using this.symm
              exact List.mem_of_getLast? q
            exact gp3.1 this⟩
    · exact ⟨sm.cons (by simp; omega) ⟨v2, fun x hx => by
        rcases List.mem_cons.mp hx with rfl | hx
        · decide
        · exact v3 x (List.mem_of_mem_drop hx)⟩ ⟨v4, fun x hx => by
        rcases List.mem_cons.mp hx with rfl | hx
        · decide
        · exact v5 x (List.mem_of_mem_drop hx)⟩, goodC_cons g gp1 (fun x hx => by
        rcases List.mem_cons.mp hx with rfl | hx
        · decide
        · exact gp2 x (List.mem_of_mem_drop hx)) (by
          rw [List.nodup_cons]
          exact ⟨fun hx => nw.v p (List.mem_cons_self ..) _ (List.mem_of_mem_drop hx) rfl, gp3.sublist (List.drop_sublist _ _)⟩) nm, by
          have : sizesC (oth2 (p :: ps)) = sizesC (p :: ps) := by simp [oth2, sizesC]; omega
          rw [this]; exact z, fun e => by
        have := congrArg (fun l : List Col => l.map (·.2)) e
        simp only [oth2, List.map_cons, List.cons.injEq] at this
        exact nw.v p (List.mem_cons_self ..) [119] (by rw [← this.1]; simp) rfl⟩
end K53
end

section
set_option maxRecDepth 100000
set_option maxHeartbeats 1000000
set_option autoImplicit false
namespace K53
open TL TR
theorem w_exf {c : Ctx} {ρ : Env} {f : Nat} {s : Sto} {Q : PV → Sto → Prop} {X : Xc → Sto → Prop} : Wm (evE c ρ (.exf f)) s Q X = (match c.cur with | some x => (match lookF x.fs f with | some v => Q v s | none => False) | none => False) := by
  simp only [evE]
  cases c.cur with
  | none => rfl
  | some x => dsimp only; cases lookF x.fs f <;> rfl
theorem un9 {f : Nat → List PV → M PV} : underO (prog.ctx f) 9 [9, 2] = some true := rfl
theorem un2 {f : Nat → List PV → M PV} : underO (prog.ctx f) 2 [9, 2] = some true := rfl
theorem st8 (cell : Int) (B : List Ob) (dr cr hr : Nat) (lo : Nat) (lk : List Nat) (hk : ∀ i ∈ lk, i < B.length) (D : List PV) (cols : List Col) (g1 : B[dr]? = some (.list D)) (g2 : B[hr]? = some (.list (cols.map colV))) (sm : Small cols) (d1 : Nat) (e1 : D[1]? = some (.int d1)) (v4 v5 v9 v10 v11 v12 v13 : Option PV) {Q : Flow → Env → Sto → Prop} {X : Xc → Env → Sto → Prop}
    (q1 : ∀ K, goodC cols = true → sized (sizesC cols) = true → isBook (B ++ K) B.length cols → 
      Ws (exSs (prog.ctx (callK prog 9)) (body77.drop 9) [some (.ref 0), some (.int cell), some (.ref dr), some (.ref cr), v4, v5, some (.str []), some (.ref hr), some (.ref B.length), v9, v10, v11, v12, v13] ⟨B ++ K, lo, lk⟩) Q X)
    (q2 : ∀ v9', (goodC cols && sized (sizesC cols)) = false → 
      Ws (exSs (prog.ctx (callK prog 9)) (body77.drop 9) [some (.ref 0), some (.int cell), some (.ref dr), some (.ref cr), v4, v5, some (.str (due cols)), some (.ref hr), some .non, v9', v10, v11, v12, v13] ⟨B, lo, lk⟩) Q X) :
    Ws (exSs (prog.ctx (callK prog 9)) (body77.drop 8) [some (.ref 0), some (.int cell), some (.ref dr), some (.ref cr), v4, v5, some (.str []), some (.ref hr), some .non, v9, v10, v11, v12, v13] ⟨B, lo, lk⟩) Q X := by
  rw [show body77.drop 8 = .tryE [.set (.nm 8) (.new 16 [.ite (.cmp .gt (.idx (.var 2) (.cst (.int 1))) (.cst (.int 0))) (.var 7) (.bi .tuple [.var 7])] [.arg 0])] [.mk [9, 2] (some 9) [.set (.nm 6) (.exf 54)]] :: body77.drop 9 from rfl]
  generalize body77.drop 9 = rest at q1 q2 ⊢
  have g2' : ∀ J, (B ++ J)[hr]? = some (.list (cols.map colV)) := fun J => at_old g2
  have hl : hr < B.length := (List.getElem?_eq_some_iff.mp g2).1
  push_cast [g1, g2, atO1, e1]
  have due1 : goodC cols = false → due cols = [98, 97, 100, 110, 97, 109, 101] := fun e => by rw [due, e]; rfl
  have due2 : goodC cols = true → sized (sizesC cols) = false → due cols = [98, 97, 100, 115, 105, 122, 101, 115] := fun e e' => by rw [due, e, e']; rfl
  refine if_neg' (fun e => ?_) fun e => ?_
  · push_cast [g1, g2]
    refine mk16 5 cols (.ref hr) [hr] B lo lk hk (fun i hi => by rw [List.mem_singleton.mp hi]; exact hl) sm (fun J lo lk Q X => by push_cast [g2']) (fun e1 e2 K hb => ?_) (fun e1 => ?_) fun e1 e2 => ?_
    · push_cast [TR.o_fn]
      exact q1 K e1 e2 hb
    · push_cast [badname, un9, un2, inE, clearE, Nat.blt, Nat.ble, ↓w_exf]
      have := q2 none (by rw [e1]; rfl)
      rw [due1 e1] at this
      exact this
    · push_cast [badsizes, un9, un2, inE, clearE, Nat.blt, Nat.ble, ↓w_exf]
      have := q2 none (by rw [e1, e2]; rfl)
      rw [due2 e1 e2] at this
      exact this
  · push_cast [g1, g2, belows_cols]
    refine mk16 5 cols (.tup (cols.map colV)) [] B lo lk hk (fun i hi => by cases hi) sm (fun J lo lk Q X => by push_cast [TR.o_fn]) (fun e1 e2 K hb => ?_) (fun e1 => ?_) fun e1 e2 => ?_
    · push_cast [TR.o_fn]
      exact q1 K e1 e2 hb
    · push_cast [badname, un9, un2, inE, clearE, Nat.blt, Nat.ble, ↓w_exf]
      have := q2 none (by rw [e1]; rfl)
      rw [due1 e1] at this
      exact this
    · push_cast [badsizes, un9, un2, inE, clearE, Nat.blt, Nat.ble, ↓w_exf]
      have := q2 none (by rw [e1, e2]; rfl)
      rw [due2 e1 e2] at this
      exact this
end K53
end

section
set_option maxRecDepth 100000
set_option maxHeartbeats 1000000
set_option autoImplicit false
namespace K53
open TL TR
theorem st9 (cell : Int) (B : List Ob) (dr cr hr : Nat) (lo : Nat) (lk : List Nat) (cols : List Col) (g : B[cr]? = some (.list (cols.map colV))) (sm : Small cols) (v4 v5 v7 v8 v9 v10 v11 v12 v13 : Option PV) {Q : Flow → Env → Sto → Prop} {X : Xc → Env → Sto → Prop}
    (q : Ws (exSs (prog.ctx (callK prog 9)) (body77.drop 10) [some (.ref 0), some (.int cell), some (.ref dr), some (.ref cr), v4, v5, some (.str (due cols)), v7, v8, v9, v10, v11, v12, v13] ⟨B, lo, lk⟩) Q X) :
    Ws (exSs (prog.ctx (callK prog 9)) (body77.drop 9) [some (.ref 0), some (.int cell), some (.ref dr), some (.ref cr), v4, v5, some (.str (due cols)), v7, v8, v9, v10, v11, v12, v13] ⟨B, lo, lk⟩) Q X := by
  rw [show body77.drop 9 = .ifs (.cmp .ne (.var 6) (.call 76 [.var 3] [.arg 0])) [.ret (.cst (.bl false))] [] :: body77.drop 10 from rfl]
  generalize body77.drop 10 = rest at q ⊢
  push_cast [TR.o_fn]
  rw [Wm_ok (c76 7 cols cr _ g sm)]
  push_cast [TR.o_fn]
  exact q
/-- the statements where the book is made -/
def goodB : List TL.St := match stm 10 with
  | .ifs _ b _ => b
  | _ => []
theorem st10 (cell : Int) (B : List Ob) (dr cr hr : Nat) (lo : Nat) (lk : List Nat) (w : List Nat) (v4 v5 v7 v8 v9 v10 v11 v12 v13 : Option PV) {Q : Flow → Env → Sto → Prop} {X : Xc → Env → Sto → Prop}
    (q1 : w = [] → Ws (exSs (prog.ctx (callK prog 9)) goodB [some (.ref 0), some (.int cell), some (.ref dr), some (.ref cr), v4, v5, some (.str w), v7, v8, v9, v10, v11, v12, v13] ⟨B, lo, lk⟩) Q X) 
    (q2 : w ≠ [] → Q .nx [some (.ref 0), some (.int cell), some (.ref dr), some (.ref cr), v4, v5, some (.str w), v7, v8, v9, v10, v11, v12, v13] ⟨B, lo, lk⟩) :
    Ws (exSs (prog.ctx (callK prog 9)) (body77.drop 10) [some (.ref 0), some (.int cell), some (.ref dr), some (.ref cr), v4, v5, some (.str w), v7, v8, v9, v10, v11, v12, v13] ⟨B, lo, lk⟩) Q X := by
  rw [show body77.drop 10 = [.ifs (.cmp .eq (.var 6) (.cst (.str []))) goodB []] from rfl]
  generalize goodB = rest at q1 ⊢
  push_cast [TR.o_fn]
  refine if_neg' (fun e => ?_) fun e => ?_
  · have e' : w = [] := by simpa using e
    refine (q1 e').mono (fun f ρ t h => ?_) fun _ _ _ h => h
    cases f <;> exact h
  · push_cast [TR.o_fn]
    exact q2 fun e' => e (by rw [e']; rfl)
theorem isBook.set {O : List Ob} {b r : Nat} {cols : List Col} {xs : List PV} (h : isBook O b cols) (hr : O[r]? = some (.list xs)) (o : Ob) : isBook (O.set r o) b cols := by
  obtain ⟨rt, kn, dn, pa, go, rc, h1, h2, h3⟩ := h
  refine ⟨rt, kn, dn, pa, go, rc, ?_, ?_, ?_⟩
  · rw [List.getElem?_set_ne]
    · exact h1
    · rintro rfl; rw [hr] at h1; cases h1
  · rw [List.getElem?_set_ne]
    · exact h2
    · rintro rfl; rw [hr] at h2; cases h2
  · rw [List.getElem?_set_ne]
    · exact h3
    · rintro rfl; rw [hr] at h3; cases h3
theorem c37 (k : Nat) (b : Nat) (cols : List Col) (s : Sto) (h : isBook s.objs b cols) : callK prog (k + 2) 37 [.ref b] s = .ok (.int 0) s := by
  obtain ⟨O, lo, lk⟩ := s
  obtain ⟨rt, kn, dn, pa, go, rc, h1, h2, h3⟩ := h
  apply of_Wm
  have h1 : O[b]? = _ := h1
  have h2 : O[rt]? = _ := h2
  have h3 : O[kn]? = _ := h3
  apply call_run' (d := ⟨1, 1, b37⟩) rfl rfl
  show Ws (exSs _ b37 [some (.ref b)] _) _ _
  unfold b37
  push_cast [h1, h2, me14l]
  rw [Wm_ok (c19 k rt kn _ _ h2 h3)]
  push_cast [TR.o_fn]
  decide
/-- the book is looked at; what is left: the other lists of columns -/
theorem ga (cell : Int) (O : List Ob) (L : List Ob) (dr c0 h0 b : Nat) (lo : Nat) (lk : List Nat) (hk : ∀ i ∈ lk, i < O.length) (cols : List Col) (hb : isBook (O ++ L) b cols) (gc : L[c0]? = some (.list (cols.map colV))) (gh : L[h0]? = some (.list (cols.map colV))) (hne : h0 ≠ c0) (sm : Small cols) (hg : goodC cols = true) (hs : sized (sizesC cols) = true) (v4 v5 v9 v10 v11 v12 v13 : Option PV) {Q : Flow → Env → Sto → Prop} {X : Xc → Env → Sto → Prop}
    (q : ∀ L', isBook (O ++ L') b cols → L'[c0]? = some (.list (cols.map colV)) → ∀ lo, Ws (exSs (prog.ctx (callK prog 9)) (goodB.drop 2) [some (.ref 0), some (.int cell), some (.ref dr), some (.ref (O.length + c0)), v4, v5, some (.str []), some (.ref (O.length + h0)), some (.ref b), v9, v10, v11, v12, v13] ⟨O ++ L', lo, lk⟩) Q X) :
    Ws (exSs (prog.ctx (callK prog 9)) goodB [some (.ref 0), some (.int cell), some (.ref dr), some (.ref (O.length + c0)), v4, v5, some (.str []), some (.ref (O.length + h0)), some (.ref b), v9, v10, v11, v12, v13] ⟨O ++ L, lo, lk⟩) Q X := by
  rw [show goodB = .exp (.bm .append (.var 7) [.tup [.cst (.str [108, 97, 116, 101]), .tup [.cst (.str [110, 111]), .cst (.str [121, 101, 115])]]]) :: .ifs (.orE (.notE (.call 74 [.meth 32 (.var 8) [] [], .var 3] [.arg 0, .arg 1])) (.orE (.cmp .ne (.bi .len [.var 8]) (.cst (.int 0))) (.notE (.cmp .eq (.var 8) (.new 16 [.var 3] [.arg 0]))))) [.ret (.cst (.bl false))] [] :: goodB.drop 2 from rfl]
  generalize goodB.drop 2 = rest at q ⊢
  have hh : (O ++ L)[O.length + h0]? = some (.list (cols.map colV)) := by rw [at_add]; exact gh
  have n0 : lk.contains (O.length + h0) = false := nolk hk _ (by omega)
  have hl : cols.length < lineN := by have := sm.n; unfold lineN; omega
  have hb' : isBook (O ++ L.set h0 (.list (cols.map colV ++ [colV (late, [[110, 111], [121, 101, 115]])]))) b cols := by
    have := hb.set hh (.list (cols.map colV ++ [colV (late, [[110, 111], [121, 101, 115]])]))
    rwa [set_add] at this
  have gc' : (L.set h0 (.list (cols.map colV ++ [colV (late, [[110, 111], [121, 101, 115]])])))[c0]? = some (.list (cols.map colV)) := by rw [List.getElem?_set_ne hne]; exact gc
  have q' := q _ hb' gc'
  rw [Ws_cons]
  push_cast [gh, n0, hl]
  generalize hz : L.set h0 (.list (cols.map colV ++ [colV (late, [[110, 111], [121, 101, 115]])])) = L' at hb' gc' q'
  have hz' : L.set h0 (.list (cols.map colV ++ [PV.tup [PV.str [108, 97, 116, 101], PV.tup [PV.str [110, 111], PV.str [121, 101, 115]]]])) = L' := hz
  rw [hz']
  have hbk := hb'
  obtain ⟨rt, kn, dn, pa, go, rc, h1, h2, h3⟩ := hbk
  push_cast [h1, me16c]
  rw [Wm_ok (c63 8 b cols _ hb')]
  push_cast [TR.o_fn]
  have gc2 : (O ++ (L' ++ [Ob.list (cols.map colV)]))[O.length + c0]? = some (.list (cols.map colV)) := by rw [at_add]; exact at_old gc'
  rw [Wm_ok (c74l 5 cols _ _ _ sm (by simp only [← List.append_assoc]; rw [← List.length_append]; exact at_end) gc2)]
  push_cast [TR.o_fn]
  have hb2 : isBook (O ++ (L' ++ [Ob.list (cols.map colV)])) b cols := by rw [← List.append_assoc]; exact hb'.up _
  have hb2k := hb2
  obtain ⟨rt, kn, dn, pa, go, rc, i1, i2, i3⟩ := hb2k
  push_cast [i1, me16l]
  rw [Wm_ok (c37 7 b cols _ hb2)]
  push_cast [TR.o_fn]
  refine ⟨by decide, by decide, ?_⟩
  generalize hz2 : L' ++ [Ob.list (cols.map colV)] = L2 at gc2 hb2 i1 i2 i3 ⊢
  have gc3 : L2[c0]? = some (.list (cols.map colV)) := by rw [← hz2]; exact at_old gc'
  have hk' : ∀ i ∈ lk, i < (O ++ L2).length := fun i hi => by rw [List.length_append]; exact Nat.lt_of_lt_of_le (hk i hi) (Nat.le_add_right _ _)
  refine mk16 5 cols _ [O.length + c0] (O ++ L2) _ lk hk' (fun i hi => by rw [List.mem_singleton.mp hi]; exact (List.getElem?_eq_some_iff.mp gc2).1) sm (fun J lo lk Q X => by push_cast [at_old gc3]) (fun e1 e2 K hb3 => ?_) (fun e1 => ?_) fun e1 e2 => ?_
  · have hb4 : isBook (O ++ L2 ++ K) b cols := hb2.up K
    obtain ⟨rt', kn', dn', pa', go', rc', j1, j2, j3⟩ := hb3
    have hb3 : isBook (O ++ L2 ++ K) (O ++ L2).length cols := ⟨rt', kn', dn', pa', go', rc', j1, j2, j3⟩
    have i1' := at_old (L := K) i1
    simp only [List.append_assoc, List.length_append] at i1' j1
    push_cast [eqI2' i1' j1, me16e]
    have c := c38 6 b (O ++ L2).length cols cols ⟨O ++ L2 ++ K, min lo (O.length + h0), lk⟩ hb4 hb3 sm sm
    simp only [List.append_assoc, List.length_append] at c
    rw [Wm_ok c]
    push_cast [TR.o_fn]
    exact q (L2 ++ K) (by rw [← List.append_assoc]; exact hb4) (at_old gc3) _
  · rw [hg] at e1; cases e1
  · rw [hs] at e2; cases e2
end K53
end

section
set_option maxRecDepth 100000
set_option maxHeartbeats 1000000
set_option autoImplicit false
namespace K53
open TL TR
theorem cut1 {α : Type} {x : α} {l : List α} : cutL (x :: l) (some 1) none = l := by
  unfold cutL clip
  simp
theorem t_rev {xs : List PV} {s : Sto} {Q : PV → Sto → Prop} {X : Xc → Sto → Prop} : Wm (revV (.tup xs)) s Q X = Q (.tup xs.reverse) s := rfl
/-- another list of columns makes another book -/
theorem tf (W : List Ob) (b a lo : Nat) (lk : List Nat) (hk : ∀ i ∈ lk, i < W.length) (cols o : List Col) (sm : Small cols) (hb : isBook W b cols) (ha : W[a]? = some (.list (o.map colV))) (ho : Oth cols o) (e0 e1 e2 e3 e4 e5 e6 e7 e9 e10 e11 e12 e13 : Option PV) :
    Wm (turnF (prog.ctx (callK prog 9)) [e0, e1, e2, e3, e4, e5, e6, e7, some (.ref b), e9, e10, e11, e12, e13] [13] (.nm 13) [] (.orE (.cmp .eq (.var 8) (.new 16 [.var 13] [.arg 0])) (.cmp .eq (.new 16 [.var 13] [.arg 0]) (.var 8))) (.ref a)) ⟨W, lo, lk⟩ (fun y t => y = some (.bl false) ∧ ∃ J', t = ⟨W ++ J', lo, lk⟩) (fun _ _ => False) := by
  have hal := (List.getElem?_eq_some_iff.mp ha).1
  have ha' : ∀ J, (W ++ J)[a]? = some (.list (o.map colV)) := fun J => at_old ha
  push_cast [TR.o_fn]
  refine mk16 5 o _ [a] W _ lk hk (fun i hi => by rw [List.mem_singleton.mp hi]; exact hal) ho.sm (fun J lo lk Q X => by push_cast [ha']) (fun e1 e2 K hb3 => ?_) (fun e1 => ?_) fun e1 e2 => ?_
  · have hb4 := hb.up K
    obtain ⟨x1, x2, x3, x4, x5, x6, i1, i2, i3⟩ := id hb4
    obtain ⟨y1, y2, y3, y4, y5, y6, j1, j2, j3⟩ := id hb3
    push_cast [eqI2' i1 j1, me16e]
    rw [Wm_ok (c38 6 b _ cols o ⟨W ++ K, _, _⟩ hb4 hb3 sm ho.sm)]
    rw [decide_eq_false (fun e => ho.ne e.symm)]
    push_cast [TR.o_fn]
    have hk' : ∀ i ∈ lk, i < (W ++ K).length := fun i hi => by rw [List.length_append]; exact Nat.lt_of_lt_of_le (hk i hi) (Nat.le_add_right _ _)
    refine mk16 5 o _ [a] (W ++ K) _ lk hk' (fun i hi => by rw [List.mem_singleton.mp hi, List.length_append]; omega) ho.sm (fun J lo lk Q X => by push_cast [ha']) (fun e1 e2 K2 hb5 => ?_) (fun e1 => ?_) fun e1 e2 => ?_
    · have hb6 := hb4.up K2
      obtain ⟨x1, x2, x3, x4, x5, x6, i1, i2, i3⟩ := id hb6
      obtain ⟨y1, y2, y3, y4, y5, y6, j1, j2, j3⟩ := id hb5
      simp only [List.append_assoc, List.length_append] at i1 j1
      push_cast [eqI2' j1 i1, me16e]
      have c := c38 6 (W ++ K).length b o cols ⟨W ++ K ++ K2, lo, lk⟩ hb5 hb6 ho.sm sm
      simp only [List.append_assoc, List.length_append] at c
      rw [Wm_ok c]
      rw [decide_eq_false ho.ne]
      push_cast [TR.o_fn]
      exact ⟨_, rfl⟩
    · rw [ho.g] at e1; cases e1
    · rw [ho.s] at e2; cases e2
  · rw [ho.g] at e1; cases e1
  · rw [ho.s] at e2; cases e2
theorem gb (cell : Int) (O : List Ob) (L : List Ob) (dr c0 h0 b : Nat) (lo : Nat) (lk : List Nat) (hk : ∀ i ∈ lk, i < O.length) (cols : List Col) (hb : isBook (O ++ L) b cols) (gc : L[c0]? = some (.list (cols.map colV))) (sm : Small cols) (hg : goodC cols = true) (hs : sized (sizesC cols) = true) (nw : Nw cols) (v4 v5 v9 v10 v11 v12 v13 : Option PV) {Q : Flow → Env → Sto → Prop} {X : Xc → Env → Sto → Prop}
    (q : ∀ K lo' w12 w13, Q .nx [some (.ref 0), some (.int cell), some (.ref dr), some (.ref (O.length + c0)), v4, v5, some (.str []), some (.ref (O.length + h0)), some (.ref b), v9, v10, v11, w12, w13] ⟨O ++ K, lo', lk⟩) :
    Ws (exSs (prog.ctx (callK prog 9)) (goodB.drop 2) [some (.ref 0), some (.int cell), some (.ref dr), some (.ref (O.length + c0)), v4, v5, some (.str []), some (.ref (O.length + h0)), some (.ref b), v9, v10, v11, v12, v13] ⟨O ++ L, lo, lk⟩) Q X := by
  obtain ⟨p, ps, rfl, o0, o1, o2⟩ := oth_ok sm hg hs nw
  have gc' : ∀ J, (L ++ J)[c0]? = some (.list (List.map colV (p :: ps))) := fun J => at_old gc
  have ih : (List.map colV (p :: ps))[0]? = some (colV p) := rfl
  have hl : ps.length + 1 ≤ lineN := lin (by have := sm.n; simp at this; omega)
  have hl2 : 1 + ps.length ≤ lineN := by omega
  have hl3 : p.2.length + 1 ≤ lineN := lin (by have := sm.v p (List.mem_cons_self ..); omega)
  have hl4 : ∀ xs : List PV, 1 + (cutL (p.2.map PV.str) (some 1) none).length ≤ lineN := fun _ => lin (by have := cutL_le (l := p.2.map PV.str) (lo := some 1) (hi := none); have := sm.v p (List.mem_cons_self ..); rw [List.length_map] at *; omega)
  unfold goodB stm body77 b77
  dsimp only
  simp only [List.getD_cons_succ, List.getD_cons_zero, List.drop_succ_cons, List.drop_zero]
  push_cast [↓t_rev, List.reverse_nil, gc, gc', atO0, atO1, colV, cut1, hl, hl2]
  refine ⟨hl4 [], by unfold lineN; omega, nolk hk _ (by omega), ?_⟩
  refine w_mapX0 (g := fun _ => PV.bl false) (h := fun r : Nat => PV.ref r) (l := [O.length + (L.length + 2), O.length + (L.length + 5), O.length + (L.length + 9)]) (fun a ha J => ?_) (fun J => ?_)
  · have hb' : ∀ M, isBook (O ++ (L ++ M) ++ J) b (p :: ps) := fun M => by rw [← List.append_assoc]; exact (hb.up M).up J
    have f : ∀ (M : List Ob) (i : Nat) (xs : List PV), M[i]? = some (.list xs) → (O ++ (L ++ M) ++ J)[O.length + (L.length + i)]? = some (.list xs) := fun M i xs h => at_old (by rw [at_add, at_add]; exact h)
    have hkk : ∀ (x : Ob) (M : List Ob), 6 < (x :: M).length → ∀ i ∈ (O.length + (L.length + 6)) :: lk, i < (O ++ (L ++ (x :: M)) ++ J).length := fun x M hM i hi => by
      simp only [List.length_append]
      rcases List.mem_cons.mp hi with rfl | hi
      · omega
      · have := hk i hi; omega
    have e2 : cutL (p.2.map PV.str) (some 1) none = (p.2.drop 1).map PV.str := by
      rw [cutL_map]
      unfold cutL clip
      cases p.2 <;> simp
    simp only [List.mem_cons, List.not_mem_nil, or_false] at ha
    rcases ha with rfl | rfl | rfl
    · refine Wm.mono (tf _ b _ _ _ ?_ _ (oth0 (p :: ps)) sm ?_ ?_ o0 _ _ _ _ _ _ _ _ _ _ _ _ _) (fun y t ⟨h1, J', h2⟩ => ⟨h1, J ++ J', by rw [h2, List.append_assoc]⟩) fun _ _ h => h
      · exact hkk _ _ (by simp)
      · exact hb' _
      · exact f _ 2 _ rfl
    · refine Wm.mono (tf _ b _ _ _ ?_ _ (oth1 (p :: ps)) sm ?_ ?_ o1 _ _ _ _ _ _ _ _ _ _ _ _ _) (fun y t ⟨h1, J', h2⟩ => ⟨h1, J ++ J', by rw [h2, List.append_assoc]⟩) fun _ _ h => h
      · exact hkk _ _ (by simp)
      · exact hb' _
      · exact f _ 5 _ (by simp [oth1, colV])
    · refine Wm.mono (tf _ b _ _ _ ?_ _ (oth2 (p :: ps)) sm ?_ ?_ o2 _ _ _ _ _ _ _ _ _ _ _ _ _) (fun y t ⟨h1, J', h2⟩ => ⟨h1, J ++ J', by rw [h2, List.append_assoc]⟩) fun _ _ h => h
      · exact hkk _ _ (by simp)
      · exact hb' _
      · exact f _ 9 _ (by simp [oth2, colV, e2])
  · push_cast [show 3 ≤ lineN by unfold lineN; omega, List.any_cons, List.any_nil, List.length_set]
    rw [itT_neg (by omega)]
    push_cast [List.length_set, show boolsB false [PV.bl false, PV.bl false, PV.bl false] = some false from rfl]
    exact q _ _ _ _
end K53
end

section
set_option maxRecDepth 100000
set_option maxHeartbeats 1000000
set_option autoImplicit false
namespace K53
open TL TR
theorem turn3 (cell : Int) (O junk : List Ob) (lo : Nat) (lk : List Nat) (hk : ∀ i ∈ lk, i < O.length) (D : List PV) (cols : List Col) (sm : Small cols) (nw : Nw cols) (d1 : Nat) (e1 : D[1]? = some (.int d1)) (v4 v5 v6 v7 v8 v9 v10 v11 v12 v13 : Option PV) {Q : Flow → Env → Sto → Prop}
    (q : ∀ K lo' w2 w3 w4 w5 w6 w7 w8 w9 w10 w11 w12 w13, Q .nx [some (.ref 0), some (.int cell), w2, w3, w4, w5, w6, w7, w8, w9, w10, w11, w12, w13] ⟨O ++ K, lo', lk⟩) :
    Ws (exSs (prog.ctx (callK prog 9)) (body77.drop 5) [some (.ref 0), some (.int cell), some (.ref (O.length + 1)), some (.ref (O.length + 2)), v4, v5, v6, v7, v8, v9, v10, v11, v12, v13] ⟨O ++ (.list consts :: .list D :: .list (cols.map colV) :: junk), lo, lk⟩) Q (fun _ _ _ => False) := by
  refine st5 cell O junk lo lk D cols d1 e1 v4 v5 v6 v7 v8 v9 v10 v11 v12 v13 (fun junk => ?_)
  have g2 : (O ++ (Ob.list consts :: Ob.list D :: Ob.list (cols.map colV) :: (junk ++ [Ob.list (cols.map colV)])))[O.length + (junk.length + 1 + 1 + 1)]? = some (.list (cols.map colV)) := by simp only [at_add, List.getElem?_cons_succ, at_end]
  have hB : ∀ i ∈ lk, i < (O ++ (Ob.list consts :: Ob.list D :: Ob.list (cols.map colV) :: (junk ++ [Ob.list (cols.map colV)]))).length := fun i hi => by rw [List.length_append]; exact Nat.lt_of_lt_of_le (hk i hi) (Nat.le_add_right _ _)
  refine st8 cell _ _ _ _ lo lk hB D cols (by simp only [at_add, List.getElem?_cons_succ, List.getElem?_cons_zero]) g2 sm d1 e1 v4 v5 v9 v10 v11 v12 v13 (fun K hg hs hb => ?_) (fun v9' hn => ?_)
  · have hd : due cols = [] := by rw [due, hg, hs]; rfl
    rw [← hd]
    refine st9 cell _ _ _ (O.length + (junk.length + 1 + 1 + 1)) lo lk cols (by simp only [List.append_assoc, at_add, List.cons_append, List.getElem?_cons_succ, List.getElem?_cons_zero]) sm v4 v5 _ _ v9 v10 v11 v12 v13 ?_
    refine st10 cell _ _ _ (O.length + (junk.length + 1 + 1 + 1)) lo lk (due cols) v4 v5 _ _ v9 v10 v11 v12 v13 (fun _ => ?_) fun hne => absurd hd hne
    rw [hd]
    rw [List.append_assoc] at hb ⊢
    refine ga cell O _ _ 2 (junk.length + 1 + 1 + 1) _ lo lk hk cols hb rfl (by simp only [List.cons_append, List.getElem?_cons_succ, List.append_assoc]; exact at_zero.trans rfl) (by omega) sm hg hs v4 v5 v9 v10 v11 v12 v13 (fun L' hb' gc' lo' => ?_)
    exact gb cell O L' _ 2 _ _ lo' lk hk cols hb' gc' sm hg hs nw v4 v5 v9 v10 v11 v12 v13 fun K lo' w12 w13 => q _ _ _ _ _ _ _ _ _ _ _ _ _ _
  · refine st9 cell _ _ _ (O.length + (junk.length + 1 + 1 + 1)) lo lk cols (by simp only [List.append_assoc, at_add, List.cons_append, List.getElem?_cons_succ, List.getElem?_cons_zero]) sm v4 v5 _ _ v9' v10 v11 v12 v13 ?_
    refine st10 cell _ _ _ (O.length + (junk.length + 1 + 1 + 1)) lo lk (due cols) v4 v5 _ _ v9' v10 v11 v12 v13 (fun hd => ?_) fun _ => q _ _ _ _ _ _ _ _ _ _ _ _ _ _
    exfalso
    unfold due at hd
    split at hd
    · rename_i h1
      split at hd
      · rename_i h2; rw [h1, h2] at hn; cases hn
      · cases hd
    · cases hd
/-! ### what the drawn columns are -/
def NmP (z : List Nat) : Prop := z.length ≤ 100 ∧ z.all (· < 1114112) = true ∧ z ≠ late ∧ z ≠ [119]
structure ColP (n : Nat) (p : Col) : Prop where
  l : p.2.length ≤ n
  n : NmP p.1
  v : ∀ x ∈ p.2, NmP x
theorem ColP.mono {n m : Nat} {p : Col} (h : ColP n p) (hm : n ≤ m) : ColP m p := ⟨Nat.le_trans h.l hm, h.n, h.v⟩
theorem chg1_P {n m : Nat} {cols : List Col} {i : Nat} {f : Col → Col} (hm : n ≤ m) (h : ∀ p ∈ cols, ColP n p) (hf : ∀ p, ColP n p → ColP m (f p)) : ∀ p ∈ chg1 cols i f, ColP m p := by
  unfold chg1
  split
  · rename_i p0 e
    intro p hp
    rcases List.mem_or_eq_of_mem_set hp with z | z
    · exact (h p z).mono hm
    · rw [z]; exact hf p0 (h p0 (List.mem_of_getElem? e))
  · exact fun p hp => (h p hp).mono hm
theorem chg_len {cols : List Col} {odd : List Nat} {d9 d10 : Nat} : (chg cols odd d9 d10).length = cols.length := by
  unfold chg
  dsimp only
  repeat' split
  all_goals simp only [chg1_len]
theorem chg_P {cols : List Col} {odd : List Nat} {d9 d10 : Nat} (h : ∀ p ∈ cols, ColP 90 p) (ho : NmP odd) : ∀ p ∈ chg cols odd d9 d10, ColP 100 p := by
  have c1 : ∀ p ∈ (if d10 = 0 then chg1 cols (d9 % cols.length) (fun p => (odd, p.2)) else cols), ColP 90 p := by
    split
    · exact chg1_P (Nat.le_refl _) h fun p hp => ⟨hp.l, ho, hp.v⟩
    · exact h
  have c2 : ∀ p ∈ (if d9 = 7 then chg1 (if d10 = 0 then chg1 cols (d9 % cols.length) (fun p => (odd, p.2)) else cols) (d9 % cols.length) (fun p => (p.1, cutL p.2 none (some 1))) else (if d10 = 0 then chg1 cols (d9 % cols.length) (fun p => (odd, p.2)) else cols)), ColP 90 p := by
    split
    · exact chg1_P (Nat.le_refl _) c1 fun p hp => ⟨Nat.le_trans cutL_le hp.l, hp.n, fun x hx => hp.v x (List.mem_of_mem_drop (List.mem_of_mem_take hx))⟩
    · exact c1
  unfold chg
  dsimp only
  split
  · refine chg1_P (by decide) c2 fun p hp => ⟨by have := hp.l; simp [more3]; omega, hp.n, fun x hx => ?_⟩
    rcases List.mem_append.mp hx with hx | hx
    · exact hp.v x hx
    · simp only [more3, List.mem_cons, List.not_mem_nil, or_false] at hx
      rcases hx with rfl | rfl | rfl
      · exact ho
      · unfold NmP; decide
      · unfold NmP; decide
  · exact fun p hp => (c2 p hp).mono (by decide)
theorem small_P {cols : List Col} (hn : cols.length ≤ 10) (h : ∀ p ∈ cols, ColP 100 p) : Small cols ∧ Nw cols :=
  ⟨⟨hn, fun p hp => (h p hp).l, fun p hp => ⟨(h p hp).n.1, fun x hx => ((h p hp).v x hx).1⟩, fun p hp => ⟨(h p hp).n.2.1, fun x hx => ((h p hp).v x hx).2.1⟩⟩,
    ⟨fun p hp => (h p hp).n.2.2.1, fun p hp x hx => ((h p hp).v x hx).2.2.2⟩⟩
theorem nameP {k : Nat} (h : k < 7) : NmP (nameK k) := by
  unfold NmP
  match k, h with
  | 0, _ => decide
  | 1, _ => decide
  | 2, _ => decide
  | 3, _ => decide
  | 4, _ => decide
  | 5, _ => decide
  | 6, _ => decide
  | k + 7, h => omega
theorem valsP {d : Nat} (h : d < 5) : (valsK (sizeK d)).length ≤ 90 ∧ ∀ x ∈ valsK (sizeK d), NmP x := by
  unfold NmP
  match d, h with
  | 0, _ => decide
  | 1, _ => decide
  | 2, _ => decide
  | 3, _ => decide
  | 4, _ => decide
  | d + 5, h => omega
theorem drawn_P {n : Nat} {ss : Nat → Nat} (h : n ≤ 7) (hs : ∀ k, k < 7 → ss k < 5) : ∀ p ∈ (List.range n).map (colK ss), ColP 90 p := fun p hp => by
  obtain ⟨k, hk, rfl⟩ := List.mem_map.mp hp
  have hk' := Nat.lt_of_lt_of_le (List.mem_range.mp hk) h
  exact ⟨(valsP (hs k hk')).1, nameP hk', (valsP (hs k hk')).2⟩
theorem oddP {cols : List Col} {d : Nat} (h : d < 8) (hc : ∀ p ∈ cols, ColP 90 p) : NmP (oddN cols d) := by
  match d, h with
  | 0, _ => show NmP [97, 98, 99, 100, 101, 102, 103, 104, 105]; unfold NmP; decide
  | 1, _ => show NmP []; unfold NmP; decide
  | 2, _ => show NmP [65, 98]; unfold NmP; decide
  | 3, _ => show NmP [97, 49]; unfold NmP; decide
  | 4, _ => show NmP [97, 98, 99, 100, 101, 102, 103, 104]; unfold NmP; decide
  | 5, _ => show NmP [110, 111]; unfold NmP; decide
  | 6, _ => show NmP [97, 32, 98]; unfold NmP; decide
  | 7, _ =>
    show NmP (firstN cols)
    cases cols with
    | nil => show NmP [120]; unfold NmP; decide
    | cons p ps => exact (hc p (List.mem_cons_self ..)).n
  | d + 8, h => omega
end K53
end

section
set_option maxRecDepth 100000
set_option maxHeartbeats 1000000
set_option autoImplicit false
namespace K53
open TL TR
/-- behind the drawing of the columns -/
def tail77 : List TL.St := body77.drop 3
theorem turn2 (cell : Int) (O junk : List Ob) (lo : Nat) (lk : List Nat) (hk : ∀ i ∈ lk, i < O.length) (D : List PV) (cols : List Col) (d1 d8 d9 d10 : Nat) (e1 : D[1]? = some (.int d1)) (e8 : D[8]? = some (.int d8)) (e9 : D[9]? = some (.int d9)) (e10 : D[10]? = some (.int d10)) (h8 : d8 < 8) (h9 : d9 < 9) (sm : Small cols) (cp : ∀ p ∈ cols, ColP 90 p) (v4 v5 v6 v7 v8 v9 v10 v11 v12 v13 : Option PV) {Q : Flow → Env → Sto → Prop}
    (q : ∀ K lo' w2 w3 w4 w5 w6 w7 w8 w9 w10 w11 w12 w13, Q .nx [some (.ref 0), some (.int cell), w2, w3, w4, w5, w6, w7, w8, w9, w10, w11, w12, w13] ⟨O ++ K, lo', lk⟩) :
    Ws (exSs (prog.ctx (callK prog 9)) tail77 [some (.ref 0), some (.int cell), some (.ref (O.length + 1)), some (.ref (O.length + 2)), v4, v5, v6, v7, v8, v9, v10, v11, v12, v13] ⟨O ++ (.list consts :: .list D :: .list (cols.map colV) :: junk), lo, lk⟩) Q (fun _ _ _ => False) := by
  rw [show tail77 = stm 3 :: stm 4 :: body77.drop 5 from rfl, Ws_cons]
  refine (st3 cell O junk lo lk D cols d8 e8 h8 sm v4 v5 v6 v7 v8 v9 v10 v11 v12 v13).mono (fun f ρ t ⟨f1, f2, junk', f3⟩ => ?_) fun _ _ _ z => z
  subst f1 f2 f3
  dsimp only
  rw [Ws_cons]
  refine (st4 cell O junk' lo lk hk D cols (oddN cols d8) d9 d10 e9 e10 sm v4 v6 v7 v8 v9 v10 v11 v12 v13).mono (fun f ρ t ⟨f1, w11, junk2, lo2, f2, f3⟩ => ?_) fun _ _ _ z => z
  subst f1 f2 f3
  dsimp only
  have sn := small_P (by rw [chg_len]; exact sm.n) (chg_P (d9 := d9) (d10 := d10) cp (oddP h8 cp))
  exact turn3 cell O junk2 lo2 lk hk D (chg cols (oddN cols d8) d9 d10) sn.1 sn.2 d1 e1 v4 _ v6 v7 v8 v9 v10 w11 v12 v13 q
theorem name_ok {k : Nat} (h : k < 7) : (nameK k).length ≤ 100 ∧ (nameK k).all (· < 1114112) = true := by
  match k, h with
  | 0, _ => decide
  | 1, _ => decide
  | 2, _ => decide
  | 3, _ => decide
  | 4, _ => decide
  | 5, _ => decide
  | 6, _ => decide
  | k + 7, h => omega
theorem vals_ok {d : Nat} (h : d < 5) : (valsK (sizeK d)).length ≤ 100 ∧ (∀ x ∈ valsK (sizeK d), x.length ≤ 100) ∧ ∀ x ∈ valsK (sizeK d), x.all (· < 1114112) = true := by
  match d, h with
  | 0, _ => decide
  | 1, _ => decide
  | 2, _ => decide
  | 3, _ => decide
  | 4, _ => decide
  | d + 5, h => omega
theorem small_drawn {n : Nat} {ss : Nat → Nat} (h : n ≤ 7) (hs : ∀ k, k < 7 → ss k < 5) : Small ((List.range n).map (colK ss)) where
  n := by rw [List.length_map, List.length_range]; omega
  v := fun p hp => by
    obtain ⟨k, hk, rfl⟩ := List.mem_map.mp hp
    exact (vals_ok (hs k (Nat.lt_of_lt_of_le (List.mem_range.mp hk) h))).1
  z := fun p hp => by
    obtain ⟨k, hk, rfl⟩ := List.mem_map.mp hp
    have := Nat.lt_of_lt_of_le (List.mem_range.mp hk) h
    exact ⟨(name_ok this).1, (vals_ok (hs k this)).2.1⟩
  c := fun p hp => by
    obtain ⟨k, hk, rfl⟩ := List.mem_map.mp hp
    have := Nat.lt_of_lt_of_le (List.mem_range.mp hk) h
    exact ⟨(name_ok this).2, (vals_ok (hs k this)).2.2⟩
theorem turn (cell : Int) (O : List Ob) (lo : Nat) (lk : List Nat) (hk : ∀ i ∈ lk, i < O.length) (v2 v3 v4 v5 v6 v7 v8 v9 v10 v11 v12 v13 : Option PV) {Q : Flow → Env → Sto → Prop}
    (q : ∀ K lo' w2 w3 w4 w5 w6 w7 w8 w9 w10 w11 w12 w13, Q .nx [some (.ref 0), some (.int cell), w2, w3, w4, w5, w6, w7, w8, w9, w10, w11, w12, w13] ⟨O ++ K, lo', lk⟩) :
    Ws (exSs (prog.ctx (callK prog 9)) body77 [some (.ref 0), some (.int cell), v2, v3, v4, v5, v6, v7, v8, v9, v10, v11, v12, v13] ⟨O, lo, lk⟩) Q (fun _ _ _ => False) := by
  have hk' : ∀ (L : List Ob), ∀ i ∈ lk, i < (O ++ L).length := fun L i hi => by rw [List.length_append]; exact Nat.lt_of_lt_of_le (hk i hi) (Nat.le_add_right _ _)
  unfold body77 b77
  dsimp only
  push_cast [TR.o_fn]
  have hz : ([PV.int 8, PV.int 5, PV.int 5, PV.int 5, PV.int 5, PV.int 5, PV.int 5, PV.int 5, PV.int 8, PV.int 9, PV.int 3] : List PV) = nats [8, 5, 5, 5, 5, 5, 5, 5, 8, 9, 3] := rfl
  refine c73 8 cell [8, 5, 5, 5, 5, 5, 5, 5, 8, 9, 3] _ _ _ _ (by rw [hz]; exact at_end) (by decide) (by decide) (hk' _) (fun ds hd => ?_)
  obtain ⟨d0, ss, d8, d9, d10, e0, eS, e8, e9, e10, h0, h8, h9, h10⟩ := dr11 hd
  generalize ds.map PV.int = D at e0 eS e8 e9 e10 ⊢
  push_cast [atO0, e0, rangeW_eq (show d0 ≤ 16000000 by omega)]
  refine w_for (JC cell O lk D ss d0 v5 v6 v7 v8 v9 v11 v12 v13) (fun x r ρ t ⟨j, junk, lo', v4', v10', f1, f2, f3, f4⟩ => ?_) (fun ρ t ⟨j, junk, lo', v4', v10', f1, f2, f3, f4⟩ => ?_) ⟨0, [], _, v4, v10, rfl, Nat.zero_le _, rfl, rfl⟩
  · subst f3 f4
    have hj : j < d0 := by
      rcases Nat.lt_or_ge j d0 with z | z
      · exact z
      · rw [List.drop_eq_nil_of_le (by rw [List.length_range]; exact z)] at f1; cases f1
    rw [List.drop_eq_getElem_cons (by rw [List.length_range]; exact hj), List.getElem_range] at f1
    cases f1
    obtain ⟨s1, s2⟩ := eS x (by omega)
    have g1 := size_at s2
    have g2 := letter_at (show x < 7 by omega)
    have g3 : cutL [PV.str [110, 111], PV.str [121, 101, 115], PV.str [109, 97, 121, 98, 101], PV.str [110, 101, 118, 101, 114]] none (some ((sizeK (ss x) : Nat) : Int)) = (valsK (sizeK (ss x))).map PV.str := cutL_map (l := [[110, 111], [121, 101, 115], [109, 97, 121, 98, 101], [110, 101, 118, 101, 114]])
    have g4 : (cutL [99, 111, 108, 117, 109, 110] none (some (1 + (x : Int).fmod 6))).length + 1 ≤ lineN := lin (by have := cutL_le (l := [99, 111, 108, 117, 109, 110]) (lo := none) (hi := some (1 + (x : Int).fmod 6)); simp only [List.length_cons, List.length_nil] at this; omega)
    have n0 : lk.contains (O.length + 2) = false := nolk hk _ (by omega)
    have g5 : x < lineN := by unfold lineN; omega
    push_cast [atO_1, s1, atO_nat, g1, g2, g3, g4, n0, List.length_range, g5]
    exact ⟨by decide, x + 1, _, _, some (.int x), some (.int (sizeK (ss x))), rfl, hj, rfl, by rw [List.range_succ, List.map_append, List.map_append]; rfl⟩
  · subst f3 f4
    have hj : j = d0 := by
      have := congrArg List.length f1
      rw [List.length_drop, List.length_range, List.length_nil] at this
      omega
    subst hj
    simp only [stp_mk]
    exact turn2 cell O junk lo' lk hk D ((List.range j).map (colK ss)) (ss 0) d8 d9 d10 (eS 0 (by omega)).1 e8 e9 e10 h8 h9 (small_drawn (by omega) fun k hk => (eS k hk).2) (drawn_P (by omega) fun k hk => (eS k hk).2) v4' v5 v6 v7 v8 v9 v10' v11 v12 v13 q
theorem runs (ns : List Int) (hn : ns.length ≤ 63) : ∃ ρ t, exSs (prog.ctx (callK prog 9)) restB (lawE 14) (lawS 63 ns) = .fin (.rt (.bl true)) ρ t := by
  apply of_Ws
  have hl := cutL_len (l := ns) (m := 63) (by decide)
  unfold lawS
  rw [cutL_map]
  generalize cutL ns none (some 63) = cells at hl ⊢
  have hl2 : cells.length + 3 ≤ lineN := by unfold lineN; have : (63 : Int).toNat = 63 := rfl; omega
  show Ws (exSs _ [.fors (.nm 1) (.any (.bin .add (.var 0) (.lst [.cst (.int 0), .cst (.int 1), .cst (.int 2)]))) body77, .ret (.cst (.bl true))] [some (.ref 0), none, none, none, none, none, none, none, none, none, none, none, none, none] ⟨[.list (cells.map PV.int)], 0, []⟩) _ _
  push_cast [hl2]
  rw [show cells.map PV.int ++ [PV.int 0, PV.int 1, PV.int 2] = (cells ++ [0, 1, 2]).map PV.int by simp]
  refine w_for J77 (fun x q ρ t ⟨O, lo, v1, v2, v3, v4, v5, v6, v7, v8, v9, v10, v11, v12, v13, e1, e2, e3⟩ => ?_) (fun ρ t ⟨O, lo, v1, v2, v3, v4, v5, v6, v7, v8, v9, v10, v11, v12, v13, e1, e2, e3⟩ => ?_) ⟨_, _, none, none, none, none, none, none, none, none, none, none, none, none, none, rfl, rfl, by simp⟩
  · subst e1 e2
    push_cast [TR.o_fn]
    refine turn x O lo [2] (fun i hi => by simp at hi; omega) _ _ _ _ _ _ _ _ _ _ _ _ (fun K lo' w2 w3 w4 w5 w6 w7 w8 w9 w10 w11 w12 w13 => ?_)
    exact ⟨O ++ K, lo', some (.int x), w2, w3, w4, w5, w6, w7, w8, w9, w10, w11, w12, w13, rfl, rfl, by rw [List.length_append]; omega⟩
  · subst e1 e2
    push_cast [TR.o_fn]
end K53
end

section
set_option maxRecDepth 100000
set_option maxHeartbeats 0
open PySem PySem.W PySem.Calls PyProof.Rows
theorem PySem.Challenge.cw_tallyloom_k53_books_of_columns_refused_holds : PySem.Challenge.rw_tallyloom_k53_books_of_columns_refused.Holds := by
  w_on; o_law
  refine HandSHeadRun.head_any (r := OpenLaw.row PySem.Challenge.rw_tallyloom_k53_books_of_columns_refused) (q := view K53.R.prog [K53.lawAt]) (H := K53.tx.hook 4) (ob := K53.ob) (M := 20000) (loose := K53.loose) (d := HandSHeadRun.topDef K53.R.prog K53.lawAt) (kwd := []) K53.ob_eq
    (by kernel_rfl) (fun s => by kernel_rfl) K53.run (by kernel_rfl) (by kernel_rfl) (by kernel_rfl) (by rfl) (by first | assumption | decide +kernel) (by decide +kernel) ⟨rfl, rfl, rfl, rfl, rfl, by decide +kernel⟩ ?hw ?hc
  case hw => w_witness2
  case hc =>
    exact TL.walk_tx (T := K53.tx) K53.nms_ok (l := PySem.Challenge.rw_tallyloom_k53_books_of_columns_refused) (n := 63) (na := 4) (j := 9) (f := K53.lawFn) (m := 63) (df := K53.tx.prog.defs.getD K53.lawFn ⟨0, 0, []⟩) (rest := K53.restB) (x := "_law_script") rfl (by decide) (by kernel_rfl) K53.textB_ok (by decide)
      (fun K w c => ⟨fun p hp => (by cases hp), fun p hp => (by cases hp)⟩) (by kernel_rfl) (by kernel_rfl) (by kernel_rfl) (by kernel_rfl) (by kernel_rfl) (by kernel_rfl) (by kernel_rfl) K53.runs
end

