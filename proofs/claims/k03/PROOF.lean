import PyProof.Rows.All
import HandS.Deep
import HandS.TupLe
import HandS.TupAny
import HandS.TupMul
import HandS.Wide
import HandS.Conv
import HandS.Zip
import HandS.SortOrd
import HandS.IsInst
import HandS.Walk
import PyProof.Rows.InDataRows
import Wide.All
import OpenK.AllK
import Wide.FinOn
import HandS.ForMost
import KE.KDictKeyed
import HandS.HeadHook1
import PySem.Str
import HandS.WordsDict
import HandS.ExcValue
import PyProof.TupleOfSeq
import PyProof.MinMaxWalk
import PyProof.TupleIter
import PyProof.WalksMore
import HandS.Style
import HandS.DictComp
import KE.GoesEnum
import HandS.ExcOwn
import HandS.TryOnly
import HandS.Defaults
import HandS.Head0
import HandS.Head1
import HandS.Head2
import HandS.HeadHook2
import HandS.HeadEnd
import PySem.Challenge.RW_namewriters_k03_whole_maps_judged
set_option Elab.async false
set_option autoImplicit false
/-! NwEv: deep values, a small syntax, and its evaluator (no heap). -/
namespace NW
abbrev Str := PySem.Str

/-- deep values -/
inductive D where
  | non | bl (b : Bool) | int (i : Int) | str (x : Str)
  | tup (xs : List D) | lst (xs : List D)
  | dci (ks : List Int) (vs : List D)
  | dct (ks : List D) (vs : List D)
  | mref (n : Nat)
  | exn (c : Str)
  | scr (xs : List Int)
  deriving Inhabited

/-- what may be changed -/
inductive Cell where
  | lst (xs : List D) | dci (ks : List Int) (vs : List D) | dct (ks vs : List D)
  | ins (c : Str) (fs : List (Str × D))
  deriving Inhabited

inductive Slot where
  | no | val (d : D) | own (c : Cell)
  deriving Inhabited

structure St where
  ρ : List Slot
  F : List Cell
  deriving Inhabited

inductive Res (α : Type) where
  | ok (a : α) | exc (c : Str) (s : St) | err

def Res.bind {α β : Type} (r : Res α) (k : α → Res β) : Res β :=
  match r with
  | .ok a => k a
  | .exc c s => .exc c s
  | .err => .err

@[simp] theorem Res.bind_ok {α β : Type} (a : α) (k : α → Res β) : (Res.ok a).bind k = k a := rfl
@[simp] theorem Res.bind_exc {α β : Type} (c : Str) (s : St) (k : α → Res β) : (Res.exc c s : Res α).bind k = .exc c s := rfl
@[simp] theorem Res.bind_err {α β : Type} (k : α → Res β) : (Res.err : Res α).bind k = .err := rfl

/-- an option as a result -/
def Res.of {α : Type} (o : Option α) : Res α := match o with | some a => .ok a | none => .err
@[simp] theorem Res.of_some {α : Type} (a : α) : Res.of (some a) = .ok a := rfl
@[simp] theorem Res.of_none {α : Type} : (Res.of (none : Option α)) = .err := rfl

/-- what a call hands back: a value (fresh: a new list of the caller's own), or an error by its class -/
inductive CRes where
  | ok (d : D) (fresh : Bool) (F : List Cell) | exc (c : Str) (F : List Cell) | err

inductive BOp where | add | sub | mul | fdiv | mod | pow
inductive COp where | lt | le | gt | ge | eq | ne | inn | nin
inductive Bi where | len | int | sum | max2 | min2 | maxl | minl | all | tuple | list | sorted
inductive Ty where | int | bool | str | tuple | list | exc (c : Str)
/-- a target -/
inductive Tg where
  | v (i : Nat) | t (ts : List Tg)

mutual
inductive E where
  | var (i : Nat)
  | con (d : D)
  | glo (x : Str) (i : Int)
  | tup (es : List E) | lst (es : List E)
  | bin (op : BOp) (a b : E) | neg (a : E)
  | cmp (op : COp) (a b : E) | chn (op op' : COp) (a b c : E)
  | isn (n : Bool) (a : E) | isb (n : Bool) (a b : E)
  | and (a b : E) | or (a b : E) | not (a : E) | ife (c a b : E)
  | call (f : Nat) (es : List E)
  | callo (f : Nat) (es : List E)
  | callk (f : Nat) (pre : List E) (ix : List Nat) (es : List E)
  | bi (b : Bi) (es : List E)
  | isi (a : E) (ts : List Ty)
  | sub (a i : E)
  | slc (a : E) (lo hi : List E)
  | rngT (a : E) | rngL (a : E)
  | lenO (i : Nat) | subO (i : Nat) (e : E) | inO (n : Bool) (e : E) (i : Nat) | eqO (n : Bool) (i : Nat) (e : E) | cpO (b : Bi) (i : Nat)
  | app (i : Nat) (e : E) | ext (i : Nat) (e : E) | pop (i : Nat) | popA (i : Nat) (e : E) | idx (t : Bool) (a e : E)
  | lc (vs : List Nat) (e : E) (tg : Tg) (it : I) (ifs : List E)
  | lc2 (vs : List Nat) (e : E) (tg : Tg) (it : I) (ifs : List E) (vs1 : List Nat) (tg1 : Tg) (it1 : I) (ifs1 : List E)
  | dci (vs : List Nat) (k e : E) (tg : Tg) (it : I) (ifs : List E)
  | dct (vs : List Nat) (k e : E) (tg : Tg) (it : I) (ifs : List E)
  | emp (t : Bool)
  | cell (e : E)
  | attr (e : E) (c f : Str)
  | meth (e : E) (c m : Str) (f : Nat) (es : List E)
  | new (c : Str) (f : Nat) (es : List E)
  | inM (n : Bool) (a b : E) | lenM (a : E) | appM (a e : E) | popM (a e : E) | cpM (b : Bi) (a : E) | eqM (n : Bool) (a e : E)
inductive I where
  | it (e : E) | rng (e : E) | rng2 (a b : E) | enum (e : E) | zip (a b : E)
end

/-! ### values -/
mutual
def D.beq : D → D → Bool
  | .non, .non => true
  | .bl a, .bl b => a == b
  | .int a, .int b => a == b
  | .str a, .str b => a == b
  | .tup a, .tup b => D.beqs a b
  | .lst a, .lst b => D.beqs a b
  | .dci a c, .dci b d => a == b && D.beqs c d
  | .dct a c, .dct b d => D.beqs a b && D.beqs c d
  | .mref a, .mref b => a == b
  | .exn a, .exn b => a == b
  | .scr a, .scr b => a == b
  | _, _ => false
def D.beqs : List D → List D → Bool
  | [], [] => true
  | a :: r, b :: s => D.beq a b && D.beqs r s
  | _, _ => false
end
mutual
theorem D.beq_refl : ∀ a : D, D.beq a a = true
  | .non => by simp [D.beq]
  | .bl b => by simp [D.beq]
  | .int b => by simp [D.beq]
  | .str b => by simp [D.beq]
  | .tup a => by simpa [D.beq] using D.beqs_refl a
  | .lst a => by simpa [D.beq] using D.beqs_refl a
  | .dci a b => by simpa [D.beq] using D.beqs_refl b
  | .dct a b => by simpa [D.beq] using ⟨D.beqs_refl a, D.beqs_refl b⟩
  | .mref n => by simp [D.beq]
  | .exn n => by simp [D.beq]
  | .scr n => by simp [D.beq]
theorem D.beqs_refl : ∀ a : List D, D.beqs a a = true
  | [] => by simp [D.beqs]
  | a :: r => by simpa [D.beqs] using ⟨D.beq_refl a, D.beqs_refl r⟩
end
mutual
theorem D.eq_of_beq : ∀ a b : D, D.beq a b = true → a = b
  | .non, b, h => by cases b <;> simp_all [D.beq]
  | .bl a, b, h => by cases b <;> simp_all [D.beq]
  | .int a, b, h => by cases b <;> simp_all [D.beq]
  | .str a, b, h => by cases b <;> simp_all [D.beq]
  | .tup a, b, h => by
    cases b <;> simp only [D.beq, Bool.false_eq_true] at h
    rw [D.eq_of_beqs a _ h]
  | .lst a, b, h => by
    cases b <;> simp only [D.beq, Bool.false_eq_true] at h
    rw [D.eq_of_beqs a _ h]
  | .dci a c, b, h => by
    cases b <;> simp only [D.beq, Bool.false_eq_true, Bool.and_eq_true, beq_iff_eq] at h
    rw [h.1, D.eq_of_beqs c _ h.2]
  | .dct a c, b, h => by
    cases b <;> simp only [D.beq, Bool.false_eq_true, Bool.and_eq_true] at h
    rw [D.eq_of_beqs a _ h.1, D.eq_of_beqs c _ h.2]
  | .mref a, b, h => by cases b <;> simp_all [D.beq]
  | .exn a, b, h => by cases b <;> simp_all [D.beq]
  | .scr a, b, h => by cases b <;> simp_all [D.beq]
theorem D.eq_of_beqs : ∀ a b : List D, D.beqs a b = true → a = b
  | [], b, h => by cases b <;> simp_all [D.beqs]
  | a :: r, b, h => by
    cases b with
    | nil => simp [D.beqs] at h
    | cons b s =>
      simp only [D.beqs, Bool.and_eq_true] at h
      rw [D.eq_of_beq a b h.1, D.eq_of_beqs r s h.2]
end
instance : DecidableEq D := fun a b => if h : D.beq a b = true then isTrue (D.eq_of_beq a b h) else isFalse fun e => h (e ▸ D.beq_refl a)

mutual
/-- plain: ints, and tuples of plain ones, so deep at most -/
def D.pl : Nat → D → Bool
  | _, .int _ => true
  | n + 1, .tup xs => D.pls n xs
  | _, _ => false
def D.pls : Nat → List D → Bool
  | _, [] => true
  | n, x :: xs => D.pl n x && D.pls n xs
end
mutual
/-- data: what == may be asked of, so deep at most -/
def D.da : Nat → D → Bool
  | _, .non | _, .bl _ | _, .int _ => true
  | n + 1, .tup xs => D.das n xs
  | n + 1, .lst xs => D.das n xs
  | _, _ => false
def D.das : Nat → List D → Bool
  | _, [] => true
  | n, x :: xs => D.da n x && D.das n xs
end
mutual
/-- == of data -/
def D.eqv : D → D → Bool
  | .non, .non => true
  | .bl a, .bl b => a == b
  | .bl a, .int j => (if a then 1 else 0) == j
  | .int i, .bl b => i == (if b then 1 else 0)
  | .int i, .int j => i == j
  | .tup xs, .tup ys => D.eqvs xs ys
  | .lst xs, .lst ys => D.eqvs xs ys
  | _, _ => false
def D.eqvs : List D → List D → Bool
  | [], [] => true
  | x :: xs, y :: ys => D.eqv x y && D.eqvs xs ys
  | _, _ => false
end
mutual
/-- < of plain values -/
def D.lt : D → D → Bool
  | .int a, .int b => decide (a < b)
  | .int _, .tup _ => true
  | .tup xs, .tup ys => D.lts xs ys
  | _, _ => false
def D.lts : List D → List D → Bool
  | [], [] => false
  | [], _ :: _ => true
  | _ :: _, [] => false
  | x :: xs, y :: ys => if x = y then D.lts xs ys else D.lt x y
end
mutual
/-- may they be compared -/
def D.ord : D → D → Bool
  | .int _, .int _ => true
  | .tup xs, .tup ys => D.ords xs ys
  | _, _ => false
def D.ords : List D → List D → Bool
  | [], _ => true
  | _ :: _, [] => true
  | x :: xs, y :: ys => D.ord x y && D.ords xs ys
end
def eqD (a b : D) : Option Bool := if D.da 60 a && D.da 60 b then some (D.eqv a b) else none
def ltD (a b : D) : Option Bool := if D.pl 60 a && D.pl 60 b && D.ord a b then some (D.lt a b) else none

def insD (x : D) : List D → List D
  | [] => [x]
  | y :: ys => if D.lt y x then y :: insD x ys else x :: y :: ys
def sortL : List D → List D
  | [] => []
  | x :: xs => insD x (sortL xs)
def sortOk (xs : List D) : Bool := xs.all fun x => D.pl 60 x && xs.all fun y => D.ord x y
def minL : List D → Option D
  | [] => none
  | [x] => some x
  | x :: xs => (minL xs).map fun m => if D.lt m x then m else x
def maxL : List D → Option D
  | [] => none
  | [x] => some x
  | x :: xs => (maxL xs).map fun m => if D.lt x m then m else x

def intsOf : List D → Option (List Int)
  | [] => some []
  | .int i :: r => (intsOf r).map (i :: ·)
  | _ :: _ => none
def blsOf : List D → Option (List Bool)
  | [] => some []
  | .bl i :: r => (blsOf r).map (i :: ·)
  | _ :: _ => none

/-- the lists' line -/
def line : Nat := 1000000
/-- an index into n places -/
def ixD (n : Nat) (i : Int) : Option Nat := if 0 ≤ i then (if i < n then some i.toNat else none) else if -(n : Int) ≤ i then some (i + n).toNat else none
def atD {α : Type} (xs : List α) (i : Int) : Option α := (ixD xs.length i).bind fun j => xs[j]?
/-- a slice's end -/
def endD (n d : Nat) (o : Option Int) : Nat := match o with
  | none => d
  | some v => if v < 0 then (v + n).toNat else min v.toNat n
def cutD {α : Type} (xs : List α) (lo hi : Option Int) : List α := (xs.drop (endD xs.length 0 lo)).take (endD xs.length xs.length hi - endD xs.length 0 lo)

def getI (ks : List Int) (vs : List D) (k : Int) : Option D := ((ks.zip vs).find? fun p => p.1 == k).map (·.2)
def getT (ks vs : List D) (k : D) : Option D := ((ks.zip vs).find? fun p => decide (p.1 = k)).map (·.2)
def putI (ks : List Int) (vs : List D) (k : Int) (v : D) : List Int × List D :=
  if k ∈ ks then (ks, (ks.zip vs).map fun p => if p.1 = k then v else p.2) else (ks ++ [k], vs ++ [v])
def putT (ks vs : List D) (k v : D) : List D × List D :=
  if k ∈ ks then (ks, (ks.zip vs).map fun p => if p.1 = k then v else p.2) else (ks ++ [k], vs ++ [v])
/-- a key that is a tuple -/
def keyT (d : D) : Bool := match d with
  | .tup _ => D.pl 8 d
  | _ => false

def Cell.d : Cell → D
  | .lst xs => .lst xs
  | .dci ks vs => .dci ks vs
  | .dct ks vs => .dct ks vs
  | .ins _ _ => .non

def Ty.is : Ty → D → Bool
  | .int, .int _ => true
  | .int, .bl _ => true
  | .bool, .bl _ => true
  | .str, .str _ => true
  | .tuple, .tup _ => true
  | .list, .lst _ => true
  | _, _ => false
/-- of what isinstance may be asked -/
def D.isiOk : D → Bool
  | .non | .bl _ | .int _ | .str _ | .tup _ | .lst _ => true
  | _ => false
def Ty.plain : Ty → Bool
  | .exc _ => false
  | _ => true

/-- a product of ints that is reckoned -/
def mulOk (i j : Int) : Bool := (decide (-(2 ^ 64) < i) && decide (i < 2 ^ 64)) || (decide (-(2 ^ 64) < j) && decide (j < 2 ^ 64)) || (decide (i.natAbs < 2 ^ 1000) && decide (j.natAbs < 2 ^ 1000))
def repOk (n : Nat) (k : Int) : Bool := decide (0 < n) && decide (2 ≤ k) && decide (k ≤ 1000) && decide (n ≤ 1000)

def binD (op : BOp) (a b : D) : Option D :=
  match op, a, b with
  | .add, .int i, .int j => some (.int (i + j))
  | .sub, .int i, .int j => some (.int (i - j))
  | .mul, .int i, .int j => if mulOk i j then some (.int (i * j)) else none
  | .fdiv, .int i, .int j => if 0 < j ∧ j.natAbs < 2 ^ 1000 then some (.int (i / j)) else none
  | .mod, .int i, .int j => if 0 < j then some (.int (i % j)) else none
  | .pow, .int i, .int j => if 0 ≤ j ∧ j ≤ 1000 ∧ i.natAbs < 2 ^ 64 then some (.int (i ^ j.toNat)) else none
  | .add, .tup xs, .tup ys => if xs.length + ys.length ≤ line then some (.tup (xs ++ ys)) else none
  | .add, .lst xs, .lst ys => if xs.length + ys.length ≤ line then some (.lst (xs ++ ys)) else none
  | .mul, .tup xs, .int k => if k = 1 then some (.tup xs) else if repOk xs.length k then some (.tup (List.replicate k.toNat xs).flatten) else none
  | .mul, .lst xs, .int k => if 0 ≤ k ∧ k ≤ line ∧ xs.length * k.toNat ≤ line then some (.lst (List.replicate k.toNat xs).flatten) else none
  | _, _, _ => none

def inL (x : D) (xs : List D) : Option Bool := if D.da 60 x && D.da 61 (.lst xs) then some (xs.any fun z => D.eqv z x) else none

def cmpD (op : COp) (a b : D) : Option Bool :=
  match op with
  | .lt => ltD a b
  | .gt => ltD b a
  | .le => (ltD b a).map (!·)
  | .ge => (ltD a b).map (!·)
  | .eq => eqD a b
  | .ne => (eqD a b).map (!·)
  | .inn | .nin =>
    let f : Bool → Bool := fun r => match op with | .nin => !r | _ => r
    match b with
    | .lst xs | .tup xs => (inL a xs).map f
    | .dci ks _ => match a with | .int k => some (f (decide (k ∈ ks))) | _ => none
    | .dct ks _ => if keyT a then some (f (decide (a ∈ ks))) else none
    | _ => none

/-- the first place of an equal one -/
def idxD (t : Bool) (x y : D) : Option Nat := match x with
  | .lst xs => if t then none else if D.da 60 y && D.da 61 x then xs.findIdx? fun z => D.eqv z y else none
  | .tup xs => if t then match y with
      | .int k => match intsOf xs with
        | some ns => if k ∈ ns then some (ns.idxOf k) else none
        | none => none
      | _ => none
    else none
  | _ => none

def lenD : D → Option Nat
  | .lst xs | .tup xs => some xs.length
  | .scr xs => some xs.length
  | .dci ks _ => some ks.length
  | .dct ks _ => some ks.length
  | _ => none

def biD (b : Bi) (ds : List D) : Option D :=
  match b, ds with
  | .len, [d] => (lenD d).map fun (n : Nat) => .int n
  | .int, [.int i] => some (.int i)
  | .sum, [.lst xs] => (intsOf xs).map fun l => .int l.sum
  | .max2, [.int i, .int j] => some (.int (if j > i then j else i))
  | .min2, [.int i, .int j] => some (.int (if j < i then j else i))
  | .maxl, [.lst xs] => if sortOk xs then maxL xs else none
  | .minl, [.lst xs] => if sortOk xs then minL xs else none
  | .all, [.lst xs] => (blsOf xs).map fun l => .bl (l.all id)
  | .tuple, [.lst xs] => some (.tup xs)
  | .tuple, [.tup xs] => some (.tup xs)
  | .list, [.lst xs] => some (.lst xs)
  | .list, [.tup xs] => some (.lst xs)
  | .sorted, [.lst xs] => if sortOk xs then some (.lst (sortL xs)) else none
  | .sorted, [.tup xs] => if sortOk xs then some (.lst (sortL xs)) else none
  | _, _ => none

def subD (F : List Cell) (d k : D) : Option D :=
  match d, k with
  | .tup xs, .int i => atD xs i
  | .lst xs, .int i => atD xs i
  | .scr xs, .int i => (atD xs i).map .int
  | .dci ks vs, .int i => getI ks vs i
  | .dct ks vs, k => if keyT k then getT ks vs k else none
  | .mref n, k => match F[n]? with
    | some (.lst xs) => match k with
      | .int i => atD xs i
      | _ => none
    | some (.dci ks vs) => match k with
      | .int i => getI ks vs i
      | _ => none
    | some (.dct ks vs) => if keyT k then getT ks vs k else none
    | _ => none
  | _, _ => none

def ownOf (s : Option Slot) : Option Cell := match s with
  | some (.own c) => some c
  | _ => none
/-- a list of one's own -/
def ownL (s : Option Slot) : Bool := match s with
  | some (.own (.lst _)) => true
  | _ => false
/-- what a slot holds, whatever its state -/
def heldOf (s : Option Slot) : Option D := match s with
  | some (.own c) => some c.d
  | some (.val d) => some d
  | _ => none

def optInt (o : List D) : Option (Option Int) := match o with
  | [] => some none
  | [.int i] => some (some i)
  | _ => none

def itemsOf (d : D) : Option (List D) := match d with
  | .lst xs | .tup xs => some xs
  | _ => none

mutual
def assignTg : Tg → D → List Slot → Option (List Slot)
  | .v i, d, ρ => if i < ρ.length then some (ρ.set i (.val d)) else none
  | .t ts, .tup ds, ρ => assignTgs ts ds ρ
  | .t _, _, _ => none
def assignTgs : List Tg → List D → List Slot → Option (List Slot)
  | [], [], ρ => some ρ
  | t :: ts, d :: ds, ρ => (assignTg t d ρ).bind (assignTgs ts ds)
  | _, _, _ => none
end

def wipeS (ρ : List Slot) : List Nat → List Slot
  | [] => ρ
  | v :: vs => (wipeS ρ vs).set v .no
def hasOwn (ρ : List Slot) (vs : List Nat) : Bool := vs.any fun v => (ownOf ρ[v]?).isSome
/-- the slots vs as they were -/
def backS (ρ0 ρ : List Slot) : List Nat → List Slot
  | [] => ρ
  | v :: vs => (backS ρ0 ρ vs).set v (ρ0[v]?.getD .no)

/-- a comprehension's loop: f hands back an item, or none -/
def lcLoop (f : D → St → Res (Option D × St)) : List D → St → Res (List D × St)
  | [], s => .ok ([], s)
  | x :: xs, s => (f x s).bind fun (o, s1) => (lcLoop f xs s1).bind fun (ys, s2) => .ok (match o with | some y => y :: ys | none => ys, s2)
/-- .. the second clause hands back items -/
def lcLoops (f : D → St → Res (List D × St)) : List D → St → Res (List D × St)
  | [], s => .ok ([], s)
  | x :: xs, s => (f x s).bind fun (o, s1) => (lcLoops f xs s1).bind fun (ys, s2) => .ok (o ++ ys, s2)
/-- a dict's -/
def dcLoop {κ : Type} (put : List κ → List D → κ → D → List κ × List D) (f : D → St → Res (Option (κ × D) × St)) : List D → List κ × List D → St → Res ((List κ × List D) × St)
  | [], a, s => .ok (a, s)
  | x :: xs, a, s => (f x s).bind fun (o, s1) => dcLoop put f xs (match o with | some y => put a.1 a.2 y.1 y.2 | none => a) s1

/-- the tests of a clause: none, or one -/
def boolOf : List D → Option Bool
  | [] => some true
  | [.bl b] => some b
  | _ => none
def guardB {α : Type} (bs : List D) (a b : Res α) : Res α := match boolOf bs with
  | some true => a
  | some false => b
  | none => .err
/-- one turn of a comprehension -/
def lcTurn (vs : List Nat) (tg : Tg) (tests : St → Res (List D × St)) (elt : St → Res (D × St)) (x : D) (s : St) : Res (Option D × St) :=
  (Res.of (assignTg tg x (wipeS s.ρ vs))).bind fun ρ => (tests { s with ρ := ρ }).bind fun (bs, s) => guardB bs ((elt s).bind fun (y, s) => .ok (some y, s)) (.ok (none, s))
def lc2Turn (vs : List Nat) (tg : Tg) (tests : St → Res (List D × St)) (src : St → Res (List D × St)) (f : D → St → Res (Option D × St)) (x : D) (s : St) : Res (List D × St) :=
  (Res.of (assignTg tg x (wipeS s.ρ vs))).bind fun ρ => (tests { s with ρ := ρ }).bind fun (bs, s) => guardB bs ((src s).bind fun (zs, s) => lcLoop f zs s) (.ok ([], s))
def dcTurn {κ : Type} (kf : D → Option κ) (vs : List Nat) (tg : Tg) (tests : St → Res (List D × St)) (key elt : St → Res (D × St)) (x : D) (s : St) : Res (Option (κ × D) × St) :=
  (Res.of (assignTg tg x (wipeS s.ρ vs))).bind fun ρ => (tests { s with ρ := ρ }).bind fun (bs, s) =>
    guardB bs ((key s).bind fun (y, s) => (elt s).bind fun (z, s) => (Res.of (kf y)).bind fun k => .ok (some (k, z), s)) (.ok (none, s))
def intK : D → Option Int
  | .int i => some i
  | _ => none
def tupK (d : D) : Option D := if keyT d then some d else none
abbrev Call := Nat → List D → List Cell → CRes
def callR (call : Call) (f : Nat) (ds : List D) (s : St) : Res (D × St) := match call f ds s.F with
  | .ok d _ F => .ok (d, { s with F := F })
  | .exc c F => .exc c { s with F := F }
  | .err => .err

def cellOf (d : D) : Option Cell := match d with
  | .lst xs => some (.lst xs)
  | .dci ks vs => some (.dci ks vs)
  | .dct ks vs => some (.dct ks vs)
  | _ => none

/-- .. that must hand back a new list -/
def callO (call : Call) (f : Nat) (ds : List D) (s : St) : Res (D × St) := match call f ds s.F with
  | .ok d true F => if (cellOf d).isSome then .ok (d, { s with F := F }) else .err
  | .ok _ false _ => .err
  | .exc c F => .exc c { s with F := F }
  | .err => .err

def enumD (xs : List D) : List D := (xs.zipIdx).map fun p => .tup [.int (p.2 : Nat), p.1]
def zipD (xs ys : List D) : List D := (xs.zip ys).map fun p => .tup [p.1, p.2]
def rngD (lo hi : Int) : List D := (List.range (hi - lo).toNat).map fun (i : Nat) => .int (lo + i)
def rngOk (lo hi : Int) : Bool := decide (-(line : Int) ≤ lo) && decide (lo ≤ line) && decide (-(line : Int) ≤ hi) && decide (hi ≤ line)

/-- the shared cell that a value names -/
def cellAt (F : List Cell) (x : D) : Option Cell := match x with
  | .mref n => match F[n]? with
    | some (.ins _ _) => none
    | r => r
  | _ => none
/-- the instance that a value names -/
def insOf (F : List Cell) (x : D) : Option (Nat × Str × List (Str × D)) := match x with
  | .mref n => match F[n]? with
    | some (.ins c fs) => some (n, c, fs)
    | _ => none
  | _ => none
def getF (fs : List (Str × D)) (f : Str) : Option D := (fs.find? fun p => decide (p.1 = f)).map (·.2)
def setF : List (Str × D) → Str → D → List (Str × D)
  | [], f, d => [(f, d)]
  | p :: fs, f, d => if p.1 = f then (f, d) :: fs else p :: setF fs f d
/-- the fields that an instance may have -/
def fieldMax : Nat := 100
/-- a new instance: its cell, then __init__ -/
def newR (call : Call) (c : Str) (f : Nat) (ds : List D) (s : St) : Res (D × St) := match call f (.mref s.F.length :: ds) (s.F ++ [.ins c []]) with
  | .ok d _ F => match d with
    | .non => .ok (.mref s.F.length, { s with F := F })
    | _ => .err
  | .exc c F => .exc c { s with F := F }
  | .err => .err
def sharedOk : Cell → Bool
  | .ins _ _ => false
  | _ => true

mutual
def ev (call : Call) : E → St → Res (D × St)
  | .var i, s => match s.ρ[i]? with
    | some (.val d) => .ok (d, s)
    | some (.own c) => match c with
      | .ins _ _ => .err
      | _ => .ok (c.d, { s with ρ := s.ρ.set i (.val c.d) })
    | _ => .err
  | .con d, s => .ok (d, s)
  | .glo _ i, s => .ok (.int i, s)
  | .tup es, s => (evs call es s).bind fun (ds, s) => .ok (.tup ds, s)
  | .lst es, s => (evs call es s).bind fun (ds, s) => .ok (.lst ds, s)
  | .bin op a b, s => (ev call a s).bind fun (x, s) => (ev call b s).bind fun (y, s) => (Res.of (binD op x y)).bind fun d => .ok (d, s)
  | .neg a, s => (ev call a s).bind fun (x, s) => match x with
    | .int i => .ok (.int (-i), s)
    | _ => .err
  | .cmp op a b, s => (ev call a s).bind fun (x, s) => (ev call b s).bind fun (y, s) => (Res.of (cmpD op x y)).bind fun d => .ok (.bl d, s)
  | .chn op op' a b c, s => (ev call a s).bind fun (x, s) => (ev call b s).bind fun (y, s) => (Res.of (cmpD op x y)).bind fun d =>
    if d then (ev call c s).bind fun (z, s) => (Res.of (cmpD op' y z)).bind fun d => .ok (.bl d, s) else .ok (.bl false, s)
  | .isn n a, s => (ev call a s).bind fun (x, s) => .ok (.bl (n != decide (x = .non)), s)
  | .isb n a b, s => (ev call a s).bind fun (x, s) => (ev call b s).bind fun (y, s) => match x, y with
    | .bl p, .bl q => .ok (.bl (n != (p == q)), s)
    | _, _ => .err
  | .and a b, s => (ev call a s).bind fun (x, s) => match x with
    | .bl true => ev call b s
    | .bl false => .ok (.bl false, s)
    | _ => .err
  | .or a b, s => (ev call a s).bind fun (x, s) => match x with
    | .bl true => .ok (.bl true, s)
    | .bl false => ev call b s
    | _ => .err
  | .not a, s => (ev call a s).bind fun (x, s) => match x with
    | .bl p => .ok (.bl (!p), s)
    | _ => .err
  | .ife c a b, s => (ev call c s).bind fun (x, s) => match x with
    | .bl true => ev call a s
    | .bl false => ev call b s
    | _ => .err
  | .call f es, s => (evs call es s).bind fun (ds, s) => callR call f ds s
  | .callo f es, s => (evs call es s).bind fun (ds, s) => callO call f ds s
  | .callk f pre ix es, s => (evs call pre s).bind fun (ps, s) => (evs call es s).bind fun (ds, s) => callR call f (ps ++ ix.map fun j => ds.getD j .non) s
  | .bi b es, s => (evs call es s).bind fun (ds, s) => (Res.of (biD b ds)).bind fun d => .ok (d, s)
  | .isi a ts, s => (ev call a s).bind fun (x, s) => if x.isiOk && ts.all Ty.plain then .ok (.bl (ts.any fun t => t.is x), s) else .err
  | .sub a i, s => (ev call a s).bind fun (x, s) => (ev call i s).bind fun (y, s) => (Res.of (subD s.F x y)).bind fun d => .ok (d, s)
  | .slc a lo hi, s => (ev call a s).bind fun (x, s) => (evs call lo s).bind fun (l, s) => (evs call hi s).bind fun (h, s) =>
    match x, optInt l, optInt h with
    | .tup xs, some l, some h => .ok (.tup (cutD xs l h), s)
    | .lst xs, some l, some h => .ok (.lst (cutD xs l h), s)
    | .scr xs, some l, some h => .ok (.lst ((cutD xs l h).map .int), s)
    | _, _, _ => .err
  | .rngT a, s => (ev call a s).bind fun (x, s) => match x with
    | .int n => if rngOk 0 n then .ok (.tup (rngD 0 n), s) else .err
    | _ => .err
  | .rngL a, s => (ev call a s).bind fun (x, s) => match x with
    | .int n => if rngOk 0 n then .ok (.lst (rngD 0 n), s) else .err
    | _ => .err
  | .lenO i, s => match heldOf s.ρ[i]? with
    | some d => (Res.of (lenD d)).bind fun n => .ok (.int n, s)
    | none => .err
  | .subO i e, s => if (heldOf s.ρ[i]?).isSome = false then .err else (ev call e s).bind fun (k, s) => match heldOf s.ρ[i]? with
    | some d => (Res.of (subD s.F d k)).bind fun d => .ok (d, s)
    | none => .err
  | .inO n e i, s => (ev call e s).bind fun (k, s) => match heldOf s.ρ[i]? with
    | some d => (Res.of (cmpD (if n then .nin else .inn) k d)).bind fun d => .ok (.bl d, s)
    | none => .err
  | .eqO n i e, s => if (heldOf s.ρ[i]?).isSome = false then .err else (ev call e s).bind fun (k, s) => match heldOf s.ρ[i]? with
    | some d => (Res.of (cmpD (if n then .ne else .eq) d k)).bind fun d => .ok (.bl d, s)
    | none => .err
  | .cpO b i, s => match heldOf s.ρ[i]? with
    | some d => (Res.of (biD b [d])).bind fun d => .ok (d, s)
    | none => .err
  | .app i e, s => if ownL s.ρ[i]? = false then .err else (ev call e s).bind fun (x, s) => match ownOf s.ρ[i]? with
    | some (.lst xs) => if xs.length < line then .ok (.non, { s with ρ := s.ρ.set i (.own (.lst (xs ++ [x]))) }) else .err
    | _ => .err
  | .ext i e, s => if ownL s.ρ[i]? = false then .err else (ev call e s).bind fun (x, s) => match ownOf s.ρ[i]?, x with
    | some (.lst xs), .lst ys => if xs.length + ys.length ≤ line then .ok (.non, { s with ρ := s.ρ.set i (.own (.lst (xs ++ ys))) }) else .err
    | _, _ => .err
  | .pop i, s => match ownOf s.ρ[i]? with
    | some (.lst xs) => match xs.getLast? with
      | some y => .ok (y, { s with ρ := s.ρ.set i (.own (.lst xs.dropLast)) })
      | none => .err
    | _ => .err
  | .popA i e, s => if ownL s.ρ[i]? = false then .err else (ev call e s).bind fun (k, s) => match ownOf s.ρ[i]?, k with
    | some (.lst xs), .int k => if line < xs.length then .err else match ixD xs.length k with
      | some j => match xs[j]? with
        | some y => .ok (y, { s with ρ := s.ρ.set i (.own (.lst (xs.eraseIdx j))) })
        | none => .err
      | none => .err
    | _, _ => .err
  | .idx t a e, s => (ev call a s).bind fun (x, s) => (ev call e s).bind fun (y, s) => (Res.of (idxD t x y)).bind fun j => .ok (.int (j : Nat), s)
  | .lc vs e tg it ifs, s => (evI call it s).bind fun (xs, s1) => if hasOwn s1.ρ vs then .err else
    (lcLoop (lcTurn vs tg (evs call ifs) (ev call e)) xs s1).bind fun (ys, s2) => if ys.length ≤ line then .ok (.lst ys, { s2 with ρ := backS s1.ρ s2.ρ vs }) else .err
  | .lc2 vs e tg it ifs vs1 tg1 it1 ifs1, s => (evI call it s).bind fun (xs, s1) => if hasOwn s1.ρ vs then .err else
    (lcLoops (lc2Turn vs tg (evs call ifs) (evI call it1) (lcTurn vs1 tg1 (evs call ifs1) (ev call e))) xs s1).bind fun (ys, s2) => if ys.length ≤ line then .ok (.lst ys, { s2 with ρ := backS s1.ρ s2.ρ vs }) else .err
  | .dci vs k e tg it ifs, s => (evI call it s).bind fun (xs, s1) => if hasOwn s1.ρ vs || decide (line < xs.length) then .err else
    (dcLoop putI (dcTurn intK vs tg (evs call ifs) (ev call k) (ev call e)) xs ([], []) s1).bind fun (a, s2) => .ok (.dci a.1 a.2, { s2 with ρ := backS s1.ρ s2.ρ vs })
  | .dct vs k e tg it ifs, s => (evI call it s).bind fun (xs, s1) => if hasOwn s1.ρ vs || decide (line < xs.length) then .err else
    (dcLoop putT (dcTurn tupK vs tg (evs call ifs) (ev call k) (ev call e)) xs ([], []) s1).bind fun (a, s2) => .ok (.dct a.1 a.2, { s2 with ρ := backS s1.ρ s2.ρ vs })
  | .emp t, s => .ok (if t then .dct [] [] else .dci [] [], s)
  | .cell e, s => (ev call e s).bind fun (x, s) => match cellOf x with
    | some cl => .ok (.mref s.F.length, { s with F := s.F ++ [cl] })
    | none => .err
  | .attr e c f, s => (ev call e s).bind fun (x, s) => match insOf s.F x with
    | some (_, c', fs) => if c' = c then (Res.of (getF fs f)).bind fun d => .ok (d, s) else .err
    | none => .err
  | .meth e c m f es, s => (ev call e s).bind fun (x, s) => match insOf s.F x with
    | some (_, c', fs) => if c' = c ∧ getF fs m = none then (evs call es s).bind fun (ds, s) => callR call f (x :: ds) s else .err
    | none => .err
  | .new c f es, s => (evs call es s).bind fun (ds, s) => newR call c f ds s
  | .inM n a b, s => (ev call a s).bind fun (x, s) => (ev call b s).bind fun (y, s) => match cellAt s.F y with
    | some cl => (Res.of (cmpD (if n then .nin else .inn) x cl.d)).bind fun d => .ok (.bl d, s)
    | none => .err
  | .lenM a, s => (ev call a s).bind fun (x, s) => match cellAt s.F x with
    | some cl => (Res.of (lenD cl.d)).bind fun n => .ok (.int n, s)
    | none => .err
  | .appM a e, s => (ev call a s).bind fun (x, s) => match x with
    | .mref n => if ownL ((s.F[n]?).map .own) = false then .err else (ev call e s).bind fun (y, s) => match s.F[n]? with
      | some (.lst xs) => if xs.length < line then .ok (.non, { s with F := s.F.set n (.lst (xs ++ [y])) }) else .err
      | _ => .err
    | _ => .err
  | .popM a e, s => (ev call a s).bind fun (x, s) => match x with
    | .mref n => if ownL ((s.F[n]?).map .own) = false then .err else (ev call e s).bind fun (k, s) => match s.F[n]?, k with
      | some (.lst xs), .int k => if line < xs.length then .err else match ixD xs.length k with
        | some j => match xs[j]? with
          | some y => .ok (y, { s with F := s.F.set n (.lst (xs.eraseIdx j)) })
          | none => .err
        | none => .err
      | _, _ => .err
    | _ => .err
  | .cpM b a, s => (ev call a s).bind fun (x, s) => match cellAt s.F x with
    | some cl => (Res.of (biD b [cl.d])).bind fun d => .ok (d, s)
    | none => .err
  | .eqM n a e, s => (ev call a s).bind fun (x, s) => (ev call e s).bind fun (y, s) => match cellAt s.F x with
    | some cl => (Res.of (cmpD (if n then .ne else .eq) cl.d y)).bind fun d => .ok (.bl d, s)
    | none => .err
def evs (call : Call) : List E → St → Res (List D × St)
  | [], s => .ok ([], s)
  | e :: es, s => (ev call e s).bind fun (x, s) => (evs call es s).bind fun (xs, s) => .ok (x :: xs, s)
def evI (call : Call) : I → St → Res (List D × St)
  | .it e, s => (ev call e s).bind fun (x, s) => (Res.of (itemsOf x)).bind fun xs => .ok (xs, s)
  | .rng e, s => (ev call e s).bind fun (x, s) => match x with
    | .int n => if rngOk 0 n then .ok (rngD 0 n, s) else .err
    | _ => .err
  | .rng2 a b, s => (ev call a s).bind fun (x, s) => (ev call b s).bind fun (y, s) => match x, y with
    | .int m, .int n => if rngOk m n then .ok (rngD m n, s) else .err
    | _, _ => .err
  | .enum e, s => (ev call e s).bind fun (x, s) => match x with
    | .lst xs => .ok (enumD xs, s)
    | .tup xs => .ok (enumD xs, s)
    | _ => .err
  | .zip a b, s => (ev call a s).bind fun (x, s) => (ev call b s).bind fun (y, s) =>
    match x, y with
    | .lst xs, .lst ys => .ok (zipD xs ys, s)
    | .tup xs, .tup ys => .ok (zipD xs ys, s)
    | _, _ => .err
end

/-- what may not raise -/
def strict {α : Type} (r : Res α) : Res α := match r with
  | .ok a => .ok a
  | _ => .err
@[simp] theorem strict_ok {α : Type} (a : α) : strict (Res.ok a) = .ok a := rfl
/-- where an error may come out of an expression: calls at its head -/
def xev (call : Call) : E → St → Res (D × St)
  | .call f es, s => (strict (evs call es s)).bind fun (ds, s) => callR call f ds s
  | .new c f es, s => (strict (evs call es s)).bind fun (ds, s) => newR call c f ds s
  | .meth e c m f es, s => (xev call e s).bind fun (x, s) => match insOf s.F x with
    | some (_, c', fs) => if c' = c ∧ getF fs m = none then (strict (evs call es s)).bind fun (ds, s) => callR call f (x :: ds) s else .err
    | none => .err
  | .ife c a b, s => (strict (ev call c s)).bind fun (x, s) => match x with
    | .bl true => xev call a s
    | .bl false => xev call b s
    | _ => .err
  | .cmp op a b, s => (xev call a s).bind fun (x, s) => (strict (ev call b s)).bind fun (y, s) => (Res.of (cmpD op x y)).bind fun d => .ok (.bl d, s)
  | .app i e, s => if ownL s.ρ[i]? = false then .err else (xev call e s).bind fun (x, s) => match ownOf s.ρ[i]? with
    | some (.lst xs) => if xs.length < line then .ok (.non, { s with ρ := s.ρ.set i (.own (.lst (xs ++ [x]))) }) else .err
    | _ => .err
  | e, s => strict (ev call e s)

/-! ### statements -/
inductive S where
  | set (i : Nat) (e : E)
  | own (i : Nat) (e : E)
  | tup (tg : Tg) (e : E)
  | par (is : List Nat) (es : List E) (ow : List Bool)
  | seti (i : Nat) (k e : E)
  | setc (a k e : E)
  | seta (a : E) (c f : Str) (e : E)
  | taga (c : Str) (fs : List Str) (e : E)
  | aug (i : Nat) (op : BOp) (e : E)
  | ex (e : E)
  | ret (e : E) | reto (e : E)
  | ife (c : E) (a b : List S)
  | for (tg : Tg) (it : I) (b : List S)
  | while (c : E) (b : List S)
  | brk | ct | pass
  | raise (c : Str)
  | try1 (b : List S) (c : Str) (oth : List Str) (h : D)
  | never

inductive Flow where
  | nx | ret (d : D) | reto (d : D) | brk | ct

def forLoop (f : D → St → Res (Flow × St)) : List D → St → Res (Flow × St)
  | [], s => .ok (.nx, s)
  | x :: xs, s => (f x s).bind fun (fl, s) => match fl with
    | .nx | .ct => forLoop f xs s
    | .brk => .ok (.nx, s)
    | .ret d => .ok (.ret d, s)
    | .reto d => .ok (.reto d, s)
def whileLoop (c : St → Res (D × St)) (f : St → Res (Flow × St)) : Nat → St → Res (Flow × St)
  | 0, _ => .err
  | n + 1, s => (c s).bind fun (b, s) => match b with
    | .bl true => (f s).bind fun (fl, s) => match fl with
      | .nx | .ct => whileLoop c f n s
      | .brk => .ok (.nx, s)
      | .ret d => .ok (.ret d, s)
      | .reto d => .ok (.reto d, s)
    | .bl false => .ok (.nx, s)
    | _ => .err

def setCell (c : Cell) (k x : D) : Option Cell := match c, k with
  | .lst xs, .int i => (ixD xs.length i).map fun j => .lst (xs.set j x)
  | .dci ks vs, .int i => if ks.length < line then some (.dci (putI ks vs i x).1 (putI ks vs i x).2) else none
  | .dct ks vs, k => if keyT k && decide (ks.length < line) then some (.dct (putT ks vs k x).1 (putT ks vs k x).2) else none
  | _, _ => none

/-- the values of a parallel assignment are stored -/
def parS : List Nat → List D → List Bool → List Slot → Option (List Slot)
  | [], [], [], ρ => some ρ
  | i :: is, d :: ds, b :: bs, ρ => if i < ρ.length then
      if b then (cellOf d).bind fun c => parS is ds bs (ρ.set i (.own c)) else parS is ds bs (ρ.set i (.val d))
    else none
  | _, _, _, _ => none

mutual
def run (call : Call) (W : Nat) : S → St → Res (Flow × St)
  | .set i e, s => (xev call e s).bind fun (x, s) => if i < s.ρ.length then .ok (.nx, { s with ρ := s.ρ.set i (.val x) }) else .err
  | .own i e, s => (strict (ev call e s)).bind fun (x, s) => match cellOf x with
    | some c => if i < s.ρ.length then .ok (.nx, { s with ρ := s.ρ.set i (.own c) }) else .err
    | none => .err
  | .tup tg e, s => (strict (ev call e s)).bind fun (x, s) => (Res.of (assignTg tg x s.ρ)).bind fun ρ => .ok (.nx, { s with ρ := ρ })
  | .par is es ow, s => (strict (evs call es s)).bind fun (xs, s) => (Res.of (parS is xs ow s.ρ)).bind fun ρ => .ok (.nx, { s with ρ := ρ })
  | .seti i k e, s => (strict (ev call e s)).bind fun (x, s) => if (heldOf s.ρ[i]?).isSome = false then .err else (strict (ev call k s)).bind fun (k, s) => match ownOf s.ρ[i]? with
    | some c => (Res.of (setCell c k x)).bind fun c => .ok (.nx, { s with ρ := s.ρ.set i (.own c) })
    | none => .err
  | .setc a k e, s => (strict (ev call e s)).bind fun (x, s) => (strict (ev call a s)).bind fun (o, s) => (strict (ev call k s)).bind fun (k, s) => match o with
    | .mref n => match s.F[n]? with
      | some c => (Res.of (setCell c k x)).bind fun c => .ok (.nx, { s with F := s.F.set n c })
      | none => .err
    | _ => .err
  | .seta a c f e, s => (xev call e s).bind fun (x, s) => (strict (ev call a s)).bind fun (o, s) => match insOf s.F o with
    | some (n, c', fs) => if c' = c ∧ fs.length < fieldMax then .ok (.nx, { s with F := s.F.set n (.ins c (setF fs f x)) }) else .err
    | none => .err
  | .taga c fs e, s => (strict (ev call e s)).bind fun (x, s) => match x with
    | .tup ds => match (s.ρ[0]? : Option Slot) with
      | some (.val o) => match insOf s.F o with
        | some (n, c', gs) => if c' = c ∧ gs.length + fs.length < fieldMax ∧ ds.length = fs.length then .ok (.nx, { s with F := s.F.set n (.ins c ((fs.zip ds).foldl (fun g p => setF g p.1 p.2) gs)) }) else .err
        | none => .err
      | _ => .err
    | _ => .err
  | .aug i op e, s => match s.ρ[i]? with
    | some (.val x) => (strict (ev call e s)).bind fun (y, s) => match x, y, op with
      | .int a, .int b, .add => .ok (.nx, { s with ρ := s.ρ.set i (.val (.int (a + b))) })
      | .int a, .int b, .sub => .ok (.nx, { s with ρ := s.ρ.set i (.val (.int (a - b))) })
      | _, _, _ => .err
    | _ => .err
  | .ex e, s => (xev call e s).bind fun (_, s) => .ok (.nx, s)
  | .ret e, s => (xev call e s).bind fun (x, s) => .ok (.ret x, s)
  | .reto e, s => (strict (ev call e s)).bind fun (x, s) => .ok (.reto x, s)
  | .ife c a b, s => (strict (ev call c s)).bind fun (x, s) => match x with
    | .bl true => runs call W a s
    | .bl false => runs call W b s
    | _ => .err
  | .for tg it b, s => (strict (evI call it s)).bind fun (xs, s) => forLoop (fun x s => (Res.of (assignTg tg x s.ρ)).bind fun ρ => runs call W b { s with ρ := ρ }) xs s
  | .while c b, s => whileLoop (fun s => strict (ev call c s)) (runs call W b) W s
  | .brk, s => .ok (.brk, s)
  | .ct, s => .ok (.ct, s)
  | .pass, s => .ok (.nx, s)
  | .raise c, s => .exc c s
  | .try1 b c oth h, s => match runs call W b s with
    | .exc c' s' => if c' = c then .ok (.ret h, s') else if c' ∈ oth then .exc c' s' else .err
    | r => r
  | .never, _ => .err
def runs (call : Call) (W : Nat) : List S → St → Res (Flow × St)
  | [], s => .ok (.nx, s)
  | b :: bs, s => (run call W b s).bind fun (fl, s) => match fl with
    | .nx => runs call W bs s
    | fl => .ok (fl, s)
end

structure Code where
  ps : Nat
  slots : Nat
  body : List S

/-- a body's run as a call's end -/
def endOf (r : Res (Flow × St)) : CRes := match r with
  | .ok (.ret d, s) => .ok d false s.F
  | .ok (.reto d, s) => .ok d true s.F
  | .ok (.nx, s) => .ok .non false s.F
  | .exc c s => .exc c s.F
  | _ => .err
def enter (c : Code) (ds : List D) (F : List Cell) : St := ⟨ds.map .val ++ List.replicate (c.slots - ds.length) .no, F⟩
/-- calls, so deep at most -/
def callN (Φ : Nat → Option Code) (W : Nat) : Nat → Call
  | 0 => fun _ _ _ => .err
  | n + 1 => fun f ds F => match Φ f with
    | some c => if ds.length = c.ps then endOf (runs (callN Φ W n) W c.body (enter c ds F)) else .err
    | none => .err
end NW
set_option autoImplicit false
set_option linter.all false
/-! NwRel: how deep values, cells and slots lie in the abstract heap. -/
namespace NW
open PySem L2

/-- the concrete side: where the shared cells stand, and which objects may still change -/
structure Cn where
  φ : List Addr
  A : Addr → Prop

/-- a list that is read: tracked and not to be changed, or locked, or written in the module -/
def LsR (K : PySem.W.Frag) (c : Cn) (H : Hp) (a : Addr) (vs : List V) : Prop := (∃ o, H a = some (.frz o (.lst vs)) ∧ ¬ c.A a) ∨ ∀ H', SqL K H' a vs

/-- a dict's entries whose keys are tuples: the key, where it stands, the value -/
abbrev Ent := D × Addr × V

mutual
def D.nk : D → NestedKey
  | .int i => .num i
  | .tup xs => .tup (D.nks xs)
  | _ => .none
def D.nks : List D → List NestedKey
  | [] => []
  | x :: xs => D.nk x :: D.nks xs
end

/-- an entry and the library's own: the key, where it stands, the value -/
def EntR (e : Ent) (x : NestedKey × Addr × Value) : Prop := x.1 = e.1.nk ∧ x.2.1 = e.2.1 ∧ RelV e.2.2 x.2.2
/-- the raw dict at d with these entries -/
def rawT (P : Program) (w : World) (d : Addr) (es : List Ent) : HO := .ext fun h =>
  ∃ (o : Obj) (ent : Array DictEntry) (ep : Nat) (xs : List (NestedKey × Addr × Value)), h.get? d = some o ∧ o.ExactDict ∧ o.data = .dict ent ep ∧ (d == sysModules) = false ∧ es.length ≤ sizeLine ∧
    Paired EntR es xs ∧ ent.toList = xs.map (entryOfKey (nestedKind P w)) ∧ (xs.map (·.1)).Nodup

variable (P : Program) (w : World) (K : PySem.W.Frag) in
mutual
inductive Rp (c : Cn) (H : Hp) : V → D → Prop
  | non : Rp c H .non .non
  | bl (b : Bool) : Rp c H (.bl b) (.bl b)
  | int (i : Int) : Rp c H (.int i) (.int i)
  | str (x : Str) : Rp c H (.str x) (.str x)
  | tup {a : Addr} {vs : List V} {ds : List D} : H a = some (.tup vs) → ¬ c.A a → Rps c H vs ds → Rp c H (.ref a) (.tup ds)
  | lst {a : Addr} {vs : List V} {ds : List D} : H a = some (.lst vs) → ¬ c.A a → Rps c H vs ds → Rp c H (.ref a) (.lst ds)
  | dci {a : Addr} {kvs : List (Key × V)} {ks : List Int} {ds : List D} : H a = some (.dK kvs) → ¬ c.A a → kvs.map (·.1) = ks.map Sum.inl → Rps c H (kvs.map (·.2)) ds → Rp c H (.ref a) (.dci ks ds)
  | dct {a : Addr} {es : List Ent} {ks ds : List D} : H a = some (rawT P w a es) → ¬ c.A a → es.map (·.1) = ks → (∀ k ∈ ks, keyT k = true) → Rps c H (es.map fun e => .ref e.2.1) ks → Rps c H (es.map (·.2.2)) ds → Rp c H (.ref a) (.dct ks ds)
  | mref {a : Addr} {n : Nat} : c.φ[n]? = some a → Rp c H (.ref a) (.mref n)
  | scr {a : Addr} {xs : List Int} : LsR K c H a (xs.map V.int) → Rp c H (.ref a) (.scr xs)
inductive Rps (c : Cn) (H : Hp) : List V → List D → Prop
  | nil : Rps c H [] []
  | cons {v : V} {vs : List V} {d : D} {ds : List D} : Rp c H v d → Rps c H vs ds → Rps c H (v :: vs) (d :: ds)
end

section
variable {P : Program} {w : World} {K : PySem.W.Frag} {c c' c'' : Cn} {H H' H'' : Hp}

/-- from one moment to a later one: what must not change has not, and only new objects have become changeable -/
structure Stp (c : Cn) (H : Hp) (c' : Cn) (H' : Hp) : Prop where
  keep : ∀ a o, H a = some o → ¬ c.A a → H' a = some o
  grow : ∀ a, c'.A a → c.A a ∨ H a = none
  pre : c.φ <+: c'.φ

theorem Stp.refl (c : Cn) (H : Hp) : Stp c H c H := ⟨fun _ _ h _ => h, fun _ h => .inl h, List.prefix_refl _⟩
theorem Stp.notA (s : Stp c H c' H') {a : Addr} {o : HO} (h : H a = some o) (n : ¬ c.A a) : ¬ c'.A a := fun q => by
  rcases s.grow a q with z | z
  · exact n z
  · rw [h] at z; cases z
theorem Stp.trans (s : Stp c H c' H') (t : Stp c' H' c'' H'') : Stp c H c'' H'' := by
  refine ⟨fun a o h n => t.keep a o (s.keep a o h n) (s.notA h n), fun a q => ?_, s.pre.trans t.pre⟩
  rcases t.grow a q with z | z
  · exact s.grow a z
  · cases e : H a with
    | none => exact .inr rfl
    | some o =>
      by_cases n : c.A a
      · exact .inl n
      · rw [s.keep a o e n] at z; cases z
theorem LsR.step {a : Addr} {vs : List V} (r : LsR K c H a vs) (s : Stp c H c' H') : LsR K c' H' a vs := by
  rcases r with ⟨o, h, n⟩ | h
  · exact .inl ⟨o, s.keep _ _ h n, s.notA h n⟩
  · exact .inr h
theorem LsR.sq {a : Addr} {vs : List V} (r : LsR K c H a vs) : SqL K H a vs := by
  rcases r with ⟨o, h, n⟩ | h
  · exact .inl (.inr ⟨o, h⟩)
  · exact h H
mutual
theorem Rp.step (s : Stp c H c' H') : ∀ {v : V} {d : D}, Rp P w K c H v d → Rp P w K c' H' v d
  | _, _, .non => .non
  | _, _, .bl b => .bl b
  | _, _, .int i => .int i
  | _, _, .str x => .str x
  | _, _, .tup h n r => .tup (s.keep _ _ h n) (s.notA h n) (Rps.step s r)
  | _, _, .lst h n r => .lst (s.keep _ _ h n) (s.notA h n) (Rps.step s r)
  | _, _, .dci h n e r => .dci (s.keep _ _ h n) (s.notA h n) e (Rps.step s r)
  | _, _, .dct h n e kt r1 r2 => .dct (s.keep _ _ h n) (s.notA h n) e kt (Rps.step s r1) (Rps.step s r2)
  | _, _, .mref h => .mref (by
      obtain ⟨t, e⟩ := s.pre
      rw [← e]
      have hl := (List.getElem?_eq_some_iff.mp h).1
      rw [List.getElem?_append_left hl]
      exact h)
  | _, _, .scr r => .scr (r.step s)
theorem Rps.step (s : Stp c H c' H') : ∀ {vs : List V} {ds : List D}, Rps P w K c H vs ds → Rps P w K c' H' vs ds
  | _, _, .nil => .nil
  | _, _, .cons r t => .cons (Rp.step s r) (Rps.step s t)
end

theorem Rps.length : ∀ {vs : List V} {ds : List D}, Rps P w K c H vs ds → vs.length = ds.length
  | _, _, .nil => rfl
  | _, _, .cons _ t => congrArg (· + 1) t.length
theorem Rps.get : ∀ {vs : List V} {ds : List D} {i : Nat} {d : D}, Rps P w K c H vs ds → ds[i]? = some d → ∃ v, vs[i]? = some v ∧ Rp P w K c H v d
  | _, _, _, _, .nil, e => by simp at e
  | _, _, 0, _, .cons r _, e => by simp at e; subst e; exact ⟨_, rfl, r⟩
  | _, _, i + 1, d, .cons _ t, e => by
    obtain ⟨u, h1, h2⟩ := Rps.get (i := i) (d := d) t (by simpa using e)
    exact ⟨u, by simpa using h1, h2⟩
theorem Rps.getV : ∀ {vs : List V} {ds : List D} {i : Nat} {v : V}, Rps P w K c H vs ds → vs[i]? = some v → ∃ d, ds[i]? = some d ∧ Rp P w K c H v d
  | _, _, _, _, .nil, e => by simp at e
  | _, _, 0, _, .cons r _, e => by simp at e; subst e; exact ⟨_, rfl, r⟩
  | _, _, i + 1, d, .cons _ t, e => by
    obtain ⟨u, h1, h2⟩ := Rps.getV (i := i) (v := d) t (by simpa using e)
    exact ⟨u, by simpa using h1, h2⟩
theorem Rps.append : ∀ {vs ws : List V} {ds es : List D}, Rps P w K c H vs ds → Rps P w K c H ws es → Rps P w K c H (vs ++ ws) (ds ++ es)
  | _, _, _, _, .nil, s => s
  | _, _, _, _, .cons r t, s => .cons r (Rps.append t s)
theorem Rps.take : ∀ {vs : List V} {ds : List D} (n : Nat), Rps P w K c H vs ds → Rps P w K c H (vs.take n) (ds.take n)
  | _, _, 0, _ => by simpa using Rps.nil
  | _, _, _ + 1, .nil => by simpa using Rps.nil
  | _, _, n + 1, .cons r t => by simpa using Rps.cons r (Rps.take n t)
theorem Rps.drop : ∀ {vs : List V} {ds : List D} (n : Nat), Rps P w K c H vs ds → Rps P w K c H (vs.drop n) (ds.drop n)
  | _, _, 0, r => r
  | _, _, _ + 1, .nil => by simpa using Rps.nil
  | _, _, n + 1, .cons r t => by simpa using Rps.drop n t
theorem Rps.rep {vs : List V} {ds : List D} (r : Rps P w K c H vs ds) : ∀ n : Nat, Rps P w K c H (List.replicate n vs).flatten (List.replicate n ds).flatten
  | 0 => by simpa using Rps.nil
  | n + 1 => by
    rw [List.replicate_succ, List.replicate_succ, List.flatten_cons, List.flatten_cons]
    exact r.append (Rps.rep r n)
theorem Rps.set {v : V} {d : D} (r : Rp P w K c H v d) : ∀ {vs : List V} {ds : List D} (i : Nat), Rps P w K c H vs ds → Rps P w K c H (vs.set i v) (ds.set i d)
  | _, _, _, .nil => .nil
  | _, _, 0, .cons _ t => .cons r t
  | _, _, i + 1, .cons q t => .cons q (Rps.set r i t)
theorem Rps.eraseIdx : ∀ {vs : List V} {ds : List D} (i : Nat), Rps P w K c H vs ds → Rps P w K c H (vs.eraseIdx i) (ds.eraseIdx i)
  | _, _, _, .nil => .nil
  | _, _, 0, .cons _ t => t
  | _, _, i + 1, .cons q t => .cons q (Rps.eraseIdx i t)
theorem Rps.dropLast {vs : List V} {ds : List D} (r : Rps P w K c H vs ds) : Rps P w K c H vs.dropLast ds.dropLast := by
  rw [List.dropLast_eq_take, List.dropLast_eq_take, r.length]
  exact r.take _
theorem Rps.of_get : ∀ {vs : List V} {ds : List D}, vs.length = ds.length → (∀ (i : Nat) (v : V) (d : D), vs[i]? = some v → ds[i]? = some d → Rp P w K c H v d) → Rps P w K c H vs ds
  | [], [], _, _ => .nil
  | v :: vs, d :: ds, hl, h => .cons (h 0 v d rfl rfl) (Rps.of_get (by simpa using hl) fun i a b e1 e2 => h (i + 1) a b (by simpa using e1) (by simpa using e2))
  | [], _ :: _, hl, _ => by simp at hl
  | _ :: _, [], hl, _ => by simp at hl
theorem Rps.ints : ∀ ns : List Int, Rps P w K c H (ns.map V.int) (ns.map D.int)
  | [] => .nil
  | n :: r => .cons (.int n) (Rps.ints r)
theorem Rps.ints_inv : ∀ {vs : List V} {ns : List Int}, Rps P w K c H vs (ns.map D.int) → vs = ns.map V.int
  | _, [], .nil => rfl
  | _, n :: r, .cons q t => by
    cases q
    rw [Rps.ints_inv t]
    rfl
theorem Rps.bls_inv : ∀ {vs : List V} {ns : List Bool}, Rps P w K c H vs (ns.map D.bl) → vs = ns.map V.bl
  | _, [], .nil => rfl
  | _, n :: r, .cons q t => by
    cases q
    rw [Rps.bls_inv t]
    rfl

/-! ### cells -/
def CellR (P : Program) (w : World) (K : PySem.W.Frag) (c : Cn) (H : Hp) (a : Addr) : Cell → Prop
  | .lst ds => ∃ vs, H a = some (.lst vs) ∧ Rps P w K c H vs ds
  | .dci ks ds => ∃ kvs : List (Key × V), H a = some (.dK kvs) ∧ kvs.map (·.1) = ks.map Sum.inl ∧ Rps P w K c H (kvs.map (·.2)) ds
  | .dct ks ds => ∃ es : List Ent, H a = some (rawT P w a es) ∧ es.map (·.1) = ks ∧ (∀ k ∈ ks, keyT k = true) ∧ Rps P w K c H (es.map fun e => .ref e.2.1) ks ∧ Rps P w K c H (es.map (·.2.2)) ds
  | .ins _ _ => False
theorem CellR.there {a : Addr} {cl : Cell} (r : CellR P w K c H a cl) : H a ≠ none := by
  intro e
  cases cl with
  | lst ds => obtain ⟨vs, h, _⟩ := r; rw [e] at h; cases h
  | dci ks ds => obtain ⟨vs, h, _⟩ := r; rw [e] at h; cases h
  | dct ks ds => obtain ⟨vs, h, _⟩ := r; rw [e] at h; cases h
  | ins _ _ => exact r
theorem CellR.step {a : Addr} {cl : Cell} (s : Stp c H c' H') (h : H' a = H a) (r : CellR P w K c H a cl) : CellR P w K c' H' a cl := by
  cases cl with
  | lst ds => obtain ⟨vs, e, q⟩ := r; exact ⟨vs, h.trans e, q.step s⟩
  | dci ks ds => obtain ⟨kvs, e, e2, q⟩ := r; exact ⟨kvs, h.trans e, e2, q.step s⟩
  | dct ks ds => obtain ⟨es, e, e2, kt, q1, q2⟩ := r; exact ⟨es, h.trans e, e2, kt, q1.step s, q2.step s⟩
  | ins _ _ => exact r
/-- a cell that will not change any more is a value -/
theorem CellR.value {a : Addr} {cl : Cell} (r : CellR P w K c H a cl) (n : ¬ c.A a) : Rp P w K c H (.ref a) cl.d := by
  cases cl with
  | lst ds => obtain ⟨vs, e, q⟩ := r; exact .lst e n q
  | dci ks ds => obtain ⟨kvs, e, e2, q⟩ := r; exact .dci e n e2 q
  | dct ks ds => obtain ⟨es, e, e2, kt, q1, q2⟩ := r; exact .dct e n e2 kt q1 q2
  | ins _ _ => exact r.elim

/-- a shared cell: a list, a dict, or an instance -/
def CellF (P : Program) (w : World) (K : PySem.W.Frag) (c : Cn) (H : Hp) (a : Addr) : Cell → Prop
  | .ins cn fs => ∃ (dx : Addr) (vs : List (Str × V)), H a = some (.ins (He.ga K cn) dx vs) ∧ vs.map (·.1) = fs.map (·.1) ∧ Rps P w K c H (vs.map (·.2)) (fs.map (·.2))
  | .lst ds => CellR P w K c H a (.lst ds)
  | .dci ks ds => CellR P w K c H a (.dci ks ds)
  | .dct ks ds => CellR P w K c H a (.dct ks ds)
theorem CellR.toF {a : Addr} {cl : Cell} (r : CellR P w K c H a cl) : CellF P w K c H a cl := by
  cases cl with
  | ins _ _ => exact r.elim
  | _ => exact r
theorem CellF.toR {a : Addr} {cl : Cell} (r : CellF P w K c H a cl) (h : sharedOk cl = true) : CellR P w K c H a cl := by
  cases cl with
  | ins _ _ => cases h
  | _ => exact r
theorem CellF.there {a : Addr} {cl : Cell} (r : CellF P w K c H a cl) : H a ≠ none := by
  cases cl with
  | ins cn fs => obtain ⟨dx, vs, h, _⟩ := r; intro e; rw [e] at h; cases h
  | lst _ => exact CellR.there (r.toR rfl)
  | dci _ _ => exact CellR.there (r.toR rfl)
  | dct _ _ => exact CellR.there (r.toR rfl)
theorem CellF.step {a : Addr} {cl : Cell} (s : Stp c H c' H') (h : H' a = H a) (r : CellF P w K c H a cl) : CellF P w K c' H' a cl := by
  cases cl with
  | ins cn fs => obtain ⟨dx, vs, e, e2, q⟩ := r; exact ⟨dx, vs, h.trans e, e2, q.step s⟩
  | lst _ => exact CellR.step s h (r.toR rfl)
  | dci _ _ => exact CellR.step s h (r.toR rfl)
  | dct _ _ => exact CellR.step s h (r.toR rfl)

/-- the shared cells -/
structure CtR (P : Program) (w : World) (K : PySem.W.Frag) (c : Cn) (H : Hp) (F : List Cell) : Prop where
  flen : c.φ.length = F.length
  cell : ∀ (n : Nat) (cl : Cell), F[n]? = some cl → ∃ a, c.φ[n]? = some a ∧ CellF P w K c H a cl
  fnd : c.φ.Nodup
  fA : ∀ a ∈ c.φ, c.A a
  dom : ∀ a, c.A a → H a ≠ none

/-- what a frame leans on: the heap, the shared cells' places and the changeable objects at its entry -/
structure Fi where
  H0 : Hp
  c0 : Cn

def SlotR (P : Program) (w : World) (K : PySem.W.Frag) (c : Cn) (H : Hp) (σi : Option (Option V)) : Slot → Prop
  | .no => True
  | .val d => ∃ v, σi = some (some v) ∧ Rp P w K c H v d
  | .own cl => ∃ a, σi = some (some (.ref a)) ∧ c.A a ∧ a ∉ c.φ ∧ CellR P w K c H a cl

structure StR (P : Program) (w : World) (K : PySem.W.Frag) (fi : Fi) (c : Cn) (σ : L2.St) (H : Hp) (s : St) : Prop where
  len : σ.length = s.ρ.length
  slot : ∀ (i : Nat) (sl : Slot), s.ρ[i]? = some sl → SlotR P w K c H σ[i]? sl
  uniq : ∀ (i j : Nat) (a : Addr) (ci cj : Cell), s.ρ[i]? = some (.own ci) → s.ρ[j]? = some (.own cj) → σ[i]? = some (some (.ref a)) → σ[j]? = some (some (.ref a)) → i = j
  ct : CtR P w K c H s.F
  base : ∀ a o, fi.H0 a = some o → a ∉ fi.c0.φ → H a = some o
  pre : fi.c0.φ <+: c.φ
  keepA : ∀ a, fi.c0.A a → c.A a
  newA : ∀ a, c.A a → fi.c0.A a ∨ fi.H0 a = none
  ownN : ∀ (i : Nat) (a : Addr) (cl : Cell), s.ρ[i]? = some (.own cl) → σ[i]? = some (some (.ref a)) → fi.H0 a = none
  newF : ∀ a ∈ c.φ, a ∈ fi.c0.φ ∨ fi.H0 a = none
  dom0 : ∀ a, fi.c0.A a → fi.H0 a ≠ none

/-- one more changeable object -/
def Cn.plus (c : Cn) (p : Addr) : Cn := ⟨c.φ, fun a => c.A a ∨ a = p⟩
def Cn.minus (c : Cn) (p : Addr) : Cn := ⟨c.φ, fun a => c.A a ∧ a ≠ p⟩
/-- one more shared cell -/
def Cn.share (c : Cn) (p : Addr) : Cn := ⟨c.φ ++ [p], fun a => c.A a⟩

theorem Stp.new {p : Addr} {o : HO} (h : H p = none) : Stp c H c (upd H p o) :=
  ⟨fun a o' e _ => by rw [upd_ne (ne_of_none e h)]; exact e, fun _ q => .inl q, List.prefix_refl _⟩
theorem Stp.newP {p : Addr} {o : HO} (h : H p = none) : Stp c H (c.plus p) (upd H p o) :=
  ⟨fun a o' e _ => by rw [upd_ne (ne_of_none e h)]; exact e, fun a q => by
    rcases q with q | q
    · exact .inl q
    · exact .inr (by rw [q]; exact h), List.prefix_refl _⟩
theorem Stp.minus (p : Addr) : Stp c H (c.minus p) H := ⟨fun _ _ e _ => e, fun a q => .inl q.1, List.prefix_refl _⟩
theorem Stp.share (p : Addr) : Stp c H (c.share p) H := ⟨fun _ _ e _ => e, fun a q => .inl q, List.prefix_append _ _⟩
/-- a changeable object is changed -/
theorem Stp.wr {p : Addr} {o : HO} (h : c.A p) : Stp c H c (upd H p o) :=
  ⟨fun a o' e n => by rw [upd_ne (fun q => n (by rw [q]; exact h))]; exact e, fun _ q => .inl q, List.prefix_refl _⟩

variable {fi : Fi} {σ : L2.St} {s : St}
/-- a new object that nothing names yet -/
theorem StR.new {p : Addr} {o : HO} (r : StR P w K fi c σ H s) (h : H p = none) : StR P w K fi c σ (upd H p o) s := by
  have st : Stp c H c (upd H p o) := .new h
  have cl : ∀ {a : Addr} {cl : Cell}, CellR P w K c H a cl → CellR P w K c (upd H p o) a cl := fun {a cl} q => q.step st (by
    rw [upd_ne]
    intro e
    exact q.there (by rw [e]; exact h))
  have clF : ∀ {a : Addr} {cl : Cell}, CellF P w K c H a cl → CellF P w K c (upd H p o) a cl := fun {a cl} q => q.step st (by
    rw [upd_ne]
    intro e
    exact q.there (by rw [e]; exact h))
  refine ⟨r.len, fun i sl e => ?_, r.uniq, ⟨r.ct.flen, fun n x e => ?_, r.ct.fnd, r.ct.fA, fun a q => ?_⟩, fun a o' e n => ?_, r.pre, r.keepA, r.newA, r.ownN, r.newF, r.dom0⟩
  · have q := r.slot i sl e
    cases sl with
    | no => trivial
    | val d => obtain ⟨v, e1, e2⟩ := q; exact ⟨v, e1, e2.step st⟩
    | own x => obtain ⟨a, e1, e2, e3, e4⟩ := q; exact ⟨a, e1, e2, e3, cl e4⟩
  · obtain ⟨a, e1, e2⟩ := r.ct.cell n x e
    exact ⟨a, e1, clF e2⟩
  · have n := r.ct.dom a q
    intro e
    by_cases ha : a = p
    · subst ha; rw [upd_same] at e; cases e
    · rw [upd_ne ha] at e; exact n e
  · have e' := r.base a o' e n
    rw [upd_ne (ne_of_none e' h)]
    exact e'
/-- .. and that may be changed -/
theorem StR.newP {p : Addr} {o : HO} (r : StR P w K fi c σ H s) (h : H p = none) (h0 : fi.H0 p = none) : StR P w K fi (c.plus p) σ (upd H p o) s := by
  have st : Stp c H (c.plus p) (upd H p o) := .newP h
  have cl : ∀ {a : Addr} {cl : Cell}, CellR P w K c H a cl → CellR P w K (c.plus p) (upd H p o) a cl := fun {a cl} q => q.step st (by
    rw [upd_ne]
    intro e
    exact q.there (by rw [e]; exact h))
  have clF : ∀ {a : Addr} {cl : Cell}, CellF P w K c H a cl → CellF P w K (c.plus p) (upd H p o) a cl := fun {a cl} q => q.step st (by
    rw [upd_ne]
    intro e
    exact q.there (by rw [e]; exact h))
  refine ⟨r.len, fun i sl e => ?_, r.uniq, ⟨r.ct.flen, fun n x e => ?_, r.ct.fnd, fun a q => .inl (r.ct.fA a q), fun a q => ?_⟩, fun a o' e n => ?_, r.pre, fun a q => .inl (r.keepA a q), fun a q => ?_, r.ownN, r.newF, r.dom0⟩
  · have q := r.slot i sl e
    cases sl with
    | no => trivial
    | val d => obtain ⟨v, e1, e2⟩ := q; exact ⟨v, e1, e2.step st⟩
    | own x => obtain ⟨a, e1, e2, e3, e4⟩ := q; exact ⟨a, e1, .inl e2, e3, cl e4⟩
  · obtain ⟨a, e1, e2⟩ := r.ct.cell n x e
    exact ⟨a, e1, clF e2⟩
  · intro e
    by_cases ha : a = p
    · subst ha; rw [upd_same] at e; cases e
    · rw [upd_ne ha] at e
      rcases q with q | q
      · exact r.ct.dom a q e
      · exact ha q
  · have e' := r.base a o' e n
    rw [upd_ne (ne_of_none e' h)]
    exact e'
  · rcases q with q | q
    · exact r.newA a q
    · exact .inr (by rw [q]; exact h0)
/-- new objects are new to the entry too -/
theorem StR.new0 {p : Addr} (r : StR P w K fi c σ H s) (h : H p = none) : fi.H0 p = none := by
  cases e : fi.H0 p with
  | none => rfl
  | some o =>
    by_cases q : p ∈ fi.c0.φ
    · have q2 : p ∈ c.φ := r.pre.subset q
      exact absurd h (r.ct.dom p (r.ct.fA p q2))
    · rw [r.base p o e q] at h
      cases h

/-- an object of one's own, held by no slot -/
structure OwnAt (P : Program) (w : World) (K : PySem.W.Frag) (fi : Fi) (c : Cn) (σ : L2.St) (H : Hp) (s : St) (a : Addr) (cl : Cell) : Prop where
  A : c.A a
  nf : a ∉ c.φ
  ns : ∀ (i : Nat) (x : Cell), s.ρ[i]? = some (.own x) → σ[i]? ≠ some (some (.ref a))
  cell : CellR P w K c H a cl
  n0 : fi.H0 a = none

/-- it will not change any more -/
theorem StR.freeze {a : Addr} (r : StR P w K fi c σ H s) (nf : a ∉ c.φ) (ns : ∀ (i : Nat) (x : Cell), s.ρ[i]? = some (.own x) → σ[i]? ≠ some (some (.ref a))) (n0 : fi.H0 a = none) : StR P w K fi (c.minus a) σ H s := by
  have st : Stp c H (c.minus a) H := .minus a
  refine ⟨r.len, fun i sl e => ?_, r.uniq, ⟨r.ct.flen, fun n x e => ?_, r.ct.fnd, fun b q => ⟨r.ct.fA b q, fun z => nf (z ▸ q)⟩, fun b q => r.ct.dom b q.1⟩, r.base, r.pre, fun b q => ⟨r.keepA b q, fun z => r.dom0 b q (by rw [z]; exact n0)⟩, fun b q => r.newA b q.1, r.ownN, r.newF, r.dom0⟩
  · have q := r.slot i sl e
    cases sl with
    | no => trivial
    | val d => obtain ⟨v, e1, e2⟩ := q; exact ⟨v, e1, e2.step st⟩
    | own x =>
      obtain ⟨b, e1, e2, e3, e4⟩ := q
      exact ⟨b, e1, ⟨e2, fun z => ns i x e (by rw [e1, z])⟩, e3, e4.step st rfl⟩
  · obtain ⟨b, e1, e2⟩ := r.ct.cell n x e
    exact ⟨b, e1, e2.step st rfl⟩
theorem OwnAt.frozen {a : Addr} {cl : Cell} (o : OwnAt P w K fi c σ H s a cl) : Rp P w K (c.minus a) H (.ref a) cl.d := (o.cell.step (.minus a) rfl).value fun z => z.2 rfl

/-- a slot gets a value -/
theorem StR.setVal {i : Nat} {v : V} {d : D} (r : StR P w K fi c σ H s) (q : Rp P w K c H v d) : StR P w K fi c (σ.set i (some v)) H { s with ρ := s.ρ.set i (.val d) } := by
  have key : ∀ {j : Nat} {x : Cell}, (s.ρ.set i (.val d))[j]? = some (.own x) → j ≠ i ∧ s.ρ[j]? = some (.own x) := fun {j x} e => by
    by_cases hj : j = i
    · subst hj
      by_cases hl : j < s.ρ.length
      · rw [List.getElem?_set_self hl] at e; cases e
      · rw [List.getElem?_eq_none (by simpa using hl)] at e; cases e
    · rw [List.getElem?_set_ne (Ne.symm hj)] at e
      exact ⟨hj, e⟩
  refine ⟨by simpa using r.len, fun j sl e => ?_, fun j k a cj ck e1 e2 e3 e4 => ?_, r.ct, r.base, r.pre, r.keepA, r.newA, fun j a cl e1 e2 => ?_, r.newF, r.dom0⟩
  · by_cases hj : j = i
    · subst hj
      by_cases hl : j < s.ρ.length
      · rw [List.getElem?_set_self hl] at e
        cases e
        exact ⟨v, List.getElem?_set_self (by rw [r.len]; exact hl), q⟩
      · rw [List.getElem?_eq_none (by simpa using hl)] at e; cases e
    · rw [List.getElem?_set_ne (Ne.symm hj)] at e ⊢
      exact r.slot j sl e
  · obtain ⟨n1, z1⟩ := key e1
    obtain ⟨n2, z2⟩ := key e2
    rw [List.getElem?_set_ne (Ne.symm n1)] at e3
    rw [List.getElem?_set_ne (Ne.symm n2)] at e4
    exact r.uniq j k a cj ck z1 z2 e3 e4
  · obtain ⟨n1, z1⟩ := key e1
    rw [List.getElem?_set_ne (Ne.symm n1)] at e2
    exact r.ownN j a cl z1 e2
/-- a slot gets an object of one's own -/
theorem StR.setOwn {i : Nat} {a : Addr} {cl : Cell} (r : StR P w K fi c σ H s) (o : OwnAt P w K fi c σ H s a cl) : StR P w K fi c (σ.set i (some (.ref a))) H { s with ρ := s.ρ.set i (.own cl) } := by
  have key : ∀ {j : Nat} {x : Cell}, (s.ρ.set i (.own cl))[j]? = some (.own x) → (j = i ∧ x = cl) ∨ (j ≠ i ∧ s.ρ[j]? = some (.own x)) := fun {j x} e => by
    by_cases hj : j = i
    · subst hj
      by_cases hl : j < s.ρ.length
      · rw [List.getElem?_set_self hl] at e; cases e; exact .inl ⟨rfl, rfl⟩
      · rw [List.getElem?_eq_none (by simpa using hl)] at e; cases e
    · rw [List.getElem?_set_ne (Ne.symm hj)] at e
      exact .inr ⟨hj, e⟩
  have at_i : ∀ {j : Nat} {b : Addr}, j = i → (σ.set i (some (V.ref a)))[j]? = some (some (.ref b)) → b = a := fun {j b} hj e => by
    subst hj
    by_cases hl : j < σ.length
    · rw [List.getElem?_set_self hl] at e; cases e; rfl
    · rw [List.getElem?_eq_none (by simpa using hl)] at e; cases e
  refine ⟨by simpa using r.len, fun j sl e => ?_, fun j k b cj ck e1 e2 e3 e4 => ?_, r.ct, r.base, r.pre, r.keepA, r.newA, fun j b x e1 e2 => ?_, r.newF, r.dom0⟩
  · by_cases hj : j = i
    · subst hj
      by_cases hl : j < s.ρ.length
      · rw [List.getElem?_set_self hl] at e
        cases e
        exact ⟨a, List.getElem?_set_self (by rw [r.len]; exact hl), o.A, o.nf, o.cell⟩
      · rw [List.getElem?_eq_none (by simpa using hl)] at e; cases e
    · rw [List.getElem?_set_ne (Ne.symm hj)] at e ⊢
      exact r.slot j sl e
  · rcases key e1 with ⟨h1, _⟩ | ⟨h1, z1⟩ <;> rcases key e2 with ⟨h2, _⟩ | ⟨h2, z2⟩
    · rw [h1, h2]
    · have := at_i h1 e3
      subst this
      rw [List.getElem?_set_ne (Ne.symm h2)] at e4
      exact absurd e4 (o.ns k ck z2)
    · have := at_i h2 e4
      subst this
      rw [List.getElem?_set_ne (Ne.symm h1)] at e3
      exact absurd e3 (o.ns j cj z1)
    · rw [List.getElem?_set_ne (Ne.symm h1)] at e3
      rw [List.getElem?_set_ne (Ne.symm h2)] at e4
      exact r.uniq j k b cj ck z1 z2 e3 e4
  · rcases key e1 with ⟨h1, _⟩ | ⟨h1, z1⟩
    · rw [at_i h1 e2]; exact o.n0
    · rw [List.getElem?_set_ne (Ne.symm h1)] at e2
      exact r.ownN j b x z1 e2
/-- an owned slot's object is changed -/
theorem StR.chg {i : Nat} {a : Addr} {cl cl' : Cell} {o : HO} (r : StR P w K fi c σ H s) (hi : s.ρ[i]? = some (.own cl)) (hσ : σ[i]? = some (some (.ref a))) (hc : CellR P w K c (upd H a o) a cl') :
    StR P w K fi c σ (upd H a o) { s with ρ := s.ρ.set i (.own cl') } := by
  obtain ⟨a', e1, hA, hF, hC⟩ := r.slot i _ hi
  rw [hσ] at e1
  cases e1
  have st : Stp c H c (upd H a o) := .wr hA
  have n0 := r.ownN i a cl hi hσ
  have hl : i < s.ρ.length := (List.getElem?_eq_some_iff.mp hi).1
  have key : ∀ {j : Nat} {x : Cell}, (s.ρ.set i (.own cl'))[j]? = some (.own x) → (j = i ∧ x = cl') ∨ (j ≠ i ∧ s.ρ[j]? = some (.own x)) := fun {j x} e => by
    by_cases hj : j = i
    · subst hj
      rw [List.getElem?_set_self hl] at e; cases e; exact .inl ⟨rfl, rfl⟩
    · rw [List.getElem?_set_ne (Ne.symm hj)] at e
      exact .inr ⟨hj, e⟩
  refine ⟨by simpa using r.len, fun j sl e => ?_, fun j k b cj ck e1 e2 e3 e4 => ?_, ⟨r.ct.flen, fun n x e => ?_, r.ct.fnd, r.ct.fA, fun b q => ?_⟩, fun b o' e n => ?_, r.pre, r.keepA, r.newA, fun j b x e1 e2 => ?_, r.newF, r.dom0⟩
  · by_cases hj : j = i
    · subst hj
      rw [List.getElem?_set_self hl] at e
      cases e
      exact ⟨a, hσ, hA, hF, hc⟩
    · rw [List.getElem?_set_ne (Ne.symm hj)] at e
      have q := r.slot j sl e
      cases sl with
      | no => trivial
      | val d => obtain ⟨v, e1, e2⟩ := q; exact ⟨v, e1, e2.step st⟩
      | own x =>
        obtain ⟨b, e1, e2, e3, e4⟩ := q
        have hb : b ≠ a := fun z => hj (r.uniq j i a x cl e hi (by rw [e1, z]) hσ)
        exact ⟨b, e1, e2, e3, e4.step st (upd_ne hb)⟩
  · have f : ∀ {j : Nat} {x : Cell}, (s.ρ.set i (.own cl'))[j]? = some (.own x) → ∃ y, s.ρ[j]? = some (.own y) := fun {j x} e => by
      rcases key e with ⟨h1, _⟩ | ⟨_, z⟩
      · exact ⟨cl, h1 ▸ hi⟩
      · exact ⟨x, z⟩
    obtain ⟨y1, z1⟩ := f e1
    obtain ⟨y2, z2⟩ := f e2
    exact r.uniq j k b y1 y2 z1 z2 e3 e4
  · obtain ⟨b, e1, e2⟩ := r.ct.cell n x e
    have hb : b ≠ a := fun z => hF (z ▸ List.mem_of_getElem? e1)
    exact ⟨b, e1, e2.step st (upd_ne hb)⟩
  · intro e
    by_cases hb : b = a
    · subst hb; rw [upd_same] at e; cases e
    · rw [upd_ne hb] at e; exact r.ct.dom b q e
  · have hb : b ≠ a := fun z => by rw [z, n0] at e; cases e
    rw [upd_ne hb]
    exact r.base b o' e n
  · rcases key e1 with ⟨h1, _⟩ | ⟨_, z⟩
    · exact r.ownN j b cl (h1 ▸ hi) e2
    · exact r.ownN j b x z e2
/-- a shared cell is changed -/
theorem StR.chgF {n : Nat} {a : Addr} {cl : Cell} {o : HO} (r : StR P w K fi c σ H s) (hn : c.φ[n]? = some a) (hc : CellF P w K c (upd H a o) a cl) :
    StR P w K fi c σ (upd H a o) { s with F := s.F.set n cl } := by
  have hA := r.ct.fA a (List.mem_of_getElem? hn)
  have st : Stp c H c (upd H a o) := .wr hA
  have hnl : n < s.F.length := by rw [← r.ct.flen]; exact (List.getElem?_eq_some_iff.mp hn).1
  refine ⟨r.len, fun j sl e => ?_, r.uniq, ⟨by simpa using r.ct.flen, fun m x e => ?_, r.ct.fnd, r.ct.fA, fun b q => ?_⟩, fun b o' e m => ?_, r.pre, r.keepA, r.newA, r.ownN, r.newF, r.dom0⟩
  · have q := r.slot j sl e
    cases sl with
    | no => trivial
    | val d => obtain ⟨v, e1, e2⟩ := q; exact ⟨v, e1, e2.step st⟩
    | own x =>
      obtain ⟨b, e1, e2, e3, e4⟩ := q
      have hb : b ≠ a := fun z => e3 (z ▸ List.mem_of_getElem? hn)
      exact ⟨b, e1, e2, e3, e4.step st (upd_ne hb)⟩
  · by_cases hm : m = n
    · subst hm
      rw [List.getElem?_set_self hnl] at e
      cases e
      exact ⟨a, hn, hc⟩
    · rw [List.getElem?_set_ne (Ne.symm hm)] at e
      obtain ⟨b, e1, e2⟩ := r.ct.cell m x e
      have hb : b ≠ a := fun z => by
        subst z
        obtain ⟨h1, q1⟩ := List.getElem?_eq_some_iff.mp e1
        obtain ⟨h2, q2⟩ := List.getElem?_eq_some_iff.mp hn
        exact hm ((List.getElem_inj r.ct.fnd).mp (q1.trans q2.symm))
      exact ⟨b, e1, e2.step st (upd_ne hb)⟩
  · intro e
    by_cases hb : b = a
    · subst hb; rw [upd_same] at e; cases e
    · rw [upd_ne hb] at e; exact r.ct.dom b q e
  · have hb : b ≠ a := fun z => by
      subst z
      rcases r.newF b (List.mem_of_getElem? hn) with q | q
      · exact m q
      · rw [q] at e; cases e
    rw [upd_ne hb]
    exact r.base b o' e m
/-- an object of one's own becomes a shared cell -/
theorem StR.sharedF {a : Addr} {cl : Cell} (r : StR P w K fi c σ H s) (oA : c.A a) (onf : a ∉ c.φ) (ons : ∀ (i : Nat) (x : Cell), s.ρ[i]? = some (.own x) → σ[i]? ≠ some (some (.ref a))) (on0 : fi.H0 a = none) (oc : CellF P w K c H a cl) : StR P w K fi (c.share a) σ H { s with F := s.F ++ [cl] } := by
  have st : Stp c H (c.share a) H := .share a
  refine ⟨r.len, fun j sl e => ?_, r.uniq, ⟨by show (c.φ ++ [a]).length = _; simp [r.ct.flen], fun m x e => ?_, ?_, fun b q => ?_, r.ct.dom⟩, r.base, r.pre.trans (List.prefix_append _ _), r.keepA, r.newA, r.ownN, fun b q => ?_, r.dom0⟩
  · have q := r.slot j sl e
    cases sl with
    | no => trivial
    | val d => obtain ⟨v, e1, e2⟩ := q; exact ⟨v, e1, e2.step st⟩
    | own x =>
      obtain ⟨b, e1, e2, e3, e4⟩ := q
      refine ⟨b, e1, e2, fun z => ?_, e4.step st rfl⟩
      rcases List.mem_append.mp z with z | z
      · exact e3 z
      · rw [List.mem_singleton.mp z] at e1
        exact ons j x e e1
  · by_cases hm : m < s.F.length
    · have e' : s.F[m]? = some x := by rwa [List.getElem?_append_left hm] at e
      obtain ⟨b, e1, e2⟩ := r.ct.cell m x e'
      refine ⟨b, ?_, e2.step st rfl⟩
      show (c.φ ++ [a])[m]? = _
      rw [List.getElem?_append_left (by rw [r.ct.flen]; exact hm)]
      exact e1
    · have e' : m = s.F.length ∧ cl = x := by
        rw [List.getElem?_append_right (by omega)] at e
        rcases Nat.eq_zero_or_pos (m - s.F.length) with z | z
        · rw [z] at e
          exact ⟨by omega, by simpa using e⟩
        · rw [List.getElem?_eq_none (by simp; omega)] at e
          cases e
      obtain ⟨rfl, rfl⟩ := e'
      refine ⟨a, ?_, oc.step st rfl⟩
      show (c.φ ++ [a])[s.F.length]? = _
      rw [← r.ct.flen]
      simp
  · show (c.φ ++ [a]).Nodup
    refine List.nodup_append.mpr ⟨r.ct.fnd, by simp, fun x hx y hy => ?_⟩
    rw [List.mem_singleton.mp hy]
    exact fun z => onf (z ▸ hx)
  · rcases List.mem_append.mp q with q | q
    · exact r.ct.fA b q
    · rw [List.mem_singleton.mp q]; exact oA
  · rcases List.mem_append.mp q with q | q
    · exact r.newF b q
    · rw [List.mem_singleton.mp q]; exact .inr on0
theorem StR.shared {a : Addr} {cl : Cell} (r : StR P w K fi c σ H s) (o : OwnAt P w K fi c σ H s a cl) : StR P w K fi (c.share a) σ H { s with F := s.F ++ [cl] } := r.sharedF o.A o.nf o.ns o.n0 o.cell.toF
/-- a new instance -/
theorem StR.newIns {p dx : Addr} {cn : Str} (r : StR P w K fi c σ H s) (h : H p = none) : StR P w K fi ((c.plus p).share p) σ (upd H p (.ins (He.ga K cn) dx [])) { s with F := s.F ++ [.ins cn []] } := by
  have h0 := r.new0 h
  refine (r.newP h h0).sharedF (.inr rfl) (fun z => r.ct.dom p (r.ct.fA p z) h) (fun i x ei e => ?_) h0 ⟨dx, [], upd_same, rfl, .nil⟩
  obtain ⟨a, e1, e2, _⟩ := r.slot i _ ei
  rw [e] at e1; cases e1
  exact r.ct.dom p e2 h
/-- a slot is forgotten -/
theorem StR.drop (r : StR P w K fi c σ H s) (i : Nat) : StR P w K fi c σ H { s with ρ := s.ρ.set i .no } := by
  have key : ∀ {j : Nat} {x : Cell}, (s.ρ.set i .no)[j]? = some (.own x) → s.ρ[j]? = some (.own x) := fun {j x} e => by
    by_cases hj : j = i
    · subst hj
      by_cases hl : j < s.ρ.length
      · rw [List.getElem?_set_self hl] at e; cases e
      · rw [List.getElem?_eq_none (by simpa using hl)] at e; cases e
    · rw [List.getElem?_set_ne (Ne.symm hj)] at e
      exact e
  refine ⟨by simpa using r.len, fun j sl e => ?_, fun j k a cj ck e1 e2 e3 e4 => r.uniq j k a cj ck (key e1) (key e2) e3 e4, r.ct, r.base, r.pre, r.keepA, r.newA, fun j a cl e1 e2 => r.ownN j a cl (key e1) e2, r.newF, r.dom0⟩
  by_cases hj : j = i
  · subst hj
    by_cases hl : j < s.ρ.length
    · rw [List.getElem?_set_self hl] at e
      cases e
      trivial
    · rw [List.getElem?_eq_none (by simpa using hl)] at e; cases e
  · rw [List.getElem?_set_ne (Ne.symm hj)] at e
    exact r.slot j sl e
/-- a slot's variable is unset -/
theorem StR.wipe1 (r : StR P w K fi c σ H s) (i : Nat) : StR P w K fi c (σ.set i none) H { s with ρ := s.ρ.set i .no } := by
  have key : ∀ {j : Nat} {x : Cell}, (s.ρ.set i .no)[j]? = some (.own x) → j ≠ i ∧ s.ρ[j]? = some (.own x) := fun {j x} e => by
    by_cases hj : j = i
    · subst hj
      by_cases hl : j < s.ρ.length
      · rw [List.getElem?_set_self hl] at e; cases e
      · rw [List.getElem?_eq_none (by simpa using hl)] at e; cases e
    · rw [List.getElem?_set_ne (Ne.symm hj)] at e
      exact ⟨hj, e⟩
  refine ⟨by simpa using r.len, fun j sl e => ?_, fun j k a cj ck e1 e2 e3 e4 => ?_, r.ct, r.base, r.pre, r.keepA, r.newA, fun j a cl e1 e2 => ?_, r.newF, r.dom0⟩
  · by_cases hj : j = i
    · subst hj
      by_cases hl : j < s.ρ.length
      · rw [List.getElem?_set_self hl] at e
        cases e
        trivial
      · rw [List.getElem?_eq_none (by simpa using hl)] at e; cases e
    · rw [List.getElem?_set_ne (Ne.symm hj)] at e ⊢
      exact r.slot j sl e
  · obtain ⟨n1, z1⟩ := key e1
    obtain ⟨n2, z2⟩ := key e2
    rw [List.getElem?_set_ne (Ne.symm n1)] at e3
    rw [List.getElem?_set_ne (Ne.symm n2)] at e4
    exact r.uniq j k a cj ck z1 z2 e3 e4
  · obtain ⟨n1, z1⟩ := key e1
    rw [List.getElem?_set_ne (Ne.symm n1)] at e2
    exact r.ownN j a cl z1 e2
end
end NW
set_option autoImplicit false
set_option linter.all false
set_option maxRecDepth 100000
/-! NwOps: operators and built-ins over deep values. -/
namespace NW
open PySem L2

/-! ### order, in plain Lean -/
mutual
theorem D.lt_irrefl : ∀ a : D, D.lt a a = false
  | .int a => by simp [D.lt]
  | .tup xs => by simpa [D.lt] using D.lts_irrefl xs
  | .non => by simp [D.lt]
  | .bl _ => by simp [D.lt]
  | .str _ => by simp [D.lt]
  | .lst _ => by simp [D.lt]
  | .dci _ _ => by simp [D.lt]
  | .dct _ _ => by simp [D.lt]
  | .mref _ => by simp [D.lt]
  | .exn _ => by simp [D.lt]
  | .scr _ => by simp [D.lt]
theorem D.lts_irrefl : ∀ a : List D, D.lts a a = false
  | [] => by simp [D.lts]
  | x :: xs => by simpa [D.lts] using D.lts_irrefl xs
end
mutual
theorem D.lt_asym : ∀ (n : Nat) (a b : D), D.pl n a = true → D.pl n b = true → D.lt a b = true → D.lt b a = false
  | _, .int a, .int b, _, _, h => by
    simp only [D.lt, decide_eq_true_eq, decide_eq_false_iff_not] at h ⊢
    omega
  | _, .int a, .tup b, _, _, _ => by simp [D.lt]
  | _, .tup a, .int b, _, _, h => by simp [D.lt] at h
  | n + 1, .tup a, .tup b, ha, hb, h => by
    simp only [D.lt, D.pl] at ha hb h ⊢
    exact D.lts_asym n a b ha hb h
theorem D.lts_asym : ∀ (n : Nat) (a b : List D), D.pls n a = true → D.pls n b = true → D.lts a b = true → D.lts b a = false
  | _, [], [], _, _, h => by simp [D.lts] at h
  | _, [], _ :: _, _, _, _ => by simp [D.lts]
  | _, _ :: _, [], _, _, h => by simp [D.lts] at h
  | n, x :: xs, y :: ys, ha, hb, h => by
    simp only [D.lts, D.pls, Bool.and_eq_true] at ha hb h ⊢
    by_cases e : x = y
    · subst e
      simp only [if_true] at h ⊢
      exact D.lts_asym n xs ys ha.2 hb.2 h
    · rw [if_neg e] at h
      rw [if_neg (Ne.symm e)]
      exact D.lt_asym n x y ha.1 hb.1 h
end
mutual
theorem D.lt_tot : ∀ (n : Nat) (a b : D), D.pl n a = true → D.pl n b = true → a ≠ b → D.lt a b = false → D.lt b a = true
  | _, .int a, .int b, _, _, ne, h => by
    simp only [D.lt, decide_eq_true_eq, decide_eq_false_iff_not] at h ⊢
    have : a ≠ b := fun e => ne (by rw [e])
    omega
  | _, .int a, .tup b, _, _, _, h => by simp [D.lt] at h
  | _, .tup a, .int b, _, _, _, h => by simp [D.lt]
  | n + 1, .tup a, .tup b, ha, hb, ne, h => by
    simp only [D.lt, D.pl] at ha hb h ⊢
    exact D.lts_tot n a b ha hb (fun e => ne (by rw [e])) h
theorem D.lts_tot : ∀ (n : Nat) (a b : List D), D.pls n a = true → D.pls n b = true → a ≠ b → D.lts a b = false → D.lts b a = true
  | _, [], [], _, _, ne, _ => absurd rfl ne
  | _, [], _ :: _, _, _, _, h => by simp [D.lts] at h
  | _, _ :: _, [], _, _, _, _ => by simp [D.lts]
  | n, x :: xs, y :: ys, ha, hb, ne, h => by
    simp only [D.lts, D.pls, Bool.and_eq_true] at ha hb h ⊢
    by_cases e : x = y
    · subst e
      simp only [if_true] at h ⊢
      exact D.lts_tot n xs ys ha.2 hb.2 (fun e => ne (by rw [e])) h
    · rw [if_neg e] at h
      rw [if_neg (Ne.symm e)]
      exact D.lt_tot n x y ha.1 hb.1 e h
end
mutual
theorem D.lt_trans : ∀ (n : Nat) (a b c : D), D.pl n a = true → D.pl n b = true → D.pl n c = true → D.lt a b = true → D.lt b c = true → D.lt a c = true
  | _, .int a, .int b, .int c, _, _, _, h1, h2 => by
    simp only [D.lt, decide_eq_true_eq] at h1 h2 ⊢
    omega
  | _, .int a, .int b, .tup c, _, _, _, h1, h2 => by simp [D.lt]
  | _, .int a, .tup b, .int c, _, _, _, h1, h2 => by simp [D.lt] at h2
  | _, .int a, .tup b, .tup c, _, _, _, h1, h2 => by simp [D.lt]
  | _, .tup a, .int b, _, _, _, _, h1, h2 => by simp [D.lt] at h1
  | _, .tup a, .tup b, .int c, _, _, _, h1, h2 => by simp [D.lt] at h2
  | n + 1, .tup a, .tup b, .tup c, ha, hb, hc, h1, h2 => by
    simp only [D.lt, D.pl] at ha hb hc h1 h2 ⊢
    exact D.lts_trans n a b c ha hb hc h1 h2
theorem D.lts_trans : ∀ (n : Nat) (a b c : List D), D.pls n a = true → D.pls n b = true → D.pls n c = true → D.lts a b = true → D.lts b c = true → D.lts a c = true
  | _, [], [], _, _, _, _, h1, _ => by simp [D.lts] at h1
  | _, [], _ :: _, [], _, _, _, _, h2 => by simp [D.lts] at h2
  | _, [], _ :: _, _ :: _, _, _, _, _, _ => by simp [D.lts]
  | _, _ :: _, [], _, _, _, _, h1, _ => by simp [D.lts] at h1
  | _, _ :: _, _ :: _, [], _, _, _, _, h2 => by simp [D.lts] at h2
  | n, x :: xs, y :: ys, z :: zs, ha, hb, hc, h1, h2 => by
    simp only [D.lts, D.pls, Bool.and_eq_true] at ha hb hc h1 h2 ⊢
    by_cases e : x = y
    · subst e
      simp only [if_true] at h1
      by_cases e2 : x = z
      · subst e2
        simp only [if_true] at h2 ⊢
        exact D.lts_trans n xs ys zs ha.2 hb.2 hc.2 h1 h2
      · rw [if_neg e2] at h2 ⊢
        exact h2
    · rw [if_neg e] at h1
      by_cases e2 : y = z
      · subst e2
        rw [if_neg e]
        exact h1
      · rw [if_neg e2] at h2
        have h3 := D.lt_trans n x y z ha.1 hb.1 hc.1 h1 h2
        have e3 : x ≠ z := fun q => by
          subst q
          rw [D.lt_irrefl] at h3
          cases h3
        rw [if_neg e3]
        exact h3
end

/-- the first differing pair decides -/
def lexG (r : D → D → Bool) (z : Bool) : List D → List D → Bool
  | x :: xs, y :: ys => if x = y then lexG r z xs ys else r x y
  | _, _ => z
theorem lts_lexG : ∀ xs ys : List D, D.lts xs ys = lexG D.lt (decide (xs.length < ys.length)) xs ys
  | [], [] => by simp [D.lts, lexG]
  | [], _ :: _ => by simp [D.lts, lexG]
  | _ :: _, [] => by simp [D.lts, lexG]
  | x :: xs, y :: ys => by
    simp only [D.lts, lexG, List.length_cons, Nat.add_lt_add_iff_right]
    rw [lts_lexG xs ys]
theorem nlts_lexG : ∀ xs ys : List D, (!D.lts ys xs) = lexG (fun x y => !D.lt y x) (decide (xs.length ≤ ys.length)) xs ys
  | [], [] => by simp [D.lts, lexG]
  | [], _ :: _ => by simp [D.lts, lexG]
  | _ :: _, [] => by simp [D.lts, lexG]
  | x :: xs, y :: ys => by
    simp only [D.lts, lexG, List.length_cons, Nat.add_le_add_iff_right]
    rw [← nlts_lexG xs ys]
    by_cases e : x = y
    · subst e; simp
    · rw [if_neg e, if_neg (Ne.symm e)]
theorem lexAt_lexG (r : D → D → Bool) (z : Bool) : ∀ (xs ys : List D) (e r' : Nat → Bool) (i : Nat), (∀ j x y, xs[j]? = some x → ys[j]? = some y → e (i + j) = decide (x = y) ∧ (x ≠ y → r' (i + j) = r x y)) →
    Ob.lexAt e r' z i (min xs.length ys.length) = lexG r z xs ys
  | [], ys, e, r', i, _ => by simp [lexG, Ob.lexAt]
  | x :: xs, [], e, r', i, _ => by simp [lexG, Ob.lexAt]
  | x :: xs, y :: ys, e, r', i, h => by
    have h0 := h 0 x y rfl rfl
    simp only [Nat.add_zero] at h0
    rw [List.length_cons, List.length_cons, Nat.add_min_add_right, Ob.lexAt_succ, h0.1]
    simp only [lexG, decide_eq_true_eq]
    by_cases q : x = y
    · rw [if_pos q, if_pos q]
      refine lexAt_lexG r z xs ys e r' (i + 1) fun j a b e1 e2 => ?_
      have := h (j + 1) a b (by simpa using e1) (by simpa using e2)
      rw [show i + 1 + j = i + (j + 1) by omega]
      exact this
    · rw [if_neg q, if_neg q]
      exact h0.2 q

mutual
theorem D.ord_comm : ∀ a b : D, D.ord a b = D.ord b a
  | .int _, .int _ => by simp [D.ord]
  | .tup xs, .tup ys => by simpa [D.ord] using D.ords_comm xs ys
  | .int _, b => by cases b <;> simp [D.ord]
  | .tup _, b => by
    cases b with
    | tup ys => rename_i xs; simpa [D.ord] using D.ords_comm xs ys
    | _ => simp [D.ord]
  | .non, b => by cases b <;> simp [D.ord]
  | .bl _, b => by cases b <;> simp [D.ord]
  | .str _, b => by cases b <;> simp [D.ord]
  | .lst _, b => by cases b <;> simp [D.ord]
  | .dci _ _, b => by cases b <;> simp [D.ord]
  | .dct _ _, b => by cases b <;> simp [D.ord]
  | .mref _, b => by cases b <;> simp [D.ord]
  | .exn _, b => by cases b <;> simp [D.ord]
  | .scr _, b => by cases b <;> simp [D.ord]
theorem D.ords_comm : ∀ a b : List D, D.ords a b = D.ords b a
  | [], [] => rfl
  | [], _ :: _ => by simp [D.ords]
  | _ :: _, [] => by simp [D.ords]
  | x :: xs, y :: ys => by simp only [D.ords]; rw [D.ord_comm x y, D.ords_comm xs ys]
end
theorem D.ords_get : ∀ {xs ys : List D} {j : Nat} {x y : D}, D.ords xs ys = true → xs[j]? = some x → ys[j]? = some y → D.ord x y = true
  | [], _, _, _, _, _, e, _ => by simp at e
  | _ :: _, [], _, _, _, _, _, e => by simp at e
  | a :: xs, b :: ys, 0, x, y, h, e1, e2 => by
    simp only [D.ords, Bool.and_eq_true] at h
    simp at e1 e2
    subst e1 e2
    exact h.1
  | a :: xs, b :: ys, j + 1, x, y, h, e1, e2 => by
    simp only [D.ords, Bool.and_eq_true] at h
    exact D.ords_get h.2 (by simpa using e1) (by simpa using e2)
theorem D.pls_get : ∀ {xs : List D} {n j : Nat} {x : D}, D.pls n xs = true → xs[j]? = some x → D.pl n x = true
  | [], _, _, _, _, e => by simp at e
  | a :: xs, n, 0, x, h, e => by
    simp only [D.pls, Bool.and_eq_true] at h
    simp at e; subst e; exact h.1
  | a :: xs, n, j + 1, x, h, e => by
    simp only [D.pls, Bool.and_eq_true] at h
    exact D.pls_get h.2 (by simpa using e)

/-! ### plain values as keys -/
mutual
theorem D.nk_inj : ∀ (n : Nat) (a b : D), D.pl n a = true → D.pl n b = true → a.nk = b.nk → a = b
  | _, .int a, .int b, _, _, h => by simp only [D.nk] at h; injection h with h; rw [h]
  | _, .int a, .tup b, _, _, h => by simp only [D.nk] at h; cases h
  | _, .tup a, .int b, _, _, h => by simp only [D.nk] at h; cases h
  | n + 1, .tup a, .tup b, ha, hb, h => by
    simp only [D.nk, D.pl] at h ha hb
    injection h with h
    rw [D.nks_inj n a b ha hb h]
theorem D.nks_inj : ∀ (n : Nat) (a b : List D), D.pls n a = true → D.pls n b = true → D.nks a = D.nks b → a = b
  | _, [], [], _, _, _ => rfl
  | _, [], _ :: _, _, _, h => by simp only [D.nks] at h; cases h
  | _, _ :: _, [], _, _, h => by simp only [D.nks] at h; cases h
  | n, x :: xs, y :: ys, ha, hb, h => by
    simp only [D.nks, D.pls, Bool.and_eq_true] at h ha hb
    injection h with h1 h2
    rw [D.nk_inj n x y ha.1 hb.1 h1, D.nks_inj n xs ys ha.2 hb.2 h2]
end
mutual
theorem D.nk_depth : ∀ (n : Nat) (a : D), D.pl n a = true → a.nk.depth ≤ n
  | n, .int a, _ => by simp [D.nk, NestedKey.depth]
  | n + 1, .tup a, h => by
    simp only [D.pl] at h
    simp only [D.nk, NestedKey.depth]
    have := D.nks_depth n a h
    omega
theorem D.nks_depth : ∀ (n : Nat) (a : List D), D.pls n a = true → NestedKey.depthAll (D.nks a) ≤ n
  | n, [], _ => by simp [D.nks, NestedKey.depthAll]
  | n, x :: xs, h => by
    simp only [D.pls, Bool.and_eq_true] at h
    simp only [D.nks, NestedKey.depthAll]
    exact Nat.max_le.mpr ⟨D.nk_depth n x h.1, D.nks_depth n xs h.2⟩
end
theorem D.nks_get : ∀ {xs : List D} {j : Nat} {x : D}, xs[j]? = some x → (D.nks xs)[j]? = some x.nk
  | [], _, _, e => by simp at e
  | a :: xs, 0, x, e => by simp at e; subst e; simp [D.nks]
  | a :: xs, j + 1, x, e => by simp only [D.nks, List.getElem?_cons_succ]; exact D.nks_get (by simpa using e)
theorem D.nks_map : ∀ xs : List D, D.nks xs = xs.map D.nk
  | [] => rfl
  | x :: xs => by simp [D.nks, D.nks_map xs]

mutual
theorem D.pl_mono : ∀ {d : D} {n m : Nat}, D.pl n d = true → n ≤ m → D.pl m d = true
  | .int _, _, _, _, _ => by simp [D.pl]
  | .tup xs, 0, _, h, _ => by simp [D.pl] at h
  | .tup xs, n + 1, 0, _, h => by omega
  | .tup xs, n + 1, m + 1, h, l => by
    simp only [D.pl] at h ⊢
    exact D.pls_mono h (by omega)
  | .non, n, _, h, _ => by cases n <;> simp [D.pl] at h
  | .bl _, n, _, h, _ => by cases n <;> simp [D.pl] at h
  | .str _, n, _, h, _ => by cases n <;> simp [D.pl] at h
  | .lst _, n, _, h, _ => by cases n <;> simp [D.pl] at h
  | .dci _ _, n, _, h, _ => by cases n <;> simp [D.pl] at h
  | .dct _ _, n, _, h, _ => by cases n <;> simp [D.pl] at h
  | .mref _, n, _, h, _ => by cases n <;> simp [D.pl] at h
  | .exn _, n, _, h, _ => by cases n <;> simp [D.pl] at h
  | .scr _, n, _, h, _ => by cases n <;> simp [D.pl] at h
theorem D.pls_mono : ∀ {d : List D} {n m : Nat}, D.pls n d = true → n ≤ m → D.pls m d = true
  | [], _, _, _, _ => by simp [D.pls]
  | x :: xs, n, m, h, l => by
    simp only [D.pls, Bool.and_eq_true] at h ⊢
    exact ⟨D.pl_mono h.1 l, D.pls_mono h.2 l⟩
end
section
variable {X : Cx} {pins : List (Addr × Obj)} {σ : L2.St} {H : Hp} {s : Shared} {c : Cn}

mutual
theorem Rp.nested (I : HOk X.prog X.w H s.heap) : ∀ (n : Nat) (d : D) (v : V) (u : Value), D.pl n d = true → Rp X.prog X.w X.K c H v d → RelV v u → NestedIs s.heap d.nk u
  | _, .int i, _, _, _, h, r => by
    cases h
    obtain ⟨t, rfl⟩ := r
    exact .int i t
  | n + 1, .tup xs, _, _, hp, h, r => by
    cases h with
    | tup h1 h2 h3 =>
      cases r
      obtain ⟨hz, its, rv, o, ho, hc, m, hd⟩ := I _ _ h1
      simp only [D.pl] at hp
      exact .tup ho hc hd (by simpa using Rps.nested I n xs _ its hp h3 rv)
theorem Rps.nested (I : HOk X.prog X.w H s.heap) : ∀ (n : Nat) (ds : List D) (vs : List V) (us : List Value), D.pls n ds = true → Rps X.prog X.w X.K c H vs ds → Vals vs us → NestedAll s.heap (D.nks ds) us
  | _, [], _, _, _, h, r => by
    cases h
    cases r
    exact .nil
  | n, d :: ds, _, _, hp, h, r => by
    cases h with
    | cons h1 h2 =>
      cases r with
      | cons r1 r2 =>
        simp only [D.pls, Bool.and_eq_true] at hp
        exact .cons (Rp.nested I n d _ _ hp.1 h1 r1) (Rps.nested I n ds _ _ hp.2 h2 r2)
end

theorem eqAt_D (I : HOk X.prog X.w H s.heap) {A : Around} {n m : Nat} {d e : D} {v v' : V} {u u' : Value} (hd : D.pl n d = true) (he : D.pl m e = true) (hu : A.units + n < cLine) (rd : Rp X.prog X.w X.K c H v d) (re : Rp X.prog X.w X.K c H v' e) (ru : RelV v u) (ru' : RelV v' u') :
    SeqAt.EqAt A s u u' (decide (d = e)) := by
  have h1 := Rp.nested I n d v u hd rd ru
  have h2 := Rp.nested I m e v' u' he re ru'
  have := eqAt_key d.nk e.nk A s u u' h1 h2 (Nat.lt_of_le_of_lt (Nat.add_le_add_left (Nat.le_trans (Nat.min_le_left _ _) (D.nk_depth n d hd)) _) hu)
  rw [← NestedKey.decide_eq] at this
  have e2 : decide (d.nk = e.nk) = decide (d = e) := by
    by_cases q : d = e
    · subst q; simp
    · have : ¬ d.nk = e.nk := fun z => q (D.nk_inj (max n m) d e (D.pl_mono hd (Nat.le_max_left _ _)) (D.pl_mono he (Nat.le_max_right _ _)) z)
      simp [q, this]
  rw [e2] at this
  exact this
theorem arr_get {us : List Value} {items : Array Value} (e : items = us.toArray) {j : Nat} (h : j < items.size) : us[j]? = some items[j] := by
  subst e
  simp at h ⊢
theorem in1_units {A : Around} {n : Nat} (h : A.units + (n + 1) < cLine) : A.in1.units + n < cLine := by
  rw [Around.in1_units]
  omega
theorem ord_cases {d e : D} (h : D.ord d e = true) : (∃ a b, d = .int a ∧ e = .int b) ∨ ∃ xs ys, d = .tup xs ∧ e = .tup ys := by
  cases d <;> cases e <;> simp [D.ord] at h ⊢
theorem rc_int {A : Around} {d e : D} {v v' : V} {u u' : Value} (hn : D.pl 0 d = true) (he : D.pl 0 e = true) (h1 : Rp X.prog X.w X.K c H v d) (h2 : Rp X.prog X.w X.K c H v' e) (r1 : RelV v u) (r2 : RelV v' u') : Ob.RcOp .Lt A s u u' (D.lt d e) := by
  cases d <;> simp [D.pl] at hn
  cases e <;> simp [D.pl] at he
  cases h1
  cases h2
  obtain ⟨t, rfl⟩ := r1
  obtain ⟨t', rfl⟩ := r2
  exact Ob.RcOp.lt_int _ _ t t'
theorem rc_int3 {A : Around} {d e : D} {v v' : V} {u u' : Value} (hn : D.pl 0 d = true) (he : D.pl 0 e = true) (h1 : Rp X.prog X.w X.K c H v d) (h2 : Rp X.prog X.w X.K c H v' e) (r1 : RelV v u) (r2 : RelV v' u') :
    Ob.RcOp .LtE A s u u' (!D.lt e d) ∧ Ob.RcOp .GtE A s u u' (!D.lt d e) ∧ Ob.RcOp .Gt A s u u' (D.lt e d) := by
  cases d <;> simp [D.pl] at hn
  cases e <;> simp [D.pl] at he
  rename_i a b
  cases h1
  cases h2
  obtain ⟨t, rfl⟩ := r1
  obtain ⟨t', rfl⟩ := r2
  refine ⟨?_, ?_, Ob.RcOp.gt_int a b t t'⟩
  · have e : (!D.lt (.int b) (.int a)) = decide (a ≤ b) := by
      simp only [D.lt]
      by_cases q : b < a
      · simp [q]
      · simp [q]; omega
    rw [e]
    exact Ob.RcOp.le_int a b t t'
  · have e : (!D.lt (.int a) (.int b)) = decide (b ≤ a) := by
      simp only [D.lt]
      by_cases q : a < b
      · simp [q]
      · simp [q]; omega
    rw [e]
    exact Ob.RcOp.ge_int a b t t'
theorem lexN : ∀ xs ys : List D, (!D.lts xs ys) = lexG (fun x y => !D.lt x y) (decide (ys.length ≤ xs.length)) xs ys
  | [], [] => by simp [D.lts, lexG]
  | [], _ :: _ => by simp [D.lts, lexG]
  | _ :: _, [] => by simp [D.lts, lexG]
  | x :: xs, y :: ys => by
    simp only [D.lts, lexG, List.length_cons, Nat.add_le_add_iff_right]
    rw [← lexN xs ys]
    by_cases e : x = y
    · subst e; simp
    · rw [if_neg e, if_neg e]
theorem lexM : ∀ xs ys : List D, D.lts ys xs = lexG (fun x y => D.lt y x) (decide (ys.length < xs.length)) xs ys
  | [], [] => by simp [D.lts, lexG]
  | [], _ :: _ => by simp [D.lts, lexG]
  | _ :: _, [] => by simp [D.lts, lexG]
  | x :: xs, y :: ys => by
    simp only [D.lts, lexG, List.length_cons, Nat.add_lt_add_iff_right]
    rw [← lexM xs ys]
    by_cases e : x = y
    · subst e; simp
    · rw [if_neg e, if_neg (Ne.symm e)]
theorem rc_lt (I : HOk X.prog X.w H s.heap) : ∀ (n : Nat) (A : Around) (d e : D) (v v' : V) (u u' : Value), D.pl n d = true → D.pl n e = true → D.ord d e = true → A.units + n < cLine →
    Rp X.prog X.w X.K c H v d → Rp X.prog X.w X.K c H v' e → RelV v u → RelV v' u' → Ob.RcOp .Lt A s u u' (D.lt d e) := by
  intro n
  induction n with
  | zero =>
    intro A d e v v' u u' p1 p2 ho hu h1 h2 r1 r2
    exact rc_int p1 p2 h1 h2 r1 r2
  | succ n ih =>
    intro A d e v v' u u' p1 p2 ho hu h1 h2 r1 r2
    rcases ord_cases ho with ⟨a, b, rfl, rfl⟩ | ⟨xs, ys, rfl, rfl⟩
    · exact rc_int (by simp [D.pl]) (by simp [D.pl]) h1 h2 r1 r2
    · cases h1 with
      | tup g1 _ q1 =>
        cases h2 with
        | tup g2 _ q2 =>
          cases r1
          cases r2
          obtain ⟨_, its, rv, t1⟩ := I _ _ g1
          obtain ⟨_, its', rv', t2⟩ := I _ _ g2
          simp only [D.pl] at p1 p2
          simp only [D.ord] at ho
          have l1 : its.toArray.size = xs.length := by simp [← rv.length, q1.length]
          have l2 : its'.toArray.size = ys.length := by simp [← rv'.length, q2.length]
          have key : ∀ j (h1 : j < its.toArray.size) (h2 : j < its'.toArray.size), ∃ x y v v', xs[j]? = some x ∧ ys[j]? = some y ∧ Rp X.prog X.w X.K c H v x ∧ Rp X.prog X.w X.K c H v' y ∧ RelV v its.toArray[j] ∧ RelV v' its'.toArray[j] := fun j h1 h2 => by
            have ex : xs[j]? = some xs[j] := List.getElem?_eq_getElem (by omega)
            have ey : ys[j]? = some ys[j] := List.getElem?_eq_getElem (by omega)
            obtain ⟨v, ev, rx⟩ := q1.get ex
            obtain ⟨v', ev', ry⟩ := q2.get ey
            obtain ⟨u, eu, ru⟩ := rv.get ev
            obtain ⟨u', eu', ru'⟩ := rv'.get ev'
            have := arr_get rfl h1
            rw [eu] at this
            cases this
            have := arr_get rfl h2
            rw [eu'] at this
            cases this
            exact ⟨_, _, v, v', ex, ey, rx, ry, ru, ru'⟩
          have := Ob.RcOp.tuples_lt (A := A) (s := s) (e := fun j => decide (xs[j]? = ys[j]?)) (r := fun j => D.lt (xs.getD j .non) (ys.getD j .non)) t1 t2 (by omega)
            (fun j h1 h2 => by
              obtain ⟨x, y, v, v', ex, ey, rx, ry, ru, ru'⟩ := key j h1 h2
              rw [ex, ey]
              have q := eqAt_D (A := A.in1) I (D.pls_get p1 ex) (D.pls_get p2 ey) (in1_units hu) rx ry ru ru'
              simpa using q)
            (fun j h1 h2 _ => by
              obtain ⟨x, y, v, v', ex, ey, rx, ry, ru, ru'⟩ := key j h1 h2
              have q := ih A.in1 x y v v' _ _ (D.pls_get p1 ex) (D.pls_get p2 ey) (D.ords_get ho ex ey) (in1_units hu) rx ry ru ru'
              rw [List.getD_eq_getElem?_getD, List.getD_eq_getElem?_getD, ex, ey]
              exact q)
          rw [l1, l2, lexAt_lexG D.lt _ xs ys _ _ 0 (fun j x y e1 e2 => by
            simp only [Nat.zero_add]
            rw [e1, e2]
            refine ⟨by simp, fun _ => ?_⟩
            rw [List.getD_eq_getElem?_getD, List.getD_eq_getElem?_getD, e1, e2]
            rfl)] at this
          simp only [D.lt]
          rw [lts_lexG]
          exact this
theorem rc_le (I : HOk X.prog X.w H s.heap) : ∀ (n : Nat) (A : Around) (d e : D) (v v' : V) (u u' : Value), D.pl n d = true → D.pl n e = true → D.ord d e = true → A.units + n < cLine →
    Rp X.prog X.w X.K c H v d → Rp X.prog X.w X.K c H v' e → RelV v u → RelV v' u' → Ob.RcOp .LtE A s u u' (!D.lt e d) ∧ Ob.RcOp .GtE A s u u' (!D.lt d e) ∧ Ob.RcOp .Gt A s u u' (D.lt e d) := by
  intro n
  induction n with
  | zero =>
    intro A d e v v' u u' p1 p2 ho hu h1 h2 r1 r2
    exact rc_int3 p1 p2 h1 h2 r1 r2
  | succ n ih =>
    intro A d e v v' u u' p1 p2 ho hu h1 h2 r1 r2
    rcases ord_cases ho with ⟨a, b, rfl, rfl⟩ | ⟨xs, ys, rfl, rfl⟩
    · exact rc_int3 (by simp [D.pl]) (by simp [D.pl]) h1 h2 r1 r2
    · cases h1 with
      | tup g1 _ q1 =>
        cases h2 with
        | tup g2 _ q2 =>
          cases r1
          cases r2
          obtain ⟨_, its, rv, t1⟩ := I _ _ g1
          obtain ⟨_, its', rv', t2⟩ := I _ _ g2
          simp only [D.pl] at p1 p2
          simp only [D.ord] at ho
          have l1 : its.toArray.size = xs.length := by simp [← rv.length, q1.length]
          have l2 : its'.toArray.size = ys.length := by simp [← rv'.length, q2.length]
          have key : ∀ j (h1 : j < its.toArray.size) (h2 : j < its'.toArray.size), ∃ x y v v', xs[j]? = some x ∧ ys[j]? = some y ∧ Rp X.prog X.w X.K c H v x ∧ Rp X.prog X.w X.K c H v' y ∧ RelV v its.toArray[j] ∧ RelV v' its'.toArray[j] := fun j h1 h2 => by
            have ex : xs[j]? = some xs[j] := List.getElem?_eq_getElem (by omega)
            have ey : ys[j]? = some ys[j] := List.getElem?_eq_getElem (by omega)
            obtain ⟨v, ev, rx⟩ := q1.get ex
            obtain ⟨v', ev', ry⟩ := q2.get ey
            obtain ⟨u, eu, ru⟩ := rv.get ev
            obtain ⟨u', eu', ru'⟩ := rv'.get ev'
            have := arr_get rfl h1
            rw [eu] at this
            cases this
            have := arr_get rfl h2
            rw [eu'] at this
            cases this
            exact ⟨_, _, v, v', ex, ey, rx, ry, ru, ru'⟩
          have heq : ∀ j (h1 : j < its.toArray.size) (h2 : j < its'.toArray.size), SeqAt.EqAt A.in1 s its.toArray[j] its'.toArray[j] (decide (xs[j]? = ys[j]?)) := fun j h1 h2 => by
            obtain ⟨x, y, v, v', ex, ey, rx, ry, ru, ru'⟩ := key j h1 h2
            rw [ex, ey]
            have q := eqAt_D (A := A.in1) I (D.pls_get p1 ex) (D.pls_get p2 ey) (in1_units hu) rx ry ru ru'
            simpa using q
          have all := fun j (h1 : j < its.toArray.size) (h2 : j < its'.toArray.size) => (show Ob.RcOp .LtE A.in1 s its.toArray[j] its'.toArray[j] (!D.lt (ys.getD j .non) (xs.getD j .non)) ∧ Ob.RcOp .GtE A.in1 s its.toArray[j] its'.toArray[j] (!D.lt (xs.getD j .non) (ys.getD j .non)) ∧ Ob.RcOp .Gt A.in1 s its.toArray[j] its'.toArray[j] (D.lt (ys.getD j .non) (xs.getD j .non)) from by
            obtain ⟨x, y, v, v', ex, ey, rx, ry, ru, ru'⟩ := key j h1 h2
            have q := ih A.in1 x y v v' _ _ (D.pls_get p1 ex) (D.pls_get p2 ey) (D.ords_get ho ex ey) (in1_units hu) rx ry ru ru'
            rw [List.getD_eq_getElem?_getD, List.getD_eq_getElem?_getD, ex, ey]
            exact q)
          have k1 := Ob.RcOp.tuples_le (A := A) (s := s) (e := fun j => decide (xs[j]? = ys[j]?)) (r := fun j => !D.lt (ys.getD j .non) (xs.getD j .non)) t1 t2 (by omega) heq (fun j h1 h2 _ => (all j h1 h2).1)
          have k2 := Ob.RcOp.tuples_ge (A := A) (s := s) (e := fun j => decide (xs[j]? = ys[j]?)) (r := fun j => !D.lt (xs.getD j .non) (ys.getD j .non)) t1 t2 (by omega) heq (fun j h1 h2 _ => (all j h1 h2).2.1)
          have k3 := Ob.RcOp.tuples_gt (A := A) (s := s) (e := fun j => decide (xs[j]? = ys[j]?)) (r := fun j => D.lt (ys.getD j .non) (xs.getD j .non)) t1 t2 (by omega) heq (fun j h1 h2 _ => (all j h1 h2).2.2)
          rw [l1, l2] at k1 k2 k3
          have lem : ∀ (r : D → D → Bool) (z : Bool), Ob.lexAt (fun j => decide (xs[j]? = ys[j]?)) (fun j => r (xs.getD j .non) (ys.getD j .non)) z 0 (min xs.length ys.length) = lexG r z xs ys := fun r z =>
            lexAt_lexG r z xs ys _ _ 0 (fun j x y e1 e2 => by
              simp only [Nat.zero_add]
              rw [e1, e2]
              refine ⟨by simp, fun _ => ?_⟩
              rw [List.getD_eq_getElem?_getD, List.getD_eq_getElem?_getD, e1, e2]
              rfl)
          rw [lem (fun x y => !D.lt y x)] at k1
          rw [lem (fun x y => !D.lt x y)] at k2
          rw [lem (fun x y => D.lt y x)] at k3
          simp only [D.lt]
          refine ⟨?_, ?_, ?_⟩
          · rw [nlts_lexG]; exact k1
          · have e : (!D.lts xs ys) = lexG (fun x y => !D.lt x y) (decide (ys.length ≤ xs.length)) xs ys := lexN xs ys
            rw [e]; exact k2
          · have e : D.lts ys xs = lexG (fun x y => D.lt y x) (decide (ys.length < xs.length)) xs ys := lexM xs ys
            rw [e]; exact k3
end
end NW
set_option autoImplicit false
set_option linter.all false
set_option maxRecDepth 100000
/-! NwOp2: == and in of deep values, comparisons. -/
namespace NW
open PySem PyProof.Rows L2
mutual
def D.pd : D → PyData
  | .bl b => .bool b
  | .int i => .int i
  | .tup xs => .tuple (D.pds xs)
  | .lst xs => .list (D.pds xs)
  | _ => .none
def D.pds : List D → List PyData
  | [] => []
  | x :: xs => D.pd x :: D.pds xs
end
mutual
theorem D.pd_lay : ∀ (n : Nat) (d : D), D.da n d = true → d.pd.canLay0 = true ∧ d.pd.depth ≤ n
  | n, .non, _ => by simp [D.pd, PyData.canLay0, PyData.depth]
  | n, .bl b, _ => by simp [D.pd, PyData.canLay0, PyData.depth]
  | n, .int b, _ => by simp [D.pd, PyData.canLay0, PyData.depth]
  | n + 1, .tup xs, h => by
    simp only [D.da] at h
    have := D.pds_lay n xs h
    simp only [D.pd, PyData.canLay0, PyData.depth]
    exact ⟨this.1, by omega⟩
  | n + 1, .lst xs, h => by
    simp only [D.da] at h
    have := D.pds_lay n xs h
    simp only [D.pd, PyData.canLay0, PyData.depth]
    exact ⟨this.1, by omega⟩
theorem D.pds_lay : ∀ (n : Nat) (d : List D), D.das n d = true → PyData.canLayAll0 (D.pds d) = true ∧ PyData.depthAll (D.pds d) ≤ n
  | n, [], _ => by simp [D.pds, PyData.canLayAll0, PyData.depthAll]
  | n, x :: xs, h => by
    simp only [D.das, Bool.and_eq_true] at h
    have h1 := D.pd_lay n x h.1
    have h2 := D.pds_lay n xs h.2
    simp only [D.pds, PyData.canLayAll0, PyData.depthAll, Bool.and_eq_true]
    exact ⟨⟨h1.1, h2.1⟩, Nat.max_le.mpr ⟨h1.2, h2.2⟩⟩
end
theorem D.shaped {n : Nat} {d : D} (h : D.da n d = true) (hn : n ≤ 64) : SeqAt.shaped d.pd = true := by
  have := D.pd_lay n d h
  unfold SeqAt.shaped
  rw [this.1, Bool.true_and, decide_eq_true_eq]
  omega
mutual
theorem D.eqv_pd : ∀ (n m : Nat) (a b : D), D.da n a = true → D.da m b = true → PyData.eqv a.pd b.pd = D.eqv a b
  | n, m, .non, b, _, hb => by cases m <;> cases b <;> first | (simp [D.da] at hb; done) | simp [D.pd, PyData.eqv, D.eqv]
  | n, m, .bl a, b, _, hb => by cases m <;> cases b <;> first | (simp [D.da] at hb; done) | simp [D.pd, PyData.eqv, D.eqv]
  | n, m, .int a, b, _, hb => by cases m <;> cases b <;> first | (simp [D.da] at hb; done) | simp [D.pd, PyData.eqv, D.eqv]
  | n + 1, m, .tup a, b, ha, hb => by
    cases m with
    | zero => cases b <;> first | (simp [D.da] at hb; done) | simp [D.pd, PyData.eqv, D.eqv]
    | succ m =>
      cases b with
      | tup b =>
        simp only [D.da] at ha hb
        simp only [D.pd, PyData.eqv, D.eqv]
        exact D.eqvs_pds n m a b ha hb
      | _ => first | (simp [D.da] at hb; done) | simp [D.pd, PyData.eqv, D.eqv]
  | n + 1, m, .lst a, b, ha, hb => by
    cases m with
    | zero => cases b <;> first | (simp [D.da] at hb; done) | simp [D.pd, PyData.eqv, D.eqv]
    | succ m =>
      cases b with
      | lst b =>
        simp only [D.da] at ha hb
        simp only [D.pd, PyData.eqv, D.eqv]
        exact D.eqvs_pds n m a b ha hb
      | _ => first | (simp [D.da] at hb; done) | simp [D.pd, PyData.eqv, D.eqv]
theorem D.eqvs_pds : ∀ (n m : Nat) (a b : List D), D.das n a = true → D.das m b = true → PyData.eqvAll (D.pds a) (D.pds b) = D.eqvs a b
  | n, m, [], [], _, _ => by simp [D.pds, PyData.eqvAll, D.eqvs]
  | n, m, [], _ :: _, _, _ => by simp [D.pds, PyData.eqvAll, D.eqvs]
  | n, m, _ :: _, [], _, _ => by simp [D.pds, PyData.eqvAll, D.eqvs]
  | n, m, x :: xs, y :: ys, ha, hb => by
    simp only [D.das, Bool.and_eq_true] at ha hb
    simp only [D.pds, PyData.eqvAll, D.eqvs]
    rw [D.eqv_pd n m x y ha.1 hb.1, D.eqvs_pds n m xs ys ha.2 hb.2]
end
theorem D.pds_map : ∀ xs : List D, D.pds xs = xs.map D.pd
  | [] => rfl
  | x :: xs => by simp [D.pds, D.pds_map xs]

section
variable {P : Program} {w : World} {K : PySem.W.Frag} {c : Cn} {H : Hp}
mutual
theorem Rp.dp : ∀ (n : Nat) (d : D) (v : V), D.da n d = true → Rp P w K c H v d → Dp K H v d.pd
  | _, .non, _, _, h => by cases h; exact .non
  | _, .bl b, _, _, h => by cases h; exact .bl b
  | _, .int i, _, _, h => by cases h; exact .int i
  | n + 1, .tup xs, _, hd, h => by
    cases h with
    | tup h1 _ h3 =>
      simp only [D.da] at hd
      exact .tup (SqT.of h1) (Rps.dp n xs _ hd h3)
  | n + 1, .lst xs, _, hd, h => by
    cases h with
    | lst h1 _ h3 =>
      simp only [D.da] at hd
      exact .lst (SqL.of h1) (Rps.dp n xs _ hd h3)
theorem Rps.dp : ∀ (n : Nat) (d : List D) (v : List V), D.das n d = true → Rps P w K c H v d → DpAll K H v (D.pds d)
  | _, [], _, _, h => by cases h; exact .nil
  | n, x :: xs, _, hd, h => by
    cases h with
    | cons h1 h2 =>
      simp only [D.das, Bool.and_eq_true] at hd
      exact .cons (Rp.dp n x _ hd.1 h1) (Rps.dp n xs _ hd.2 h2)
end
end

/-- the key's value among the entries -/
theorem atKey_get {es : List Ent} {xs : List (NestedKey × Addr × Value)} {k : D} (hk : keyT k = true) (r : Paired EntR es xs) (hks : ∀ e ∈ es, keyT e.1 = true) :
    (atKey xs k.nk = none ∧ getT (es.map (·.1)) (es.map fun e => e.1) k = none ∧ k ∉ es.map (·.1)) ∨
      ∃ (j : Nat) (e : Ent) (x : NestedKey × Addr × Value), es[j]? = some e ∧ e.1 = k ∧ atKey xs k.nk = some x.2 ∧ EntR e x ∧ (∀ vs : List D, vs.length = es.length → getT (es.map (·.1)) vs k = vs[j]?) := by
  have pl8 : ∀ {d : D}, keyT d = true → D.pl 8 d = true := fun {d} h => by
    unfold keyT at h
    cases d <;> simp at h ⊢
    exact h
  induction r with
  | nil => exact .inl ⟨rfl, rfl, by simp⟩
  | cons q t ih =>
    rename_i e x es xs
    obtain ⟨q1, q2, q3⟩ := q
    have hke : keyT e.1 = true := hks e List.mem_cons_self
    by_cases he : e.1 = k
    · refine .inr ⟨0, e, x, rfl, he, ?_, ⟨q1, q2, q3⟩, fun vs hl => ?_⟩
      · unfold atKey
        have : x.1 = k.nk := by rw [q1, he]
        obtain ⟨x1, x2, x3⟩ := x
        simp only at this
        simp [List.find?, this]
      · cases vs with
        | nil => simp at hl
        | cons v vs => simp [getT, he]
    · have hx : ¬ x.1 = k.nk := fun z => he (D.nk_inj 8 e.1 k (pl8 hke) (pl8 hk) (q1.symm.trans z))
      have e1 : atKey (x :: xs) k.nk = atKey xs k.nk := by
        obtain ⟨x1, x2, x3⟩ := x
        simp only at hx
        simp [atKey, hx]
      rcases ih (fun e he => hks e (List.mem_cons_of_mem _ he)) with ⟨h1, h2, h3⟩ | ⟨j, e', x', h1, h2, h3, h4, h5⟩
      · refine .inl ⟨e1.trans h1, ?_, ?_⟩
        · simp only [getT, List.map_cons, List.zip_cons_cons, List.find?_cons, he, decide_false] at h2 ⊢
          exact h2
        · rw [List.map_cons, List.mem_cons]
          rintro (z | z)
          · exact he z.symm
          · exact h3 z
      · refine .inr ⟨j + 1, e', x', by simpa using h1, h2, e1.trans h3, h4, fun vs hl => ?_⟩
        cases vs with
        | nil => simp at hl
        | cons v vs =>
          have := h5 vs (by simpa using hl)
          simp only [getT, List.map_cons, List.zip_cons_cons, List.find?_cons, he, decide_false] at this ⊢
          rw [this]
          simp

section
variable {X : Cx} {pins : List (Addr × Obj)} {σ : L2.St} {H : Hp} {s : Shared} {c : Cn}
theorem rawT_dict (I : Inv X pins σ H s) {a : Addr} {es : List Ent} {ks : List D} (h : H a = some (rawT X.prog X.w a es)) (hk : es.map (·.1) = ks) (kt : ∀ k ∈ ks, keyT k = true)
    (r : Rps X.prog X.w X.K c H (es.map fun e => .ref e.2.1) ks) : ∃ xs, Paired EntR es xs ∧ s.heap.DictOfH (nestedKind X.prog X.w) a xs ∧ (a == sysModules) = false ∧ es.length ≤ sizeLine := by
  obtain ⟨⟨o, ent, ep, xs, h1, h2, h3, h4, h5, h6, h7, h8⟩, _⟩ := I.hok a _ h
  refine ⟨xs, h6, ⟨o, ent, ep, h1, h2, h3, h7, fun x hx => ?_, h8⟩, h4, h5⟩
  have key : ∀ {es : List Ent} {xs : List (NestedKey × Addr × Value)} {ks : List D}, Paired EntR es xs → es.map (·.1) = ks → (∀ k ∈ ks, keyT k = true) → Rps X.prog X.w X.K c H (es.map fun e => .ref e.2.1) ks → ∀ x ∈ xs, (nestedKind X.prog X.w).is s.heap x.1 x.2.1 := by
    intro es xs ks p
    induction p generalizing ks with
    | nil => intro _ _ _ x hx; cases hx
    | cons q t ih =>
      rename_i e x es xs
      intro hk kt r y hy
      cases ks with
      | nil => simp at hk
      | cons k ks =>
        simp only [List.map_cons, List.cons.injEq] at hk
        cases r with
        | cons r1 r2 =>
          rcases List.mem_cons.mp hy with rfl | hy
          · obtain ⟨q1, q2, q3⟩ := q
            have hkt := kt k List.mem_cons_self
            have p8 : D.pl 8 k = true := by
              unfold keyT at hkt
              cases k <;> simp at hkt ⊢
              exact hkt
            rw [q1, q2, hk.1]
            exact ⟨Rp.nested I.hok 8 k _ (.ref e.2.1) p8 r1 rfl, D.nk_depth 8 k p8⟩
          · exact ih hk.2 (fun k' h' => kt k' (List.mem_cons_of_mem _ h')) r2 y hy
  exact key h6 hk kt r x hx
theorem key_is (I : Inv X pins σ H s) {k : D} {v : V} {u : Value} (hk : keyT k = true) (r : Rp X.prog X.w X.K c H v k) (ru : RelV v u) : ∃ b, u = .ref b ∧ v = .ref b ∧ (nestedKind X.prog X.w).is s.heap k.nk b := by
  have p8 : D.pl 8 k = true := by
    unfold keyT at hk
    cases k <;> simp at hk ⊢
    exact hk
  have hn := Rp.nested I.hok 8 k v u p8 r ru
  cases r with
  | tup h1 h2 h3 =>
    cases ru
    exact ⟨_, rfl, rfl, hn, D.nk_depth 8 _ p8⟩
  | _ => simp [keyT] at hk
theorem room8 {A : Around} (hu : A.units + 64 < cLine) : (nestedKind X.prog X.w).room A.in1 := by
  show A.in1.units + 8 < cLine
  rw [Around.in1_units]
  omega

theorem valV_find (kvs : List (Key × V)) (ks : List Int) (hk : kvs.map (·.1) = ks.map Sum.inl) (k : Int) : (valV kvs (.inl k)).isSome = decide (k ∈ ks) := by
  induction kvs generalizing ks with
  | nil =>
    cases ks with
    | nil => simp [valV]
    | cons _ _ => simp at hk
  | cons p kvs ih =>
    cases ks with
    | nil => simp at hk
    | cons j ks =>
      simp only [List.map_cons, List.cons.injEq] at hk
      have := ih ks hk.2
      unfold valV at this ⊢
      rw [List.find?_cons]
      by_cases e : j = k
      · subst e
        rw [hk.1]
        simp
      · have e2 : decide (p.1 = Sum.inl k) = false := by
          rw [hk.1]
          simp only [decide_eq_false_iff_not]
          intro z
          injection z with z
          exact e z
        rw [e2]
        simp only [List.mem_cons]
        rw [this]
        by_cases m : k ∈ ks
        · simp [m]
        · simp [m, Ne.symm e]

/-- in, not in -/
theorem in_D (I : Inv X pins σ H s) (hu : X.A.units + 65 < cLine) {n : Bool} {d e : D} {v v' : V} {u u' : Value} {b : Bool} {Q : VK} (rd : Rp X.prog X.w X.K c H v d) (re : Rp X.prog X.w X.K c H v' e) (ru : RelV v u) (ru' : RelV v' u')
    (h : cmpD (if n then .nin else .inn) d e = some b) (hq : Q (.bl b) H) : wpAny (model X.prog X.w) X.A (compareOp (if n then .NotIn else .In) u u') (EP X pins σ Q) X.xe s := by
  have seq : ∀ (xs : List D) (isL : Bool), e = (if isL then .lst xs else .tup xs) → wpAny (model X.prog X.w) X.A (compareOp (if n then .NotIn else .In) u u') (EP X pins σ Q) X.xe s := by
    intro xs isL he
    have hx : (inL d xs).map (fun r => if n then !r else r) = some b := by
      subst he
      cases n <;> cases isL <;> simpa [cmpD] using h
    obtain ⟨r, hr, hb⟩ := Option.map_eq_some_iff.mp hx
    unfold inL at hr
    split at hr
    · rename_i hda
      simp only [Bool.and_eq_true] at hda
      simp only [Option.some.injEq] at hr
      have hdL : D.da 61 e = true := by
        subst he
        cases isL with
        | true => exact hda.2
        | false => simpa [D.da] using hda.2
      have e1 : (D.pds xs).any (fun z => PyData.eqv z d.pd) = r := by
        rw [← hr, D.pds_map, List.any_map]
        have hds : D.das 60 xs = true := by simpa [D.da] using hda.2
        have : ∀ (ys : List D), D.das 60 ys = true → ys.any ((fun z => PyData.eqv z d.pd) ∘ D.pd) = ys.any fun z => D.eqv z d := by
          intro ys
          induction ys with
          | nil => simp
          | cons y ys ih =>
            intro hy
            simp only [D.das, Bool.and_eq_true] at hy
            simp only [List.any_cons, Function.comp]
            rw [D.eqv_pd 60 60 y d hy.1 hda.1, ih hy.2]
        exact this xs hds
      obtain ⟨as, r1⟩ := Dp.reads I d.pd v u (Rp.dp 60 d v hda.1 rd) ru
      obtain ⟨bs, r2⟩ := Dp.reads I e.pd v' u' (Rp.dp 61 e v' hdL re) ru'
      have s1 := D.shaped hda.1 (by omega)
      have s2 := D.shaped hdL (by omega)
      subst he
      cases isL with
      | true =>
        simp only [if_true, D.pd] at r2 s2
        cases n with
        | false =>
          simp only [Bool.false_eq_true, if_false] at hb ⊢
          refine SeqAt.in_list_reads r2 r1 (SeqAt.canLay_of_shaped s2) (SeqAt.canLay_of_shaped s1) (PyProof.Rows.room_in_shaped s1 hu) ?_
          rw [e1, hb]
          exact ⟨.bl b, H, I, rfl, hq⟩
        | true =>
          simp only [if_true] at hb ⊢
          refine SeqAt.notIn_list_reads r2 r1 (SeqAt.canLay_of_shaped s2) (SeqAt.canLay_of_shaped s1) (PyProof.Rows.room_in_shaped s1 hu) ?_
          rw [e1, hb]
          exact ⟨.bl b, H, I, rfl, hq⟩
      | false =>
        simp only [Bool.false_eq_true, if_false, D.pd] at r2 s2
        cases n with
        | false =>
          simp only [Bool.false_eq_true, if_false] at hb ⊢
          refine SeqAt.in_tuple_reads r2 r1 (SeqAt.canLay_of_shaped s2) (SeqAt.canLay_of_shaped s1) (PyProof.Rows.room_in_shaped s1 hu) ?_
          rw [e1, hb]
          exact ⟨.bl b, H, I, rfl, hq⟩
        | true =>
          simp only [if_true] at hb ⊢
          refine SeqAt.notIn_tuple_reads r2 r1 (SeqAt.canLay_of_shaped s2) (SeqAt.canLay_of_shaped s1) (PyProof.Rows.room_in_shaped s1 hu) ?_
          rw [e1, hb]
          exact ⟨.bl b, H, I, rfl, hq⟩
    · cases hr
  have hu1 : X.A.units + 1 < cLine := by omega
  cases e with
  | lst xs => exact seq xs true rfl
  | tup xs => exact seq xs false rfl
  | dci ks ds =>
    cases re with
    | dci h1 h2 h3 h4 =>
      cases ru'
      cases d with
      | int k =>
        cases rd
        have hb : (if n then !decide (k ∈ ks) else decide (k ∈ ks)) = b := by
          cases n <;> simpa [cmpD] using h
        have ev := valV_find _ _ h3 k
        cases n with
        | false =>
          refine d_in hu1 I (DGet.k (k := .inl k) h1) ru fun s3 I3 => ?_
          rw [ev]
          simp only [Bool.false_eq_true, if_false] at hb
          rw [hb]
          exact ⟨.bl b, H, I3, rfl, hq⟩
        | true =>
          refine d_notIn hu1 I (DGet.k (k := .inl k) h1) ru fun s3 I3 => ?_
          rw [ev]
          simp only [if_true] at hb
          rw [hb]
          exact ⟨.bl b, H, I3, rfl, hq⟩
      | _ => cases n <;> simp [cmpD] at h
  | dct ks ds =>
    cases re with
    | dct h1 h2 h3 h4 h5 h6 =>
      cases ru'
      have hkt : keyT d = true := by
        cases q : keyT d with
        | true => rfl
        | false => cases n <;> simp [cmpD, q] at h
      have hb : (if n then !decide (d ∈ ks) else decide (d ∈ ks)) = b := by
        cases n <;> simpa [cmpD, hkt] using h
      obtain ⟨xs, p, dd, hsm, _⟩ := rawT_dict I h1 h3 h4 h5
      obtain ⟨bb, rfl, rfl, kis⟩ := key_is I hkt rd ru
      have hm : (atKey xs d.nk).isSome = decide (d ∈ ks) := by
        subst h3
        rcases atKey_get hkt p (fun e he => h4 _ (List.mem_map.mpr ⟨e, he, rfl⟩)) with ⟨q1, _, q3⟩ | ⟨j, e, x, q1, q2, q3, _⟩
        · rw [q1]; simp only [Option.isSome_none]; exact (decide_eq_false q3).symm
        · rw [q3]; simp only [Option.isSome_some]; exact (decide_eq_true (List.mem_map.mpr ⟨e, List.mem_of_getElem? q1, q2⟩)).symm
      cases n with
      | false =>
        refine wpAny_in_heap (room8 (by omega)) kis hsm dd ?_
        rw [hm]
        simp only [Bool.false_eq_true, if_false] at hb
        rw [hb]
        exact ⟨.bl b, H, I.tok _, rfl, hq⟩
      | true =>
        refine PyProof.Rows.wpAny_notIn_heap (room8 (by omega)) kis hsm dd ?_
        rw [hm]
        simp only [if_true] at hb
        rw [hb]
        exact ⟨.bl b, H, I.tok _, rfl, hq⟩
  | _ => cases n <;> simp [cmpD] at h

def COp.py : COp → CmpOp
  | .lt => .Lt
  | .le => .LtE
  | .gt => .Gt
  | .ge => .GtE
  | .eq => .Eq
  | .ne => .NotEq
  | .inn => .In
  | .nin => .NotIn

theorem cmp_D (I : Inv X pins σ H s) (hu : X.A.units + 65 < cLine) {op : COp} {d e : D} {v v' : V} {u u' : Value} {b : Bool} {Q : VK} (rd : Rp X.prog X.w X.K c H v d) (re : Rp X.prog X.w X.K c H v' e) (ru : RelV v u) (ru' : RelV v' u')
    (h : cmpD op d e = some b) (hq : Q (.bl b) H) : wpAny (model X.prog X.w) X.A (compareOp op.py u u') (EP X pins σ Q) X.xe s := by
  have fin : EP X pins σ Q (.bool b) s := ⟨.bl b, H, I, rfl, hq⟩
  have ordc : ∀ {d e : D} {b : Bool}, ltD d e = some b → D.pl 60 d = true ∧ D.pl 60 e = true ∧ D.ord d e = true ∧ D.lt d e = b := by
    intro d e b h
    unfold ltD at h
    split at h
    · rename_i q
      simp only [Bool.and_eq_true] at q
      exact ⟨q.1.1, q.1.2, q.2, by simpa using h⟩
    · cases h
  cases op with
  | lt =>
    obtain ⟨h1, h2, h3, h4⟩ := ordc (show ltD d e = some b from h)
    subst h4
    exact rc_lt I.hok 60 X.A d e v v' u u' h1 h2 h3 (by omega) rd re ru ru' _ _ _ _ fin
  | gt =>
    obtain ⟨h1, h2, h3, h4⟩ := ordc (show ltD e d = some b from h)
    subst h4
    exact (rc_le I.hok 60 X.A d e v v' u u' h2 h1 (by rw [D.ord_comm]; exact h3) (by omega) rd re ru ru').2.2 _ _ _ _ fin
  | le =>
    obtain ⟨r, hr, hb⟩ := Option.map_eq_some_iff.mp (show (ltD e d).map (!·) = some b from h)
    obtain ⟨h1, h2, h3, h4⟩ := ordc hr
    subst h4
    have := (rc_le I.hok 60 X.A d e v v' u u' h2 h1 (by rw [D.ord_comm]; exact h3) (by omega) rd re ru ru').1
    rw [hb] at this
    exact this _ _ _ _ fin
  | ge =>
    obtain ⟨r, hr, hb⟩ := Option.map_eq_some_iff.mp (show (ltD d e).map (!·) = some b from h)
    obtain ⟨h1, h2, h3, h4⟩ := ordc hr
    subst h4
    have := (rc_le I.hok 60 X.A d e v v' u u' h1 h2 h3 (by omega) rd re ru ru').2.1
    rw [hb] at this
    exact this _ _ _ _ fin
  | eq =>
    have h : eqD d e = some b := h
    unfold eqD at h
    split at h
    · rename_i q
      simp only [Bool.and_eq_true] at q
      simp only [Option.some.injEq] at h
      refine op_eqD (X := X) (by omega) pins s σ H v v' u u' Q I ru ru' ⟨d.pd, e.pd, Rp.dp 60 d v q.1 rd, Rp.dp 60 e v' q.2 re, D.shaped q.1 (by omega), D.shaped q.2 (by omega), ?_⟩
      rw [D.eqv_pd 60 60 d e q.1 q.2, h]
      exact hq
    · cases h
  | ne =>
    obtain ⟨r, hr, hb⟩ := Option.map_eq_some_iff.mp (show (eqD d e).map (!·) = some b from h)
    unfold eqD at hr
    split at hr
    · rename_i q
      simp only [Bool.and_eq_true] at q
      simp only [Option.some.injEq] at hr
      refine op_neD (X := X) (by omega) pins s σ H v v' u u' Q I ru ru' ⟨d.pd, e.pd, Rp.dp 60 d v q.1 rd, Rp.dp 60 e v' q.2 re, D.shaped q.1 (by omega), D.shaped q.2 (by omega), ?_⟩
      rw [D.eqv_pd 60 60 d e q.1 q.2, hr, hb]
      exact hq
    · cases hr
  | inn => exact in_D (n := false) I hu rd re ru ru' h hq
  | nin => exact in_D (n := true) I hu rd re ru ru' h hq
end
end NW
set_option autoImplicit false
set_option linter.all false
set_option maxRecDepth 100000
set_option maxHeartbeats 4000000
/-! NwRep: tuple * 1. -/
namespace NW
open PySem PySem.Spec PyProof.Rows L2
theorem tuple_mul1 (l : Addr) (items : Array Value) (n : Nat) (dd : Option Addr) (sl : Array (Option Value)) (u : Tok) :
    Meets (Builtin.«tuple.__mul__» ⟨[.ref l, .int 1 u], []⟩) (fun _ R s => s.heap.get? l = some { cls := .type "tuple", dict := dd, data := .seq items n, slots := sl } ∧ R (.ok (.ret (Value.ref l))) s) :=
  .of_wp fun prog w A R s h => by
    obtain ⟨hp, g, d, tk, os⟩ := s
    obtain ⟨hl, h⟩ := h
    have f1 := AutoSeq1.idx_int
    have c0 : (decide ((1 : Int) < -(2 ^ 63)) || decide ((1 : Int) ≥ 2 ^ 63)) = false := by decide
    have c1 : (items.isEmpty || (1 : Int) == 1) = true := by simp
    wp_walk using wpAny_loadPart' hl
    repeat (first
      | (refine wpAny_ite_false (decide_eq_false (by rw [c0]; exact Bool.false_ne_true)) ?_; wp_walk using wpAny_loadPart' hl)
      | (refine wpAny_ite_true (decide_eq_true c1) ?_; wp_walk using wpAny_loadPart' hl))
    exact ⟨_, rfl, h⟩
def rRep1 (K : PySem.W.Frag) : R2 := fun x y H Q => ∃ l xs, x = .ref l ∧ y = .int 1 ∧ SqT K H l xs ∧ Q (.ref l) H
theorem op_rep1T {X : Cx} : OpR X (binaryOp .Mult) (rRep1 X.K) := by
  intro pins s σ H x y v u Q I rx ry h
  obtain ⟨l, xs, rfl, rfl, hT, q⟩ := h
  cases rx
  obtain ⟨t, rfl⟩ := ry
  obtain ⟨its, r, ⟨⟨cls, dd, data, sl⟩, ho, hc, n, hd⟩, hs⟩ := I.tuple hT
  simp only at hc hd
  subst hc hd
  refine wpAny_binaryOp_repeat_ref (T := "tuple") (U := "int") (by decide) ⟨_, ho, rfl⟩ (fun s' => typeIs_int s' 1 t) noFill_tuple_mul F.fills_int_mul F.slot_int_rmul repeat_tuple F.slot_int_index.lookup
    (call_meets F.slot_int_rmul (typeIs_int s 1 t) F.entry_int_rmul (F.args_int_rmul_2 _ _) (int_rmul_tuple 1 t l its.toArray n dd sl)
      ⟨ho, rfl, ⟨_, ho, rfl⟩, call_meets F.slot_tuple_mul ⟨_, ho, rfl⟩ F.entry_tuple_mul (F.args_tuple_mul_2 _ _) (tuple_mul1 l its.toArray n dd sl t) ⟨ho, ?_⟩⟩)
  exact ⟨.ref l, H, I, rfl, q⟩
end NW
set_option autoImplicit false
set_option linter.all false
set_option maxRecDepth 100000
/-! NwOp3: arithmetic, items, built-in calls. -/
namespace NW
open PySem PyProof.Rows L2

/-- a result of an operator: no list unless it is new -/
inductive Out (P : Program) (w : World) (K : PySem.W.Frag) (c : Cn) (H : Hp) : D → V → Hp → Prop
  | same {d : D} {v : V} : cellOf d = none → Rp P w K c H v d → Out P w K c H d v H
  | tup {p : Addr} {vs : List V} {ds : List D} : H p = none → Rps P w K c H vs ds → Out P w K c H (.tup ds) (.ref p) (upd H p (.tup vs))
  | lst {p : Addr} {vs : List V} {ds : List D} : H p = none → Rps P w K c H vs ds → Out P w K c H (.lst ds) (.ref p) (upd H p (.lst vs))

theorem line_le : line ≤ sizeLine := by rw [sizeLine_eq]; decide
theorem endD_eq (n d : Nat) (o : Option Int) : endD n d o = HT.sIx n d o := by cases o <;> rfl
theorem ixD_eq (n : Nat) (i : Int) : ixD n i = ixN n i := rfl

/-- the end of a subscript, by what the item's look gives -/
theorem subT_any {prog : Program} {w : World} {A : Around} {E : Value → Shared → Prop} {s : Shared} {value slice : Expr} {o i : Value} {T id : String} {Q : Value → Shared → Prop} (hT : s.TypeIs o T)
    (hl : typeLookup (.type T) "__getitem__" = pure (some (.builtin id))) (h : wpAny (model prog w) A (getItem o i) Q E s) (hs : subscripted slice false o i = operate [o, i] (getItem o i)) : wpAny (model prog w) A (subscriptTail value slice o i) Q E s := by
  have f : wpAny (model prog w) A (subscripted slice false o i) (fun r t => wpAny (model prog w) A (letTemporaryGo value o r >>= fun _ => pure r) Q E t) E s := by
    rw [hs]
    exact wpAny_operating (wpAny_mono h (fun r t g => wpAny_bind (wpAny_letTemporaryGo (wpAny_pure g))) fun _ _ x => x)
  unfold subscriptTail; refine wpAny_bind ?_; rw [getitemInPython_of_ne hT.not_modules]; refine wpAny_bind (wpAny_specialOf hT hl ?_)
  first | exact wpAny_pure (wpAny_bind f) | exact wpAny_bind (wpAny_pure (wpAny_bind f)) | exact wpAny_bind f

section
variable {X : Cx} {pins : List (Addr × Obj)} {σ : L2.St} {H : Hp} {s : Shared} {c : Cn}

theorem bin_D (I : Inv X pins σ H s) {op : BOp} {d e r : D} {v v' : V} {u u' : Value} {Q : VK} (rd : Rp X.prog X.w X.K c H v d) (re : Rp X.prog X.w X.K c H v' e) (ru : RelV v u) (ru' : RelV v' u')
    (h : binD op d e = some r) (hq : ∀ z H', Out X.prog X.w X.K c H r z H' → Q z H') :
    wpAny (model X.prog X.w) X.A (binaryOp (match op with | .add => .Add | .sub => .Sub | .mul => .Mult | .fdiv => .FloorDiv | .mod => .Mod | .pow => .Pow) u u') (EP X pins σ Q) X.xe s := by
  cases d with
  | int i =>
    cases rd
    cases e with
    | int j =>
      cases re
      have fin : ∀ k : Int, r = .int k → Q (.int k) H := fun k e => hq _ _ (by rw [e]; exact .same rfl (.int k))
      cases op with
      | add =>
        simp only [binD, Option.some.injEq] at h
        exact op_add pins s σ H _ _ u u' Q I ru ru' ⟨i, j, rfl, rfl, fin _ h.symm⟩
      | sub =>
        simp only [binD, Option.some.injEq] at h
        exact op_sub pins s σ H _ _ u u' Q I ru ru' ⟨i, j, rfl, rfl, fin _ h.symm⟩
      | mul =>
        simp only [binD] at h
        split at h
        · rename_i hm
          simp only [Option.some.injEq] at h
          unfold mulOk at hm
          simp only [Bool.or_eq_true, Bool.and_eq_true, decide_eq_true_eq] at hm
          rcases hm with (hm | hm) | hm
          · exact op_mul pins s σ H _ _ u u' Q I ru ru' ⟨i, j, rfl, rfl, .inl hm, fin _ h.symm⟩
          · exact op_mul pins s σ H _ _ u u' Q I ru ru' ⟨i, j, rfl, rfl, .inr hm, fin _ h.symm⟩
          · exact op_mulW pins s σ H _ _ u u' Q I ru ru' ⟨i, j, rfl, rfl, wide_mul hm.1 hm.2 (by omega) (by omega) (by omega), fin _ h.symm⟩
        · cases h
      | fdiv =>
        simp only [binD] at h
        split at h
        · rename_i hm
          simp only [Option.some.injEq] at h
          exact op_fdivW pins s σ H _ _ u u' Q I ru ru' ⟨i, j, rfl, rfl, wide_div hm.1 hm.2 (by omega) (by omega), fin _ h.symm⟩
        · cases h
      | mod =>
        simp only [binD] at h
        split at h
        · rename_i hm
          simp only [Option.some.injEq] at h
          exact op_mod pins s σ H _ _ u u' Q I ru ru' ⟨i, j, rfl, rfl, hm, fin _ h.symm⟩
        · cases h
      | pow =>
        simp only [binD] at h
        split at h
        · rename_i hm
          simp only [Option.some.injEq] at h
          exact op_pow pins s σ H _ _ u u' Q I ru ru' ⟨i, j, rfl, rfl, ⟨hm.1, by omega, hm.2.2⟩, fin _ h.symm⟩
        · cases h
    | _ => cases op <;> simp [binD] at h
  | tup xs =>
    cases rd with
    | tup h1 h2 h3 =>
      cases e with
      | tup ys =>
        cases re with
        | tup g1 g2 g3 =>
          cases op with
          | add =>
            simp only [binD] at h
            split at h
            · rename_i hm
              simp only [Option.some.injEq] at h
              subst h
              refine op_catA pins s σ H _ _ u u' Q I ru ru' ⟨_, _, _, _, rfl, rfl, SqT.of h1, SqT.of g1, ?_, fun e => ?_, fun _ e => ?_, fun _ _ p hp => ?_⟩
              · rw [h3.length, g3.length]; exact Nat.le_trans hm line_le
              · subst e
                cases h3
                exact hq _ _ (.same rfl (.tup g1 g2 g3))
              · subst e
                cases g3
                refine hq _ _ (.same rfl ?_)
                rw [List.append_nil]
                exact .tup h1 h2 h3
              · exact hq _ _ (.tup hp (h3.append g3))
            · cases h
          | _ => simp [binD] at h
      | int k =>
        cases re
        cases op with
        | mul =>
          simp only [binD] at h
          by_cases h1k : k = 1
          · rw [if_pos h1k] at h
            simp only [Option.some.injEq] at h
            subst h h1k
            exact op_rep1T pins s σ H _ _ u u' Q I ru ru' ⟨_, _, rfl, rfl, SqT.of h1, hq _ _ (.same rfl (.tup h1 h2 h3))⟩
          rw [if_neg h1k] at h
          split at h
          · rename_i hm
            simp only [Option.some.injEq] at h
            subst h
            unfold repOk at hm
            simp only [Bool.and_eq_true, decide_eq_true_eq] at hm
            obtain ⟨⟨⟨m1, m2⟩, m3⟩, m4⟩ := hm
            refine op_repT pins s σ H _ _ u u' Q I ru ru' ⟨_, k, _, rfl, rfl, SqT.of h1, fun e => ?_, m2, m3, by rw [h3.length]; exact m4, fun p hp => hq _ _ (.tup hp (h3.rep _))⟩
            subst e
            cases h3
            simp at m1
          · cases h
        | _ => simp [binD] at h
      | _ => cases op <;> simp [binD] at h
  | lst xs =>
    cases rd with
    | lst h1 h2 h3 =>
      cases e with
      | lst ys =>
        cases re with
        | lst g1 g2 g3 =>
          cases op with
          | add =>
            simp only [binD] at h
            split at h
            · rename_i hm
              simp only [Option.some.injEq] at h
              subst h
              refine op_cat pins s σ H _ _ u u' Q I ru ru' ⟨_, _, _, _, rfl, rfl, h1, g1, ?_, fun p hp => hq _ _ (.lst hp (h3.append g3))⟩
              rw [h3.length, g3.length]; exact Nat.le_trans hm line_le
            · cases h
          | _ => simp [binD] at h
      | int k =>
        cases re
        cases op with
        | mul =>
          simp only [binD] at h
          split at h
          · rename_i hm
            simp only [Option.some.injEq] at h
            subst h
            have hl : (line : Int) < 2 ^ 63 := by decide
            refine op_rep pins s σ H _ _ u u' Q I ru ru' ⟨_, k, _, rfl, rfl, h1, by omega, by omega, ?_, fun p hp => hq _ _ (.lst hp (h3.rep _))⟩
            rw [h3.length]; exact Nat.le_trans hm.2.2 line_le
          · cases h
        | _ => simp [binD] at h
      | _ => cases op <;> simp [binD] at h
  | _ => cases op <;> simp [binD] at h

theorem atD_atI {α β : Type} {xs : List α} {ys : List β} {i : Int} {y : β} (hl : xs.length = ys.length) (h : atD ys i = some y) : ∃ j, ixN xs.length i = some j ∧ ys[j]? = some y := by
  unfold atD at h
  rw [ixD_eq, ← hl] at h
  obtain ⟨j, e1, e2⟩ := Option.bind_eq_some_iff.mp h
  exact ⟨j, e1, e2⟩
theorem sub_seq {c : Cn} {vs : List V} {ds : List D} {i : Int} {d : D} (r : Rps X.prog X.w X.K c H vs ds) (h : atD ds i = some d) : ∃ v, atI vs i = some v ∧ Rp X.prog X.w X.K c H v d := by
  obtain ⟨j, e1, e2⟩ := atD_atI r.length h
  obtain ⟨v, e3, q⟩ := r.get e2
  exact ⟨v, by unfold atI; rw [e1]; exact e3, q⟩

theorem valV_get (kvs : List (Key × V)) (ks : List Int) (ds : List D) (hk : kvs.map (·.1) = ks.map Sum.inl) (r : Rps X.prog X.w X.K c H (kvs.map (·.2)) ds) (k : Int) {d : D} (h : getI ks ds k = some d) : ∃ v, valV kvs (.inl k) = some v ∧ Rp X.prog X.w X.K c H v d := by
  induction kvs generalizing ks ds with
  | nil =>
    cases ks with
    | nil => simp [getI] at h
    | cons _ _ => simp at hk
  | cons p kvs ih =>
    cases ks with
    | nil => simp at hk
    | cons j ks =>
      simp only [List.map_cons, List.cons.injEq] at hk
      cases r with
      | cons r1 r2 =>
        rename_i d0 ds
        unfold valV
        rw [List.find?_cons]
        by_cases e : j = k
        · subst e
          have : decide (p.1 = Sum.inl j) = true := by rw [hk.1]; simp
          rw [this]
          simp [getI] at h
          subst h
          exact ⟨p.2, rfl, r1⟩
        · have e2 : decide (p.1 = Sum.inl k) = false := by
            rw [hk.1]
            simp only [decide_eq_false_iff_not]
            intro z
            injection z with z
            exact e z
          rw [e2]
          have e3 : getI ks ds k = some d := by
            simp only [getI, List.zip_cons_cons, List.find?_cons] at h ⊢
            have : (j == k) = false := by simp [e]
            rw [this] at h
            exact h
          have := ih ks ds hk.2 r2 e3
          unfold valV at this
          exact this

/-- an item; for a shared cell its content is given -/
theorem sub_D (I : Inv X pins σ H s) (hu : X.A.units + 65 < cLine) {value slice : Expr} {d k r : D} {v v' : V} {u u' : Value} {Q : VK}
    (rd : Rp X.prog X.w X.K c H v d ∨ ∃ a cl, v = .ref a ∧ CellR X.prog X.w X.K c H a cl ∧ d = cl.d) (rk : Rp X.prog X.w X.K c H v' k) (ru : RelV v u) (ru' : RelV v' u')
    (h : subD [] d k = some r) (hs : subscripted slice false u u' = operate [u, u'] (getItem u u')) (hq : ∀ z, Rp X.prog X.w X.K c H z r → Q z H) :
    wpAny (model X.prog X.w) X.A (subscriptTail value slice u u') (EP X pins σ Q) X.xe s := by
  have hu1 : X.A.units + 1 < cLine := by omega
  have lstC : ∀ {a : Addr} {xs : List D} {vs : List V}, d = .lst xs → v = .ref a → H a = some (.lst vs) → Rps X.prog X.w X.K c H vs xs → wpAny (model X.prog X.w) X.A (subscriptTail value slice u u') (EP X pins σ Q) X.xe s := by
    intro a xs vs hd hv h1 h3
    subst hd hv
    cases k with
    | int i =>
      cases rk
      obtain ⟨z, ez, rz⟩ := sub_seq h3 (show atD xs i = some r from h)
      exact ix_list value slice pins s σ H _ _ u u' Q I ru ru' ⟨_, _, i, z, rfl, rfl, SqL.of h1, ez, hq z rz⟩ hs
    | _ => simp [subD] at h
  have dciC : ∀ {a : Addr} {ks : List Int} {ds : List D} {kvs : List (Key × V)}, d = .dci ks ds → v = .ref a → H a = some (.dK kvs) → kvs.map (·.1) = ks.map Sum.inl → Rps X.prog X.w X.K c H (kvs.map (·.2)) ds → wpAny (model X.prog X.w) X.A (subscriptTail value slice u u') (EP X pins σ Q) X.xe s := by
    intro a ks ds kvs hd hv h1 h3 h4
    subst hd hv
    cases k with
    | int i =>
      cases rk
      obtain ⟨z, ez, rz⟩ := valV_get kvs ks ds h3 h4 i (show getI ks ds i = some r from h)
      cases ru
      have g : DGet H a (.int i) (some z) := by
        have := DGet.k (k := .inl i) h1
        rw [ez] at this
        exact this
      exact subT_any (dict_typeIs I g) PySem.F.slot_dict_getitem.lookup (d_getItem hu1 I g ru' fun w' s3 I3 rw' => ⟨z, H, I3, rw', hq z rz⟩) hs
    | _ => simp [subD] at h
  have dctC : ∀ {a : Addr} {ks ds : List D} {es : List Ent}, d = .dct ks ds → v = .ref a → H a = some (rawT X.prog X.w a es) → es.map (·.1) = ks → (∀ k ∈ ks, keyT k = true) → Rps X.prog X.w X.K c H (es.map fun e => .ref e.2.1) ks → Rps X.prog X.w X.K c H (es.map (·.2.2)) ds →
      wpAny (model X.prog X.w) X.A (subscriptTail value slice u u') (EP X pins σ Q) X.xe s := by
    intro a ks ds es hd hv h1 h3 h4 h5 h6
    subst hd hv
    cases ru
    have hkt : keyT k = true := by
      cases q : keyT k with
      | true => rfl
      | false => simp [subD, q] at h
    have hg : getT ks ds k = some r := by simpa [subD, hkt] using h
    obtain ⟨xs, p, dd, hsm, _⟩ := rawT_dict I h1 h3 h4 h5
    obtain ⟨bb, rfl, rfl, kis⟩ := key_is I hkt rk ru'
    subst h3
    rcases atKey_get hkt p (fun e he => h4 _ (List.mem_map.mpr ⟨e, he, rfl⟩)) with ⟨q1, _, q3⟩ | ⟨j, e, x, q1, q2, q3, q4, q5⟩
    · exfalso
      unfold getT at hg
      obtain ⟨y, hy, _⟩ := Option.map_eq_some_iff.mp hg
      have := List.mem_of_find?_eq_some hy
      have h2 := List.find?_some hy
      simp only [decide_eq_true_eq] at h2
      exact q3 (h2 ▸ (List.of_mem_zip (show (y.1, y.2) ∈ _ from this)).1)
    · have hl : ds.length = es.length := by rw [← h6.length, List.length_map]
      rw [q5 ds hl] at hg
      obtain ⟨z, ez, rz⟩ := h6.get hg
      rw [List.getElem?_map, q1] at ez
      cases ez
      obtain ⟨_, _, rv⟩ := q4
      refine subT_any dd.typeIs PySem.F.slot_dict_getitem.lookup (wpAny_getItem_heap (room8 (by omega)) kis dd q3 ?_) hs
      exact ⟨_, H, I.tok _, rv, hq _ rz⟩
  rcases rd with rd | ⟨a, cl, hv, hc, hd⟩
  · cases rd with
    | tup h1 h2 h3 =>
      cases k with
      | int i =>
        cases rk
        obtain ⟨z, ez, rz⟩ := sub_seq h3 (show atD _ i = some r from h)
        exact ix_tup value slice pins s σ H _ _ u u' Q I ru ru' ⟨_, _, i, z, rfl, rfl, SqT.of h1, ez, hq z rz⟩ hs
      | _ => simp [subD] at h
    | lst h1 h2 h3 => exact lstC rfl rfl h1 h3
    | dci h1 h2 h3 h4 => exact dciC rfl rfl h1 h3 h4
    | dct h1 h2 h3 h4 h5 h6 => exact dctC rfl rfl h1 h3 h4 h5 h6
    | scr h1 =>
      cases k with
      | int i =>
        cases rk
        rename_i a xs
        obtain ⟨n, en, er⟩ := Option.map_eq_some_iff.mp (show (atD xs i).map D.int = some r from h)
        obtain ⟨j, e1, e2⟩ := atD_atI (xs := xs.map V.int) (by simp) en
        refine ix_list value slice pins s σ H _ _ u u' Q I ru ru' ⟨_, _, i, .int n, rfl, rfl, h1.sq, ?_, hq _ (er ▸ .int n)⟩ hs
        unfold atI
        rw [e1]
        simp [e2]
      | _ => simp [subD] at h
    | _ => cases k <;> simp [subD] at h
  · cases cl with
    | lst xs => obtain ⟨vs, e1, e2⟩ := hc; exact lstC hd hv e1 e2
    | dci ks ds => obtain ⟨kvs, e1, e2, e3⟩ := hc; exact dciC hd hv e1 e2 e3
    | dct ks ds => obtain ⟨es, e1, e2, e3, e4, e5⟩ := hc; exact dctC hd hv e1 e2 e3 e4 e5
    | ins _ _ => exact hc.elim

theorem len_D (I : Inv X pins σ H s) {d : D} {v : V} {u : Value} {n : Nat} {Q : VK} (rd : Rp X.prog X.w X.K c H v d ∨ ∃ a cl, v = .ref a ∧ CellR X.prog X.w X.K c H a cl ∧ d = cl.d) (ru : RelV v u) (h : lenD d = some n) (hq : Q (.int n) H) :
    wpAny (model X.prog X.w) X.A (call (.builtin "len") [u]) (EP X pins σ Q) X.xe s := by
  have sq : ∀ {a : Addr} {ys : List V}, v = .ref a → (SqL X.K H a ys ∨ SqT X.K H a ys) → ys.length = n → wpAny (model X.prog X.w) X.A (call (.builtin "len") [u]) (EP X pins σ Q) X.xe s := fun {a ys} e q l =>
    call_len_seq pins s σ H [v] [u] Q I (.cons ru .nil) ⟨a, ys, by rw [e], q, by rw [l]; exact hq⟩
  have dK : ∀ {a : Addr} {kvs : List (Key × V)} {ks : List Int}, v = .ref a → H a = some (.dK kvs) → kvs.map (·.1) = ks.map Sum.inl → ks.length = n → wpAny (model X.prog X.w) X.A (call (.builtin "len") [u]) (EP X pins σ Q) X.xe s := fun {a kvs ks} e q e2 l => by
    have : kvs.length = n := by
      have := congrArg List.length e2
      simp at this
      omega
    exact call_lenD pins s σ H [v] [u] Q I (.cons ru .nil) ⟨a, kvs, by rw [e], q, by rw [this]; exact hq⟩
  have dT : ∀ {a : Addr} {es : List Ent} {ks : List D}, v = .ref a → H a = some (rawT X.prog X.w a es) → es.map (·.1) = ks → (∀ k ∈ ks, keyT k = true) → Rps X.prog X.w X.K c H (es.map fun e => .ref e.2.1) ks → ks.length = n → wpAny (model X.prog X.w) X.A (call (.builtin "len") [u]) (EP X pins σ Q) X.xe s := fun {a es ks} e q e2 kt r l => by
    subst e
    cases ru
    obtain ⟨xs, p, dd, hsm, hz⟩ := rawT_dict I q e2 kt r
    have hm : s.heap.DictKeyed (nestedKind X.prog X.w) a (pairsH xs) := ⟨xs, dd, rfl⟩
    have e3 : (pairsH xs).length = n := by
      rw [pairsH_length, ← p.length, ← l, ← e2, List.length_map]
    have hn : n ≤ sizeLine := by rw [← l, ← e2, List.length_map]; exact hz
    refine PyProof.Rows.call_len_slot (n := (n : Int)) dd.typeIs F.slot_dict_len (fun Q' hq' => ?_) (by omega) (by rw [sizeLine_eq] at hn; omega) ?_
    · refine len_keyed hsm hm ?_
      rw [e3]
      exact hq'
    · exact ⟨.int n, H, I.tok _, ⟨_, rfl⟩, hq⟩
  rcases rd with rd | ⟨a, cl, hv, hc, hd⟩
  · cases rd with
    | tup h1 h2 h3 => exact sq rfl (.inr (SqT.of h1)) (by rw [h3.length]; simpa [lenD] using h)
    | lst h1 h2 h3 => exact sq rfl (.inl (SqL.of h1)) (by rw [h3.length]; simpa [lenD] using h)
    | dci h1 h2 h3 h4 => exact dK rfl h1 h3 (by simpa [lenD] using h)
    | dct h1 h2 h3 h4 h5 h6 => exact dT rfl h1 h3 h4 h5 (by simpa [lenD] using h)
    | scr h1 => exact sq rfl (.inl h1.sq) (by simpa [lenD] using h)
    | _ => simp [lenD] at h
  · subst hd
    cases cl with
    | lst xs => obtain ⟨vs, e1, e2⟩ := hc; exact sq hv (.inl (SqL.of e1)) (by rw [e2.length]; simpa [lenD, Cell.d] using h)
    | dci ks ds => obtain ⟨kvs, e1, e2, e3⟩ := hc; exact dK hv e1 e2 (by simpa [lenD, Cell.d] using h)
    | dct ks ds => obtain ⟨es, e1, e2, e3, e4, e5⟩ := hc; exact dT hv e1 e2 e3 e4 (by simpa [lenD, Cell.d] using h)
    | ins _ _ => exact hc.elim
end
end NW
set_option autoImplicit false
set_option linter.all false
set_option maxRecDepth 100000
set_option maxHeartbeats 1000000
/-! NwSort: sorted, min and max of plain values. -/
namespace NW
open PySem PySem.W PyProof.Rows L2

def tyD : D → Value
  | .tup _ => .type "tuple"
  | _ => .type "int"
theorem pl_cases {n : Nat} {d : D} (h : D.pl n d = true) : (∃ i, d = .int i) ∨ ∃ xs m, d = .tup xs ∧ n = m + 1 ∧ D.pls m xs = true := by
  cases d with
  | int i => exact .inl ⟨i, rfl⟩
  | tup xs =>
    cases n with
    | zero => simp [D.pl] at h
    | succ m => exact .inr ⟨xs, m, rfl, rfl, by simpa [D.pl] using h⟩
  | _ => cases n <;> simp [D.pl] at h

section
variable {X : Cx} {pins : List (Addr × Obj)} {σ : L2.St} {H : Hp} {s : Shared} {c : Cn}

/-- the value u is the plain value d -/
def PlV (X : Cx) (c : Cn) (H : Hp) (n : Nat) (u : Value) (d : D) : Prop := D.pl n d = true ∧ ∃ v, Rp X.prog X.w X.K c H v d ∧ RelV v u

theorem PlV.det {n m : Nat} {u : Value} {d e : D} (h : PlV X c H n u d) (g : PlV X c H m u e) : d = e := by
  obtain ⟨hp, v, r, q⟩ := h
  obtain ⟨gp, v', r', q'⟩ := g
  have := q.inj q'
  subst this
  exact det n m d e v hp gp r r'
where
  det : ∀ (n m : Nat) (d e : D) (v : V), D.pl n d = true → D.pl m e = true → Rp X.prog X.w X.K c H v d → Rp X.prog X.w X.K c H v e → d = e := by
    intro n
    induction n with
    | zero =>
      intro m d e v h1 h2 r1 r2
      rcases pl_cases h1 with ⟨i, rfl⟩ | ⟨_, _, _, q, _⟩
      · cases r1
        rcases pl_cases h2 with ⟨j, rfl⟩ | ⟨xs, k, rfl, _, _⟩
        · cases r2; rfl
        · cases r2
      · cases q
    | succ n ih =>
      intro m d e v h1 h2 r1 r2
      rcases pl_cases h1 with ⟨i, rfl⟩ | ⟨xs, k, rfl, q, hx⟩
      · cases r1
        rcases pl_cases h2 with ⟨j, rfl⟩ | ⟨xs, k, rfl, _, _⟩
        · cases r2; rfl
        · cases r2
      · cases q
        cases r1 with
        | tup g1 _ g3 =>
          rcases pl_cases h2 with ⟨j, rfl⟩ | ⟨ys, k', rfl, q', hy⟩
          · cases r2
          · cases r2 with
            | tup g1' _ g3' =>
              rw [g1] at g1'
              cases g1'
              congr 1
              have : ∀ (vs : List V) (xs ys : List D), D.pls n xs = true → D.pls k' ys = true → Rps X.prog X.w X.K c H vs xs → Rps X.prog X.w X.K c H vs ys → xs = ys := by
                intro vs xs
                induction xs generalizing vs with
                | nil =>
                  intro ys _ _ p1 p2
                  cases p1
                  cases p2
                  rfl
                | cons x xs ihx =>
                  intro ys hx hy p1 p2
                  cases p1 with
                  | cons p1 p1' =>
                    cases p2 with
                    | cons p2 p2' =>
                      simp only [D.pls, Bool.and_eq_true] at hx hy
                      rw [ih k' _ _ _ hx.1 hy.1 p1 p2, ihx _ _ hx.2 hy.2 p1' p2']
              exact this _ _ _ hx hy g3 g3'

theorem PlV.type {M : Model} {n : Nat} {u : Value} {d : D} (I : Inv X pins σ H s) (h : PlV X c H n u d) : Looks M s.heap (typeOf u) (tyD d) := by
  obtain ⟨hp, v, r, q⟩ := h
  rcases pl_cases hp with ⟨i, rfl⟩ | ⟨xs, k, rfl, _, _⟩
  · cases r
    obtain ⟨t, rfl⟩ := q
    exact Looks.now
  · cases r with
    | tup g1 _ g3 =>
      cases q
      obtain ⟨_, its, rv, o, ho, hc, m, hd⟩ := I.hok _ _ g1
      rw [show tyD (.tup xs) = o.cls from hc.symm]
      exact (Looks.ld ho).andThen .now
/-- a tuple's own object -/
theorem PlV.tup {n : Nat} {u : Value} {xs : List D} (I : Inv X pins σ H s) (h : PlV X c H (n + 1) u (.tup xs)) :
    ∃ (a : Addr) (o : Obj) (its : Array Value) (m : Nat), u = .ref a ∧ s.heap.get? a = some o ∧ o.cls = .type "tuple" ∧ o.data = .seq its m ∧ its.size = xs.length ∧ ∀ (j : Nat) (x : D), xs[j]? = some x → ∃ y, its[j]? = some y ∧ PlV X c H n y x := by
  obtain ⟨hp, v, r, q⟩ := h
  cases r with
  | tup g1 _ g3 =>
    cases q
    obtain ⟨_, its, rv, o, ho, hc, m, hd⟩ := I.hok _ _ g1
    refine ⟨_, o, its.toArray, m, rfl, ho, hc, hd, by simp [← rv.length, g3.length], fun j x e => ?_⟩
    obtain ⟨v, ev, rx⟩ := g3.get e
    obtain ⟨y, ey, ry⟩ := rv.get ev
    simp only [D.pl] at hp
    exact ⟨y, by simpa using ey, D.pls_get hp e, v, rx, ry⟩

theorem PlV.eqAt (I : Inv X pins σ H s) {A : Around} {n m : Nat} {u u' : Value} {d e : D} (hu : A.units + n < cLine) (h : PlV X c H n u d) (g : PlV X c H m u' e) : SeqAt.EqAt A s u u' (decide (d = e)) := by
  obtain ⟨hp, v, r, q⟩ := h
  obtain ⟨gp, v', r', q'⟩ := g
  exact eqAt_D I.hok hp gp hu r r' q q'
theorem PlV.lt (I : Inv X pins σ H s) {A : Around} {n : Nat} {u u' : Value} {d e : D} (hu : A.units + n < cLine) (h : PlV X c H n u d) (g : PlV X c H n u' e) (ho : D.ord d e = true) : Ob.RcOp .Lt A s u u' (D.lt d e) := by
  obtain ⟨hp, v, r, q⟩ := h
  obtain ⟨gp, v', r', q'⟩ := g
  exact rc_lt I.hok n A d e v v' u u' hp gp ho hu r r' q q'

variable {prog : Program} {w : World} {E : Value → Shared → Prop}
theorem one_false (I : Inv X pins σ H s) {A : Around} {n : Nat} {u u' : Value} {d e : D} {Q : Bool → Shared → Prop} (hu : A.units + n < cLine) (h : PlV X c H n u d) (g : PlV X c H n u' e) (ho : D.ord d e = true) (hq : Q (D.lt d e) s) :
    wpAny (model prog w) A (oneLt' false u u') Q E s := by
  refine kat_one _ _ ?_
  exact PlV.lt I hu h g ho _ _ _ _ hq
/-- where the two are of one type -/
theorem one_true (I : Inv X pins σ H s) {A : Around} {n : Nat} {u u' : Value} {d e : D} {Q : Bool → Shared → Prop} (hu : A.units + n < cLine) (h : PlV X c H n u d) (g : PlV X c H n u' e) (ho : D.ord d e = true) (hq : Q (D.lt d e) s) :
    wpAny (model prog w) A (oneLt' true u u') Q E s := by
  rcases ord_cases ho with ⟨a, b, rfl, rfl⟩ | ⟨xs, ys, rfl, rfl⟩
  · obtain ⟨_, v, r, q⟩ := h
    obtain ⟨_, v', r', q'⟩ := g
    cases r
    cases r'
    obtain ⟨t, rfl⟩ := q
    obtain ⟨t', rfl⟩ := q'
    exact oneLt_int hq
  · rw [oneLt'_eq]
    simp only [if_true]
    refine wpAny_bind (wpAny_cRoomFor (by omega) ?_)
    cases n with
    | zero => have := h.1; simp [D.pl] at this
    | succ n =>
      obtain ⟨a, o, its, m, rfl, h1, h2, h3, h4, h5⟩ := h.tup I
      obtain ⟨b, o', its', m', rfl, g1, g2, g3, g4, g5⟩ := g.tup I
      obtain ⟨cls, dd, data, sl⟩ := o
      obtain ⟨cls2, dd2, data2, sl2⟩ := o'
      simp only at h2 h3 g2 g3
      subst h2 h3 g2 g3
      simp only [D.ord] at ho
      have key : ∀ (j : Nat) (q1 : j < its.size) (q2 : j < its'.size), ∃ x y, xs[j]? = some x ∧ ys[j]? = some y ∧ PlV X c H n its[j] x ∧ PlV X c H n its'[j] y := fun j q1 q2 => by
        have ex : xs[j]? = some xs[j] := List.getElem?_eq_getElem (by omega)
        have ey : ys[j]? = some ys[j] := List.getElem?_eq_getElem (by omega)
        obtain ⟨y1, e1, p1⟩ := h5 j _ ex
        obtain ⟨y2, e2, p2⟩ := g5 j _ ey
        rw [Array.getElem?_eq_getElem q1] at e1
        rw [Array.getElem?_eq_getElem q2] at e2
        cases e1
        cases e2
        exact ⟨_, _, ex, ey, p1, p2⟩
      refine wpAny_bind (wpAny_callSpecialIfBound?_slot (T := "tuple") ⟨_, h1, rfl⟩ F.slot_tuple_lt (call_meets F.slot_tuple_lt ⟨_, h1, rfl⟩ F.entry_tuple_lt (F.args_tuple_lt_2 _ _)
        (Ob.tuple_ltAt a b its its' m m' dd dd2 sl sl2 (fun j => decide (xs[j]? = ys[j]?)) (fun j => D.lt (xs.getD j .non) (ys.getD j .non)))
        ⟨h1, g1, fun j q1 q2 => ?_, fun j q1 q2 _ => ?_, ?_⟩))
      · obtain ⟨x, y, ex, ey, p1, p2⟩ := key j q1 q2
        have := PlV.eqAt (A := A.in1) I (in1_units hu) p1 p2
        rw [ex, ey]
        simpa using this
      · obtain ⟨x, y, ex, ey, p1, p2⟩ := key j q1 q2
        have := PlV.lt (A := A.in1) I (in1_units hu) p1 p2 (D.ords_get ho ex ey)
        rw [List.getD_eq_getElem?_getD, List.getD_eq_getElem?_getD, ex, ey]
        exact this
      · rw [h4, g4, lexAt_lexG D.lt _ xs ys _ _ 0 (fun j x y e1 e2 => by
          simp only [Nat.zero_add]
          rw [e1, e2]
          refine ⟨by simp, fun _ => ?_⟩
          rw [List.getD_eq_getElem?_getD, List.getD_eq_getElem?_getD, e1, e2]
          rfl), ← lts_lexG]
        exact wpAny_truthy_bool hq

theorem lex_plain (I : Inv X pins σ H s) {A : Around} {n : Nat} {b fin : Bool} {Q : Bool → Shared → Prop} (hu : A.units + n < cLine) :
    ∀ (xs ys : List D) (us us' : List Value) (i : Nat), us.length = xs.length → us'.length = ys.length → (∀ (j : Nat) (x : D) (y : Value), xs[j]? = some x → us[j]? = some y → PlV X c H n y x) → (∀ (j : Nat) (x : D) (y : Value), ys[j]? = some x → us'[j]? = some y → PlV X c H n y x) →
      D.ords xs ys = true → Q (lexG D.lt fin xs ys) s → W.KatLex prog w A b fin Q (us.zip us') i s
  | [], ys, us, us', i, h1, h2, _, _, _, hq => by
    rw [List.length_eq_zero_iff.mp (show us.length = 0 by simpa using h1)]
    exact W.kat_nil (by simpa [lexG] using hq)
  | x :: xs, [], us, us', i, h1, h2, _, _, _, hq => by
    rw [List.length_eq_zero_iff.mp (show us'.length = 0 by simpa using h2), List.zip_nil_right]
    exact W.kat_nil (by simpa [lexG] using hq)
  | x :: xs, y :: ys, us, us', i, h1, h2, p1, p2, ho, hq => by
    cases us with
    | nil => simp at h1
    | cons u us =>
      cases us' with
      | nil => simp at h2
      | cons u' us' =>
        simp only [D.ords, Bool.and_eq_true] at ho
        have q1 := p1 0 x u rfl rfl
        have q2 := p2 0 y u' rfl rfl
        rw [List.zip_cons_cons]
        refine W.kat_cons ?_
        have he := PlV.eqAt (A := A) I hu q1 q2
        refine he _ _ _ _ ?_
        by_cases e : x = y
        · rw [decide_eq_true e]
          refine W.kat_yes ?_
          refine lex_plain I hu xs ys us us' (i + 1) (by simpa using h1) (by simpa using h2) (fun j x y e1 e2 => p1 (j + 1) x y (by simpa using e1) (by simpa using e2)) (fun j x y e1 e2 => p2 (j + 1) x y (by simpa using e1) (by simpa using e2)) ho.2 ?_
          simp only [lexG, if_pos e] at hq
          exact hq
        · rw [decide_eq_false e]
          refine W.kat_no ?_
          simp only [lexG, if_neg e] at hq
          cases (b && i == 0) with
          | true => exact one_true I hu q1 q2 ho.1 hq
          | false => exact one_false I hu q1 q2 ho.1 hq

/-- the values us are the plain values ds, any two of which may be compared -/
structure PlAll (X : Cx) (c : Cn) (H : Hp) (us : List Value) (ds : List D) : Prop where
  len : us.length = ds.length
  at_ : ∀ (j : Nat) (u : Value) (d : D), us[j]? = some u → ds[j]? = some d → PlV X c H 60 u d
  ord : ∀ d ∈ ds, ∀ e ∈ ds, D.ord d e = true
theorem PlAll.mem {us : List Value} {ds : List D} (p : PlAll X c H us ds) {u : Value} (h : u ∈ us) : ∃ d ∈ ds, PlV X c H 60 u d := by
  obtain ⟨j, hj⟩ := List.mem_iff_getElem?.mp h
  have hl := (List.getElem?_eq_some_iff.mp hj).1
  have hl' : j < ds.length := by rw [← p.len]; exact hl
  have e : ds[j]? = some ds[j] := List.getElem?_eq_getElem hl'
  exact ⟨_, List.mem_of_getElem? e, p.at_ j u _ hj e⟩

/-- the first item of a tuple -/
def firstD : D → Option D
  | .tup (x :: _) => some x
  | _ => none
theorem first_wp {M : Model} {A : Around} {E : Value → Shared → Prop} (I : Inv X pins σ H s) {u : Value} {d : D} {Q : Option Value → Shared → Prop} (h : PlV X c H 60 u d) (hq : ∀ o : Option Value, (firstD d = none → o = none) → (∀ x, firstD d = some x → ∃ y, o = some y ∧ PlV X c H 60 y x) → Q o s) :
    wpAny M A (firstOfTuple' u) Q E s := by
  rw [kas_first_eq]
  refine wpAny_bind ((h.type I).here ?_)
  rcases pl_cases h.1 with ⟨i, rfl⟩ | ⟨xs, k, rfl, e, hx⟩
  · have e1 : (Value.type "int" != Value.type "tuple") = true := by decide +kernel
    show wpAny M A (if (Value.type "int" != Value.type "tuple") = true then pure none else _) Q E s
    rw [if_pos e1]
    exact wpAny_pure (hq _ (fun _ => rfl) fun x e => by simp [firstD] at e)
  · have e1 : (Value.type "tuple" != Value.type "tuple") = false := by decide +kernel
    show wpAny M A (if (Value.type "tuple" != Value.type "tuple") = true then pure none else _) Q E s
    rw [if_neg (by rw [e1]; simp)]
    obtain ⟨a, o, its, m, rfl, h1, h2, h3, h4, h5⟩ := h.tup I
    refine wpAny_bind (listItems_at h1 h3 (wpAny_pure (hq _ (fun e => ?_) fun x e => ?_)))
    · cases xs with
      | nil => exact Array.getElem?_eq_none (by rw [h4]; simp)
      | cons x xs => simp [firstD] at e
    · cases xs with
      | nil => simp [firstD] at e
      | cons y ys =>
        simp only [firstD, Option.some.injEq] at e
        subst e
        obtain ⟨z, ez, p⟩ := h5 0 y rfl
        obtain ⟨p1, p2⟩ := p
        exact ⟨z, ez, D.pl_mono p1 (by omega), p2⟩
theorem firsts_wp {M : Model} {A : Around} {E : Value → Shared → Prop} (I : Inv X pins σ H s) : ∀ (us : List Value) (ds : List D) {Q : List (Option Value) → Shared → Prop}, us.length = ds.length → (∀ (j : Nat) (u : Value) (d : D), us[j]? = some u → ds[j]? = some d → PlV X c H 60 u d) →
    (∀ os : List (Option Value), os.length = ds.length → (∀ (j : Nat) (o : Option Value) (d : D), os[j]? = some o → ds[j]? = some d → (firstD d = none → o = none) ∧ ∀ x, firstD d = some x → ∃ y, o = some y ∧ PlV X c H 60 y x) → Q os s) → wpAny M A (us.mapM firstOfTuple') Q E s
  | [], ds, Q, hl, _, hq => by
    rw [List.mapM_nil]
    exact wpAny_pure (hq [] (by simpa using hl) fun j o d e => by simp at e)
  | u :: us, [], _, hl, _, _ => by simp at hl
  | u :: us, d :: ds, Q, hl, h, hq => by
    rw [List.mapM_cons]
    refine wpAny_bind (first_wp I (h 0 u d rfl rfl) fun o h1 h2 => ?_)
    refine wpAny_bind (firsts_wp I us ds (Q := fun os s' => wpAny M A (pure (o :: os)) Q E s') (by simpa using hl) (fun j u d e1 e2 => h (j + 1) u d (by simpa using e1) (by simpa using e2)) fun os k1 k2 => ?_)
    refine wpAny_pure (hq (o :: os) (by simp [k1]) fun j o' d' e1 e2 => ?_)
    cases j with
    | zero =>
      simp at e1 e2
      subst e1 e2
      exact ⟨h1, h2⟩
    | succ j => exact k2 j o' d' (by simpa using e1) (by simpa using e2)
/-- of one type, or not -/
theorem types_wp {M : Model} {A : Around} {E : Value → Shared → Prop} (I : Inv X pins σ H s) {us : List Value} {T : Value} {Q : Option Value → Shared → Prop} (hT : (T == T) = true) (h0 : us ≠ []) (h : ∀ u ∈ us, ∃ d, PlV X c H 60 u d ∧ tyD d = T) (hq : Q (some T) s) :
    wpAny M A (oneTypeOnly' us.toArray) Q E s := by
  rw [oneTypeOnly'_eq, List.mapM_toArray, map_eq_pure_bind]
  refine wpAny_bind (wpAny_bind (kas_mapM (r := T) _ (fun v hv Q' hq' => ?_) (wpAny_pure ?_)))
  · obtain ⟨d, p, e⟩ := h v hv
    have := p.type (M := M) I
    rw [e] at this
    exact this.here hq'
  · cases us with
    | nil => exact absurd rfl h0
    | cons u us =>
      have a2 : ((List.map (fun _ => T) (u :: us)).toArray.all fun x => x == T) = true := by
        simp only [List.all_toArray, List.all_map, List.all_eq_true]
        intro _ _
        exact hT
      have e0 : (List.map (fun _ => T) (u :: us)).toArray[0]? = some T := by simp
      rw [e0]
      simp only [a2, if_true]
      exact wpAny_pure hq

theorem ty_self (d : D) : (tyD d == tyD d) = true := by
  have h1 : (Value.type "tuple" == Value.type "tuple") = true := by decide +kernel
  have h2 : (Value.type "int" == Value.type "int") = true := by decide +kernel
  cases d <;> first | exact h1 | exact h2
theorem ord_ty {d e : D} (h : D.ord d e = true) : tyD d = tyD e := by
  rcases ord_cases h with ⟨a, b, rfl, rfl⟩ | ⟨a, b, rfl, rfl⟩ <;> rfl

/-- the kind that the sort finds -/
inductive KdOk (X : Cx) (c : Cn) (H : Hp) (ds : List D) : SortKind → Prop
  | one : KdOk X c H ds oneType'
  | gen : KdOk X c H ds general'
  | tup (b : Bool) : (∀ d ∈ ds, ∃ xs, d = .tup xs) → KdOk X c H ds (tuples' b)

/-- the kind, told by the values -/
def kdD (ds : List D) : SortKind := if (ds.all fun d => (firstD d).isSome) = true then tuples' ((some (tyD ((ds.head?.bind firstD).getD .non))).any (· != Value.type "tuple")) else if (ds.head?.bind firstD).isSome = true then general' else oneType'
theorem kdD_ok (ds : List D) : KdOk X c H ds (kdD ds) := by
  unfold kdD
  split
  · rename_i h
    refine .tup _ fun d hd => ?_
    have := List.all_eq_true.mp h d hd
    cases d with
    | tup xs => exact ⟨xs, rfl⟩
    | _ => simp [firstD] at this
  · split
    · exact .gen
    · exact .one

theorem kind_wp {M : Model} {A : Around} {E : Value → Shared → Prop} (I : Inv X pins σ H s) {us : List Value} {ds : List D} {Q : SortKind → Shared → Prop} (p : PlAll X c H us ds) (h0 : 0 < us.length) (hq : Q (kdD ds) s) : wpAny M A (keyKind' us.toArray) Q E s := by
  obtain ⟨u0, ur, rfl⟩ : ∃ u0 ur, us = u0 :: ur := by
    cases us with
    | nil => simp at h0
    | cons u ur => exact ⟨u, ur, rfl⟩
  obtain ⟨d0, dr, rfl⟩ : ∃ d0 dr, ds = d0 :: dr := by
    have := p.len
    cases ds with
    | nil => simp at this
    | cons d dr => exact ⟨d, dr, rfl⟩
  rw [kat_kind_eq, List.mapM_toArray, map_eq_pure_bind]
  refine wpAny_bind (wpAny_bind (firsts_wp I _ _ p.len p.at_ fun os k1 k2 => wpAny_pure ?_))
  have iso : ∀ (j : Nat) (o : Option Value) (d : D), os[j]? = some o → (d0 :: dr)[j]? = some d → o.isSome = (firstD d).isSome := fun j o d e1 e2 => by
    obtain ⟨q1, q2⟩ := k2 j o d e1 e2
    cases hf : firstD d with
    | none => rw [q1 hf]; rfl
    | some x =>
      obtain ⟨y, ey, _⟩ := q2 x hf
      rw [ey] <;> rfl
  by_cases hall : ((d0 :: dr).all fun d => (firstD d).isSome) = true
  · have hos : (os.toArray.all fun x => x.isSome) = true := by
      simp only [List.all_toArray, List.all_eq_true]
      intro o ho
      obtain ⟨j, hj⟩ := List.mem_iff_getElem?.mp ho
      have hl : j < (d0 :: dr).length := by rw [← k1]; exact (List.getElem?_eq_some_iff.mp hj).1
      have ed : (d0 :: dr)[j]? = some (d0 :: dr)[j] := List.getElem?_eq_getElem hl
      rw [iso j o _ hj ed]
      exact List.all_eq_true.mp hall _ (List.mem_of_getElem? ed)
    rw [if_pos hos]
    refine wpAny_bind (wpAny_rule ?_)
    have hs : ∀ (j : Nat) (d : D), (d0 :: dr)[j]? = some d → ∃ x y, firstD d = some x ∧ os[j]? = some (some y) ∧ PlV X c H 60 y x := fun j d e => by
      have hj : j < os.length := by rw [k1]; exact (List.getElem?_eq_some_iff.mp e).1
      have eo : os[j]? = some os[j] := List.getElem?_eq_getElem hj
      obtain ⟨q1, q2⟩ := k2 j _ d eo e
      have hso := List.all_eq_true.mp hall d (List.mem_of_getElem? e)
      cases hf : firstD d with
      | none => rw [hf] at hso; cases hso
      | some x =>
        obtain ⟨y, ey, py⟩ := q2 x hf
        exact ⟨x, y, rfl, by rw [eo, ey], py⟩
    have allT : ∀ d ∈ d0 :: dr, ∃ xs, d = .tup xs := fun d hd => by
      have := List.all_eq_true.mp hall d hd
      cases d with
      | tup xs => exact ⟨xs, rfl⟩
      | _ => simp [firstD] at this
    obtain ⟨x0, y0, f0, o0, p0⟩ := hs 0 d0 rfl
    have fm : ∀ y ∈ os.filterMap id, ∃ x, PlV X c H 60 y x ∧ tyD x = tyD x0 := fun y hy => by
      obtain ⟨o, ho, e⟩ := List.mem_filterMap.mp hy
      obtain ⟨j, hj⟩ := List.mem_iff_getElem?.mp ho
      have hl : j < (d0 :: dr).length := by rw [← k1]; exact (List.getElem?_eq_some_iff.mp hj).1
      have ed : (d0 :: dr)[j]? = some (d0 :: dr)[j] := List.getElem?_eq_getElem hl
      obtain ⟨x, z, fx, oz, pz⟩ := hs j _ ed
      rw [hj] at oz
      cases oz
      have e : some z = some y := e
      cases e
      refine ⟨x, pz, ?_⟩
      have ho2 := p.ord _ (List.mem_of_getElem? ed) d0 List.mem_cons_self
      obtain ⟨xs, ex⟩ := allT _ (List.mem_of_getElem? ed)
      obtain ⟨xs0, ex0⟩ := allT d0 List.mem_cons_self
      rw [ex] at fx ho2
      rw [ex0] at f0 ho2
      cases xs with
      | nil => simp [firstD] at fx
      | cons a xs =>
        cases xs0 with
        | nil => simp [firstD] at f0
        | cons b xs0 =>
          simp only [firstD, Option.some.injEq] at fx f0
          subst fx f0
          simp only [D.ord, D.ords, Bool.and_eq_true] at ho2
          exact ord_ty ho2.1
    have ne : os.filterMap id ≠ [] := fun e => by
      have : y0 ∈ os.filterMap id := List.mem_filterMap.mpr ⟨some y0, List.mem_of_getElem? o0, rfl⟩
      rw [e] at this
      cases this
    have efm : (os.toArray.filterMap id) = (os.filterMap id).toArray := by simp
    rw [efm]
    refine wpAny_bind (types_wp I (ty_self x0) ne fm ?_)
    unfold kdD at hq
    rw [if_pos hall] at hq
    have e0 : (((d0 :: dr).head?.bind firstD).getD .non) = x0 := by simp [f0]
    rw [e0] at hq
    exact wpAny_pure hq
  · have hos : ¬ (os.toArray.all fun x => x.isSome) = true := fun z => by
      refine hall (List.all_eq_true.mpr fun d hd => ?_)
      obtain ⟨j, hj⟩ := List.mem_iff_getElem?.mp hd
      have hl : j < os.length := by rw [k1]; exact (List.getElem?_eq_some_iff.mp hj).1
      have eo : os[j]? = some os[j] := List.getElem?_eq_getElem hl
      rw [← iso j _ d eo hj]
      simp only [List.all_toArray, List.all_eq_true] at z
      exact z _ (List.getElem_mem hl)
    rw [if_neg hos]
    have h1 : (os.toArray[0]?.bind id).isSome = ((d0 :: dr).head?.bind firstD).isSome := by
      have hl : 0 < os.length := by rw [k1]; simp
      have eo : os[0]? = some os[0] := List.getElem?_eq_getElem hl
      have := iso 0 _ d0 eo rfl
      simp only [List.getElem?_toArray, eo, Option.bind_some, List.head?_cons]
      exact this
    unfold kdD at hq
    rw [if_neg hall] at hq
    by_cases hf : ((d0 :: dr).head?.bind firstD).isSome = true
    · rw [if_pos (h1.trans hf)]
      rw [if_pos hf] at hq
      exact wpAny_pure hq
    · rw [if_neg (by rw [h1]; exact hf)]
      rw [if_neg hf] at hq
      refine wpAny_bind (types_wp (c := c) I (ty_self d0) (by simp) (fun u hu => ?_) ?_)
      · obtain ⟨d, hd, q⟩ := p.mem hu
        exact ⟨d, q, ord_ty (p.ord d hd d0 List.mem_cons_self)⟩
      · rw [if_pos (by rfl)]
        exact wpAny_pure hq

/-- any two compare by it -/
theorem keyLt_wp (I : Inv X pins σ H s) {A : Around} {ds : List D} {κ : SortKind} {u u' : Value} {d e : D} {Q : Bool → Shared → Prop} (hu : A.units + 60 < cLine) (k : KdOk X c H ds κ) (hd : d ∈ ds) (he : e ∈ ds) (h : PlV X c H 60 u d) (g : PlV X c H 60 u' e) (ho : D.ord d e = true) (hq : Q (D.lt d e) s) :
    wpAny (model prog w) A (keyLt' κ u u') Q E s := by
  cases k with
  | one =>
    rw [keyLt'_oneType]
    exact one_true I hu h g ho hq
  | gen =>
    show wpAny (model prog w) A (oneLt' false u u') Q E s
    exact one_false I hu h g ho hq
  | tup b hall =>
    obtain ⟨xs, rfl⟩ := hall d hd
    obtain ⟨ys, rfl⟩ := hall e he
    obtain ⟨a, o, its, m, rfl, h1, h2, h3, h4, h5⟩ := h.tup I
    obtain ⟨a', o', its', m', rfl, g1, g2, g3, g4, g5⟩ := g.tup I
    simp only [D.ord] at ho
    refine kat_lt h1 h3 g1 g3 ?_
    refine lex_plain (c := c) (n := 59) I (by omega) xs ys its.toList its'.toList 0 (by simpa using h4) (by simpa using g4) (fun j x y e1 e2 => ?_) (fun j x y e1 e2 => ?_) ho ?_
    · obtain ⟨z, ez, pz⟩ := h5 j x e1
      have : some z = some y := by rw [← ez, ← e2]; simp
      cases this
      exact pz
    · obtain ⟨z, ez, pz⟩ := g5 j x e1
      have : some z = some y := by rw [← ez, ← e2]; simp
      cases this
      exact pz
    · rw [h4, g4, ← lts_lexG]
      simp only [D.lt] at hq
      exact hq
end

/-! ### sortL, in plain Lean -/
theorem insD_perm (x : D) : ∀ l : List D, (insD x l).Perm (x :: l)
  | [] => List.Perm.refl _
  | y :: ys => by
    unfold insD
    split
    · exact ((insD_perm x ys).cons y).trans (List.Perm.swap x y ys)
    · exact List.Perm.refl _
theorem sortL_perm : ∀ l : List D, (sortL l).Perm l
  | [] => List.Perm.refl _
  | x :: xs => (insD_perm x (sortL xs)).trans ((sortL_perm xs).cons x)
abbrev SrD (l : List D) : Prop := l.Pairwise fun x y => D.lt y x = false
theorem insD_srt {n : Nat} (x : D) (hx : D.pl n x = true) : ∀ l : List D, (∀ y ∈ l, D.pl n y = true) → SrD l → SrD (insD x l)
  | [], _, _ => List.pairwise_singleton _ _
  | y :: ys, hp, hs => by
    obtain ⟨h1, h2⟩ := List.pairwise_cons.mp hs
    unfold insD
    split
    · rename_i hlt
      refine List.pairwise_cons.mpr ⟨fun z hz => ?_, insD_srt x hx ys (fun z hz => hp z (List.mem_cons_of_mem _ hz)) h2⟩
      rcases List.mem_cons.mp ((insD_perm x ys).mem_iff.mp hz) with e | hz
      · subst e
        exact D.lt_asym n y z (hp y List.mem_cons_self) hx hlt
      · exact h1 z hz
    · rename_i hlt
      have hyx : D.lt y x = false := by simpa using hlt
      refine List.pairwise_cons.mpr ⟨fun z hz => ?_, hs⟩
      rcases List.mem_cons.mp hz with e | hz
      · subst e
        exact hyx
      · have hzy := h1 z hz
        cases e : D.lt z x with
        | false => rfl
        | true =>
          by_cases q : y = z
          · subst q; rw [hyx] at e; cases e
          · have := D.lt_tot n z y (hp z (List.mem_cons_of_mem _ hz)) (hp y List.mem_cons_self) (Ne.symm q) hzy
            rw [D.lt_trans n y z x (hp y List.mem_cons_self) (hp z (List.mem_cons_of_mem _ hz)) hx this e] at hyx
            cases hyx
theorem sortL_srt {n : Nat} : ∀ l : List D, (∀ y ∈ l, D.pl n y = true) → SrD (sortL l)
  | [], _ => List.Pairwise.nil
  | x :: xs, hp => insD_srt x (hp x List.mem_cons_self) _ (fun y hy => hp y (List.mem_cons_of_mem _ ((sortL_perm xs).mem_iff.mp hy))) (sortL_srt xs fun y hy => hp y (List.mem_cons_of_mem _ hy))
theorem srt_unique {n : Nat} {a b : List D} (hp : ∀ y ∈ a, D.pl n y = true) (h : a.Perm b) (ha : SrD a) (hb : SrD b) : a = b := by
  refine h.eq_of_pairwise (le := fun x y => D.lt y x = false) (fun x y hx hy h1 h2 => ?_) ha hb
  by_cases e : x = y
  · exact e
  · rw [D.lt_tot n x y (hp x hx) (hp y (h.mem_iff.mpr hy)) e h2] at h1
    cases h1

section
variable {X : Cx} {pins : List (Addr × Obj)} {σ : L2.St} {H : Hp} {s : Shared} {c : Cn}
open Classical in
/-- the plain value that a value is, 0 where it is none -/
noncomputable def keyOf (X : Cx) (c : Cn) (H : Hp) (u : Value) : D := if h : ∃ d, PlV X c H 60 u d then h.choose else .int 0
theorem keyOf_is {u : Value} {d : D} (h : PlV X c H 60 u d) : keyOf X c H u = d := by
  unfold keyOf
  have hx : ∃ d, PlV X c H 60 u d := ⟨d, h⟩
  rw [dif_pos hx]
  exact hx.choose_spec.det h
theorem keyOf_pl (u : Value) : D.pl 60 (keyOf X c H u) = true := by
  unfold keyOf
  split
  · rename_i h
    exact h.choose_spec.1
  · rfl
theorem keyOf_swo : SrtO.Swo fun u u' => D.lt (keyOf X c H u) (keyOf X c H u') := by
  refine ⟨fun x y h => D.lt_asym 60 _ _ (keyOf_pl x) (keyOf_pl y) h, fun x y z h1 h2 => ?_⟩
  have h1 : D.lt (keyOf X c H y) (keyOf X c H x) = false := h1
  have h2 : D.lt (keyOf X c H z) (keyOf X c H y) = false := h2
  show D.lt (keyOf X c H z) (keyOf X c H x) = false
  generalize hx : keyOf X c H x = a at h1 ⊢
  generalize hy : keyOf X c H y = b at h1 h2
  generalize hz : keyOf X c H z = d at h2 ⊢
  have pa : D.pl 60 a = true := hx ▸ keyOf_pl x
  have pb : D.pl 60 b = true := hy ▸ keyOf_pl y
  have pd : D.pl 60 d = true := hz ▸ keyOf_pl z
  cases e : D.lt d a with
  | false => rfl
  | true =>
    by_cases q : b = d
    · subst q; rw [h1] at e; cases e
    · have := D.lt_tot 60 d b pd pb (Ne.symm q) h2
      rw [D.lt_trans 60 b d a pb pd pa this e] at h1
      cases h1

theorem plAll_of {us : List Value} {vs : List V} {ds : List D} (rv : Vals vs us) (rd : Rps X.prog X.w X.K c H vs ds) (h : sortOk ds = true) : PlAll X c H us ds := by
  unfold sortOk at h
  simp only [List.all_eq_true, Bool.and_eq_true] at h
  refine ⟨by rw [← rv.length, rd.length], fun j u d e1 e2 => ?_, fun d hd e he => (h d hd).2 e he⟩
  obtain ⟨v, ev, r⟩ := rd.get e2
  obtain ⟨u', eu, q⟩ := rv.get ev
  rw [e1] at eu
  cases eu
  exact ⟨(h d (List.mem_of_getElem? e2)).1, v, r, q⟩

theorem out_vals {us : List Value} {ds : List D} (p : PlAll X c H us ds) {out : List Value} (hs : SrtO.Srtd (fun u u' => D.lt (keyOf X c H u) (keyOf X c H u')) out) (hp : out.Perm us) : ∃ ws, Vals ws out ∧ Rps X.prog X.w X.K c H ws (sortL ds) := by
  have k1 : us.map (keyOf X c H) = ds := by
    refine List.ext_getElem? fun j => ?_
    rw [List.getElem?_map]
    cases e : us[j]? with
    | none =>
      have : us.length ≤ j := List.getElem?_eq_none_iff.mp e
      rw [p.len] at this
      rw [List.getElem?_eq_none this]
      rfl
    | some u =>
      have hj : j < ds.length := by rw [← p.len]; exact (List.getElem?_eq_some_iff.mp e).1
      have ed : ds[j]? = some ds[j] := List.getElem?_eq_getElem hj
      rw [ed, Option.map_some, keyOf_is (p.at_ j u _ e ed)]
  have k2 : out.map (keyOf X c H) = sortL ds := by
    refine srt_unique (n := 60) (fun y hy => ?_) ?_ (List.pairwise_map.mpr hs) (sortL_srt (n := 60) ds fun y hy => ?_)
    · obtain ⟨u, _, rfl⟩ := List.mem_map.mp hy
      exact keyOf_pl u
    · rw [← k1] at *
      exact (hp.map _).trans (sortL_perm _).symm
    · obtain ⟨j, hj⟩ := List.mem_iff_getElem?.mp hy
      have hl : j < us.length := by rw [p.len]; exact (List.getElem?_eq_some_iff.mp hj).1
      exact (p.at_ j _ y (List.getElem?_eq_getElem hl) hj).1
  rw [← k2]
  have hm : ∀ u ∈ out, ∃ v, RelV v u ∧ Rp X.prog X.w X.K c H v (keyOf X c H u) := fun u hu => by
    obtain ⟨d, _, q⟩ := p.mem (hp.mem_iff.mp hu)
    rw [keyOf_is q]
    obtain ⟨_, v, r, q⟩ := q
    exact ⟨v, q, r⟩
  clear hs hp k2
  induction out with
  | nil => exact ⟨[], .nil, .nil⟩
  | cons u out ih =>
    obtain ⟨v, q, r⟩ := hm u List.mem_cons_self
    obtain ⟨ws, h1, h2⟩ := ih fun u hu => hm u (List.mem_cons_of_mem _ hu)
    exact ⟨v :: ws, .cons q h1, .cons r h2⟩

/-- sorted of a list or a tuple -/
theorem sorted_D (I : Inv X pins σ H s) (hu : X.A.units + 64 < cLine) {v : V} {u : Value} {a : Addr} {vs : List V} {ds : List D} {Q : VK} (hv : v = .ref a) (hH : H a = some (.lst vs) ∨ H a = some (.tup vs)) (rd : Rps X.prog X.w X.K c H vs ds) (ru : RelV v u) (h : sortOk ds = true)
    (hq : ∀ p ws, H p = none → Rps X.prog X.w X.K c H ws (sortL ds) → Q (.ref p) (upd H p (.lst ws))) : wpAny (model X.prog X.w) X.A (call (.builtin "sorted") [u]) (EP X pins σ Q) X.xe s := by
  subst hv
  cases ru
  obtain ⟨T, o, its, n, hT, ho, hc, hd, rv, hz⟩ : ∃ (T : String) (o : Obj) (its : Array Value) (n : Nat), (T = "list" ∨ T = "tuple") ∧ s.heap.get? a = some o ∧ o.cls = .type T ∧ o.data = .seq its n ∧ Vals vs its.toList ∧ its.size ≤ sizeLine := by
    rcases hH with hH | hH
    · obtain ⟨z, its, n, rv, e⟩ := I.hok _ _ hH
      exact ⟨"list", _, its.toArray, n, .inl rfl, e, rfl, rfl, by simpa using rv, by simpa [← rv.length] using z⟩
    · obtain ⟨z, its, rv, o, e, hc, n, hd⟩ := I.hok _ _ hH
      exact ⟨"tuple", o, its.toArray, n, .inr rfl, e, hc, hd, by simpa using rv, by simpa [← rv.length] using z⟩
  have p := plAll_of rv rd h
  have hzl : its.toList.length ≤ sizeLine := by simpa using hz
  refine Calls.call_function_entry kind_sorted plain_sorted entry_sorted (args_sorted1 _) ?_
  unfold Builtin.«sorted»
  refine wpAny_bind (m := checkCount "sorted" 1 1 _) (wpAny_pure ?_)
  refine wpAny_bind (wpAny_collect_seq a hT ho hc hd (fun h' keep => ?_) hz)
  refine wpAny_bind (wpAny_newList ?_ hzl)
  have ho2 : (h'.push (seqObj "list" its.toList.toArray 0)).get? h'.objs.size = some (seqObj "list" its.toList.toArray 0) := Heap.get?_push_size _ rfl
  have keep2 : ∀ b o, s.heap.get? b = some o → b ≠ h'.objs.size ∧ (h'.push (seqObj "list" its.toList.toArray 0)).get? b = some o := fun b o e => ⟨Nat.ne_of_lt (Heap.lt_size (keep b o e)), Heap.get?_push_of_some _ (keep b o e)⟩
  show wpAny _ _ _ _ _ { s with heap := h'.push (seqObj "list" its.toList.toArray 0) }
  refine wpAny_bind (wpAny_holding (wpAny_call_entry slot_list_sort ⟨_, ho2, rfl⟩ entry_list_sort (SrtO.list_sort_ord (ltv := fun u u' => D.lt (keyOf X c H u) (keyOf X c H u')) keyOf_swo ho2 hzl (fun h2 => ?_) fun out hs hb => ⟨_, rfl, ?_⟩) (args_list_sort _)))
  · intro h3 k3
    have I3 : Inv X pins σ H { s with heap := h3 } := I.kept (t' := s.toks) fun b o e => k3 b o (keep2 b o e).1 (keep2 b o e).2
    refine ⟨kdD ds, fun Q E hq => kind_wp I3 p (by omega) hq, fun x y hx hy => ?_⟩
    obtain ⟨d, hd, px⟩ := p.mem hx
    obtain ⟨e, he, py⟩ := p.mem hy
    have l2 : SrtO.lt2 (fun u u' => D.lt (keyOf X c H u) (keyOf X c H u')) x y = D.lt d e := by
      show D.lt (keyOf X c H x.1) (keyOf X c H y.1) = _
      rw [keyOf_is px, keyOf_is py]
    refine keyLt_wp I3 ?_ (kdD_ok ds) hd he px py (p.ord d hd e he) ⟨rfl, l2.symm⟩
    have e1 : X.A.in1.in1.units = X.A.units + 2 := by rw [Around.in1_units, Around.in1_units]
    omega
  · obtain ⟨ws, h1, h2⟩ := out_vals p hs hb.perm
    obtain ⟨ep, he'⟩ := sortedHeap_at (vs := its.toList) (out := out.toArray) ho2
    have hn : H h'.objs.size = none := (I.kept (t' := s.toks) keep).hok.fresh (Nat.le_refl _)
    have hlen : ws.length ≤ sizeLine := by
      have e1 := h1.length
      have e2 := hb.perm.length_eq
      omega
    refine wpAny_pure ⟨_, rfl, .ref h'.objs.size, upd H h'.objs.size (.lst ws), ?_, rfl, hq _ ws hn h2⟩
    refine I.laidN (t' := s.toks) (fun b o e => ?_) ?_ hn ⟨hlen, out, ep, h1, he'⟩
    · have q := keep2 b o e
      rw [sortedHeap_old q.1 (Heap.lt_size q.2)]
      exact q.2
    · cases e : s.heap.get? h'.objs.size with
      | some o => exact absurd rfl (keep2 _ o e).1
      | none => rfl
end
end NW
set_option autoImplicit false
set_option linter.all false
set_option maxRecDepth 100000
set_option maxHeartbeats 1000000
/-! NwMin: min and max over a list or a tuple of plain values; the comparison may read the heap. -/
namespace NW
open PySem PySem.W PyProof.Rows L2

section
variable {prog : Program} {w : World} {A : Around} {R : Result → Shared → Prop} {I : Addr} {fp wr : List Addr} {n : Nat} {P : Nat → Value → Prop} {St : Nat → Heap → Prop}
/-- all that stood in h0 stands -/
def KpH (h0 h : Heap) : Prop := ∀ b o, h0.get? b = some o → h.get? b = some o
/-- how the items compare, in every heap that keeps what stood -/
def CmpH (A : Around) (h0 : Heap) (op : CmpOp) (P : Nat → Value → Prop) (bt : Nat → Nat → Bool) : Prop := ∀ (t : Shared) (i j : Nat) (x y : Value), KpH h0 t.heap → P i x → P j y → Ob.RcOp op A t x y (bt i j)

theorem min_loopH {h0 : Heap} (W : Walks prog w A.in1 I fp wr n P St) (bt : Nat → Nat → Bool) (hc : CmpH A.in1 h0 .Lt P bt) (T : Addr) (nf : T ∉ fp) (n1 : ∀ b ∈ wr, h0.get? b = none) (n2 : h0.get? T = none) :
    ∀ (k j : Nat) (t : Shared) (x : Value) (c : Nat), n - (j + 1) = k → j + 1 ≤ n → St (j + 1) t.heap → P (argBest bt j) x → KpH h0 t.heap → t.heap.get? T = some { cls := .type "list", dict := none, data := .seq #[x, x] c, slots := #[] } →
      (∀ y h tk, P (argBest bt (n - 1)) y → KpH h0 h → R (.ok (.ret y)) { t with heap := h, toks := tk }) → codeAny (model prog w) A (.builtin "min.loop" ⟨[.ref I, .none, .ref T], []⟩) R t := by
  have nw : T ∉ wr := fun z => nf (W.sub _ z)
  have nm : (toString "min" ++ toString ".loop" : String) = "min.loop" := by decide
  have kp : ∀ {h h' : Heap}, KpH h0 h → (∀ b o, b ∉ wr → h.get? b = some o → h'.get? b = some o) → KpH h0 h' := fun k q b o e => q b o (fun z => by rw [n1 b z] at e; cases e) (k b o e)
  have ks : ∀ {h : Heap} (f : Obj → Obj), KpH h0 h → KpH h0 (h.update T f) := fun f k b o e => (Heap.get?_update_other _ _ (fun z : T = b => by rw [z, e] at n2; cases n2)).trans (k b o e)
  intro k
  induction k with
  | zero =>
    intro j t x c e1 e2 st hx hk hT hR
    have en : j + 1 = n := by omega
    refine codeAny_builtin F.entry_min_loop ?_; rw [Around.under_plainId F.plain_min_loop _]
    show wpAny _ A.in1 (seqItems? (.ref T) >>= _) _ _ t
    refine wpAny_bind (wpAny_seqItems hT rfl ?_); show wpAny _ A.in1 (tryCatch (pyNext (.ref I)) _ >>= _) _ _ t
    refine wpAny_bind (wpAny_tryCatch (W.done t _ _ (en ▸ st) fun h tk q => ?_))
    show wpAny _ A.in1 (updateSeq T (fun _ => #[]) >>= _) _ _ _
    refine wpAny_bind (wpAny_updateSeq (q T _ nw hT) rfl (wpAny_bind (wpAny_letGo (wpAny_pure ?_))))
    exact hR x _ tk (by rw [← en]; exact hx) (ks _ (kp hk q))
  | succ k ih =>
    intro j t x c e1 e2 st hx hk hT hR
    have en : j + 1 < n := by omega
    refine codeAny_builtin F.entry_min_loop ?_; rw [Around.under_plainId F.plain_min_loop _]
    show wpAny _ A.in1 (seqItems? (.ref T) >>= _) _ _ t
    refine wpAny_bind (wpAny_seqItems hT rfl ?_); show wpAny _ A.in1 (tryCatch (pyNext (.ref I)) _ >>= _) _ _ t
    refine wpAny_bind (wpAny_tryCatch (W.item (j + 1) t _ _ en st fun y h tk hy st' q => ?_))
    have hT' := q T _ nw hT
    show wpAny _ A.in1 (tryCatch (holding [y, y] (richCompare .Lt y x >>= _)) _ >>= _) _ _ _
    refine wpAny_bind (wpAny_tryCatch (wpAny_holding (wpAny_bind (hc _ (j + 1) (argBest bt j) y x (kp hk q) hy hx _ _ _ _ ?_))))
    refine wpAny_bind (wpAny_holding (wpAny_truthy_bool ?_)); refine wpAny_bind (wpAny_letGo (wpAny_pure ?_))
    cases hb : bt (j + 1) (argBest bt j) with
    | true =>
      simp only [if_true]
      refine wpAny_bind (wpAny_updateSeq hT' rfl (wpAny_bind (wpAny_letGo ?_))); rw [nm]
      refine wpAny_pure ⟨plainId_quiet F.plain_min_loop _, ih (j + 1) _ y _ (by omega) en (W.frame _ _ _ st' fun b hb' o e => (Heap.get?_update_other _ _ (fun z : T = b => nf (by rw [z]; exact hb'))).trans e) (by simp only [argBest, hb, if_true]; exact hy) (ks _ (kp hk q)) (Heap.get?_update_self _ hT' rfl) fun z h' tk' a1 a2 => hR z h' tk' a1 a2⟩
    | false =>
      simp only [Bool.false_eq_true, if_false]
      refine wpAny_bind (wpAny_letGo ?_); rw [nm]
      exact wpAny_pure ⟨plainId_quiet F.plain_min_loop _, ih (j + 1) _ x c (by omega) en st' (by simp only [argBest, hb, Bool.false_eq_true, if_false]; exact hx) (kp hk q) hT' fun z h' tk' a1 a2 => hR z h' tk' a1 a2⟩

theorem max_loopH {h0 : Heap} (W : Walks prog w A.in1 I fp wr n P St) (bt : Nat → Nat → Bool) (hc : CmpH A.in1 h0 .Gt P bt) (T : Addr) (nf : T ∉ fp) (n1 : ∀ b ∈ wr, h0.get? b = none) (n2 : h0.get? T = none) :
    ∀ (k j : Nat) (t : Shared) (x : Value) (c : Nat), n - (j + 1) = k → j + 1 ≤ n → St (j + 1) t.heap → P (argBest bt j) x → KpH h0 t.heap → t.heap.get? T = some { cls := .type "list", dict := none, data := .seq #[x, x] c, slots := #[] } →
      (∀ y h tk, P (argBest bt (n - 1)) y → KpH h0 h → R (.ok (.ret y)) { t with heap := h, toks := tk }) → codeAny (model prog w) A (.builtin "max.loop" ⟨[.ref I, .none, .ref T], []⟩) R t := by
  have nw : T ∉ wr := fun z => nf (W.sub _ z)
  have nm : (toString "max" ++ toString ".loop" : String) = "max.loop" := by decide
  have kp : ∀ {h h' : Heap}, KpH h0 h → (∀ b o, b ∉ wr → h.get? b = some o → h'.get? b = some o) → KpH h0 h' := fun k q b o e => q b o (fun z => by rw [n1 b z] at e; cases e) (k b o e)
  have ks : ∀ {h : Heap} (f : Obj → Obj), KpH h0 h → KpH h0 (h.update T f) := fun f k b o e => (Heap.get?_update_other _ _ (fun z : T = b => by rw [z, e] at n2; cases n2)).trans (k b o e)
  intro k
  induction k with
  | zero =>
    intro j t x c e1 e2 st hx hk hT hR
    have en : j + 1 = n := by omega
    refine codeAny_builtin F.entry_max_loop ?_; rw [Around.under_plainId F.plain_max_loop _]
    show wpAny _ A.in1 (seqItems? (.ref T) >>= _) _ _ t
    refine wpAny_bind (wpAny_seqItems hT rfl ?_); show wpAny _ A.in1 (tryCatch (pyNext (.ref I)) _ >>= _) _ _ t
    refine wpAny_bind (wpAny_tryCatch (W.done t _ _ (en ▸ st) fun h tk q => ?_))
    show wpAny _ A.in1 (updateSeq T (fun _ => #[]) >>= _) _ _ _
    refine wpAny_bind (wpAny_updateSeq (q T _ nw hT) rfl (wpAny_bind (wpAny_letGo (wpAny_pure ?_))))
    exact hR x _ tk (by rw [← en]; exact hx) (ks _ (kp hk q))
  | succ k ih =>
    intro j t x c e1 e2 st hx hk hT hR
    have en : j + 1 < n := by omega
    refine codeAny_builtin F.entry_max_loop ?_; rw [Around.under_plainId F.plain_max_loop _]
    show wpAny _ A.in1 (seqItems? (.ref T) >>= _) _ _ t
    refine wpAny_bind (wpAny_seqItems hT rfl ?_); show wpAny _ A.in1 (tryCatch (pyNext (.ref I)) _ >>= _) _ _ t
    refine wpAny_bind (wpAny_tryCatch (W.item (j + 1) t _ _ en st fun y h tk hy st' q => ?_))
    have hT' := q T _ nw hT
    show wpAny _ A.in1 (tryCatch (holding [y, y] (richCompare .Gt y x >>= _)) _ >>= _) _ _ _
    refine wpAny_bind (wpAny_tryCatch (wpAny_holding (wpAny_bind (hc _ (j + 1) (argBest bt j) y x (kp hk q) hy hx _ _ _ _ ?_))))
    refine wpAny_bind (wpAny_holding (wpAny_truthy_bool ?_)); refine wpAny_bind (wpAny_letGo (wpAny_pure ?_))
    cases hb : bt (j + 1) (argBest bt j) with
    | true =>
      simp only [if_true]
      refine wpAny_bind (wpAny_updateSeq hT' rfl (wpAny_bind (wpAny_letGo ?_))); rw [nm]
      refine wpAny_pure ⟨plainId_quiet F.plain_max_loop _, ih (j + 1) _ y _ (by omega) en (W.frame _ _ _ st' fun b hb' o e => (Heap.get?_update_other _ _ (fun z : T = b => nf (by rw [z]; exact hb'))).trans e) (by simp only [argBest, hb, if_true]; exact hy) (ks _ (kp hk q)) (Heap.get?_update_self _ hT' rfl) fun z h' tk' a1 a2 => hR z h' tk' a1 a2⟩
    | false =>
      simp only [Bool.false_eq_true, if_false]
      refine wpAny_bind (wpAny_letGo ?_); rw [nm]
      exact wpAny_pure ⟨plainId_quiet F.plain_max_loop _, ih (j + 1) _ x c (by omega) en st' (by simp only [argBest, hb, Bool.false_eq_true, if_false]; exact hx) (kp hk q) hT' fun z h' tk' a1 a2 => hR z h' tk' a1 a2⟩

theorem min_firstH {h0 : Heap} (W : Walks prog w A.in1 I fp wr n P St) (bt : Nat → Nat → Bool) (hc : CmpH A.in1 h0 .Lt P bt) (T : Addr) (nf : T ∉ fp) (n1 : ∀ b ∈ wr, h0.get? b = none) (n2 : h0.get? T = none) (hn : 0 < n) {t : Shared} {c : Nat} (st : St 0 t.heap) (hk : KpH h0 t.heap)
    (hT : t.heap.get? T = some { cls := .type "list", dict := none, data := .seq #[] c, slots := #[] }) (hR : ∀ y h tk, P (argBest bt (n - 1)) y → KpH h0 h → R (.ok (.ret y)) { t with heap := h, toks := tk }) : codeAny (model prog w) A (.builtin "min.loop" ⟨[.ref I, .none, .ref T], []⟩) R t := by
  have nw : T ∉ wr := fun z => nf (W.sub _ z)
  have nm : (toString "min" ++ toString ".loop" : String) = "min.loop" := by decide
  refine codeAny_builtin F.entry_min_loop ?_; rw [Around.under_plainId F.plain_min_loop _]
  show wpAny _ A.in1 (seqItems? (.ref T) >>= _) _ _ t
  refine wpAny_bind (wpAny_seqItems hT rfl ?_); show wpAny _ A.in1 (tryCatch (pyNext (.ref I)) _ >>= _) _ _ t
  refine wpAny_bind (wpAny_tryCatch (W.item 0 t _ _ hn st fun y h tk hy st' q => ?_))
  have hk' : KpH h0 h := fun b o e => q b o (fun z => by rw [n1 b z] at e; cases e) (hk b o e)
  have hT' := q T _ nw hT
  show wpAny _ A.in1 (updateSeq T (fun _ => #[y, y]) >>= _) _ _ _
  refine wpAny_bind (wpAny_updateSeq hT' rfl ?_); rw [nm]
  exact wpAny_pure ⟨plainId_quiet F.plain_min_loop _, min_loopH W bt hc T nf n1 n2 _ 0 _ y _ rfl hn (W.frame _ _ _ st' fun b hb o e => (Heap.get?_update_other _ _ (fun z : T = b => nf (by rw [z]; exact hb))).trans e) hy
    (fun b o e => (Heap.get?_update_other _ _ (fun z : T = b => by rw [z, e] at n2; cases n2)).trans (hk' b o e)) (Heap.get?_update_self _ hT' rfl) fun z h' tk' a1 a2 => hR z h' tk' a1 a2⟩
theorem max_firstH {h0 : Heap} (W : Walks prog w A.in1 I fp wr n P St) (bt : Nat → Nat → Bool) (hc : CmpH A.in1 h0 .Gt P bt) (T : Addr) (nf : T ∉ fp) (n1 : ∀ b ∈ wr, h0.get? b = none) (n2 : h0.get? T = none) (hn : 0 < n) {t : Shared} {c : Nat} (st : St 0 t.heap) (hk : KpH h0 t.heap)
    (hT : t.heap.get? T = some { cls := .type "list", dict := none, data := .seq #[] c, slots := #[] }) (hR : ∀ y h tk, P (argBest bt (n - 1)) y → KpH h0 h → R (.ok (.ret y)) { t with heap := h, toks := tk }) : codeAny (model prog w) A (.builtin "max.loop" ⟨[.ref I, .none, .ref T], []⟩) R t := by
  have nw : T ∉ wr := fun z => nf (W.sub _ z)
  have nm : (toString "max" ++ toString ".loop" : String) = "max.loop" := by decide
  refine codeAny_builtin F.entry_max_loop ?_; rw [Around.under_plainId F.plain_max_loop _]
  show wpAny _ A.in1 (seqItems? (.ref T) >>= _) _ _ t
  refine wpAny_bind (wpAny_seqItems hT rfl ?_); show wpAny _ A.in1 (tryCatch (pyNext (.ref I)) _ >>= _) _ _ t
  refine wpAny_bind (wpAny_tryCatch (W.item 0 t _ _ hn st fun y h tk hy st' q => ?_))
  have hk' : KpH h0 h := fun b o e => q b o (fun z => by rw [n1 b z] at e; cases e) (hk b o e)
  have hT' := q T _ nw hT
  show wpAny _ A.in1 (updateSeq T (fun _ => #[y, y]) >>= _) _ _ _
  refine wpAny_bind (wpAny_updateSeq hT' rfl ?_); rw [nm]
  exact wpAny_pure ⟨plainId_quiet F.plain_max_loop _, max_loopH W bt hc T nf n1 n2 _ 0 _ y _ rfl hn (W.frame _ _ _ st' fun b hb o e => (Heap.get?_update_other _ _ (fun z : T = b => nf (by rw [z]; exact hb))).trans e) hy
    (fun b o e => (Heap.get?_update_other _ _ (fun z : T = b => by rw [z, e] at n2; cases n2)).trans (hk' b o e)) (Heap.get?_update_self _ hT' rfl) fun z h' tk' a1 a2 => hR z h' tk' a1 a2⟩
end

section
variable {prog : Program} {w : World} {A : Around} {E : Value → Shared → Prop} {s : Shared}
/-- min(x), max(x) over what x walks -/
theorem call_minH {x : Value} {Q : Value → Shared → Prop} (h : wpAny (model prog w) A.in1 (pyIter x) (fun it t => ∃ I fp wr n P St bt h0, it = .ref I ∧ Walks prog w A.in1 I fp wr n P St ∧ St 0 t.heap ∧ (∀ b ∈ fp, b < t.heap.objs.size) ∧ 0 < n ∧ CmpH A.in1 h0 .Lt P bt ∧ KpH h0 t.heap ∧ (∀ b ∈ wr, h0.get? b = none) ∧
      ∀ y h tk, P (argBest bt (n - 1)) y → KpH h0 h → Q y { t with heap := h, toks := tk }) E s) : wpAny (model prog w) A (call (.builtin "min") [x]) Q E s := by
  have nm : (toString "min" ++ toString ".loop" : String) = "min.loop" := by decide
  refine call_function_tree F.kind_min F.plain_min F.entry_min (F.args_min1 _) ?_
  show wpAny _ A.in1 (Builtin.Builtins.bindParams "min" ["key", "default"] 0 ⟨[], []⟩ >>= _) _ _ s
  refine wpAny_bind (wpAny_of_eq (show Builtin.Builtins.bindParams "min" ["key", "default"] 0 ⟨[], []⟩ = pure [none, none] from rfl) (wpAny_bind (wpAny_pure (wpAny_bind (wpAny_mono h (fun it t g => ?_) fun _ _ e => e)))))
  obtain ⟨I, fp, wr, n, P, St, bt, h0, rfl, W, st, hf, hn, hc, hk, n1, hQ⟩ := g
  have nf : t.heap.objs.size ∉ fp := fun z => Nat.lt_irrefl _ (hf _ z)
  refine wpAny_bind (wpAny_newObj_type ?_); rw [nm]
  refine wpAny_pure ⟨plainId_quiet F.plain_min_loop _, min_firstH W bt hc t.heap.objs.size nf n1 ?_ hn (W.frame _ _ _ st fun b _ o e => Heap.get?_push_of_some _ e) (fun b o e => Heap.get?_push_of_some _ (hk b o e)) (Heap.get?_push_size _ rfl) hQ⟩
  cases e : h0.get? t.heap.objs.size with
  | none => rfl
  | some o => exact absurd (Heap.lt_size (hk _ o e)) (Nat.lt_irrefl _)
theorem call_maxH {x : Value} {Q : Value → Shared → Prop} (h : wpAny (model prog w) A.in1 (pyIter x) (fun it t => ∃ I fp wr n P St bt h0, it = .ref I ∧ Walks prog w A.in1 I fp wr n P St ∧ St 0 t.heap ∧ (∀ b ∈ fp, b < t.heap.objs.size) ∧ 0 < n ∧ CmpH A.in1 h0 .Gt P bt ∧ KpH h0 t.heap ∧ (∀ b ∈ wr, h0.get? b = none) ∧
      ∀ y h tk, P (argBest bt (n - 1)) y → KpH h0 h → Q y { t with heap := h, toks := tk }) E s) : wpAny (model prog w) A (call (.builtin "max") [x]) Q E s := by
  have nm : (toString "max" ++ toString ".loop" : String) = "max.loop" := by decide
  refine call_function_tree F.kind_max F.plain_max F.entry_max (F.args_max1 _) ?_
  show wpAny _ A.in1 (Builtin.Builtins.bindParams "max" ["key", "default"] 0 ⟨[], []⟩ >>= _) _ _ s
  refine wpAny_bind (wpAny_of_eq (show Builtin.Builtins.bindParams "max" ["key", "default"] 0 ⟨[], []⟩ = pure [none, none] from rfl) (wpAny_bind (wpAny_pure (wpAny_bind (wpAny_mono h (fun it t g => ?_) fun _ _ e => e)))))
  obtain ⟨I, fp, wr, n, P, St, bt, h0, rfl, W, st, hf, hn, hc, hk, n1, hQ⟩ := g
  have nf : t.heap.objs.size ∉ fp := fun z => Nat.lt_irrefl _ (hf _ z)
  refine wpAny_bind (wpAny_newObj_type ?_); rw [nm]
  refine wpAny_pure ⟨plainId_quiet F.plain_max_loop _, max_firstH W bt hc t.heap.objs.size nf n1 ?_ hn (W.frame _ _ _ st fun b _ o e => Heap.get?_push_of_some _ e) (fun b o e => Heap.get?_push_of_some _ (hk b o e)) (Heap.get?_push_size _ rfl) hQ⟩
  cases e : h0.get? t.heap.objs.size with
  | none => rfl
  | some o => exact absurd (Heap.lt_size (hk _ o e)) (Nat.lt_irrefl _)
end

/-! ### the least and the greatest, in plain Lean -/
theorem argBest_le (bt : Nat → Nat → Bool) : ∀ k, argBest bt k ≤ k
  | 0 => Nat.le_refl _
  | k + 1 => by
    unfold argBest
    split
    · exact Nat.le_refl _
    · exact Nat.le_succ_of_le (argBest_le bt k)
/-- the first least one -/
theorem argBest_min {n : Nat} {ds : List D} (hp : ∀ d ∈ ds, D.pl n d = true) (bt : Nat → Nat → Bool) (hb : ∀ i j x y, ds[i]? = some x → ds[j]? = some y → bt i j = D.lt x y) :
    ∀ k (hk : k < ds.length), ∃ m, ds[argBest bt k]? = some m ∧ ∀ i x, i ≤ k → ds[i]? = some x → D.lt x m = false := by
  intro k
  induction k with
  | zero =>
    intro hk
    refine ⟨ds[0], List.getElem?_eq_getElem hk, fun i x hi e => ?_⟩
    have : i = 0 := by omega
    subst this
    rw [List.getElem?_eq_getElem hk] at e
    cases e
    exact D.lt_irrefl _
  | succ k ih =>
    intro hk
    obtain ⟨m, hm, hl⟩ := ih (by omega)
    have e1 : ds[k + 1]? = some ds[k + 1] := List.getElem?_eq_getElem hk
    have eb := hb (k + 1) (argBest bt k) _ _ e1 hm
    have pm := hp m (List.mem_of_getElem? hm)
    have pk := hp _ (List.mem_of_getElem? e1)
    unfold argBest
    rw [eb]
    cases c : D.lt ds[k + 1] m with
    | true =>
      simp only [if_true]
      refine ⟨_, e1, fun i x hi e => ?_⟩
      by_cases q : i = k + 1
      · subst q
        rw [e1] at e
        cases e
        exact D.lt_irrefl _
      · have h1 := hl i x (by omega) e
        have px := hp x (List.mem_of_getElem? e)
        cases z : D.lt x ds[k + 1] with
        | false => rfl
        | true =>
          rw [D.lt_trans n _ _ _ px pk pm z c] at h1
          cases h1
    | false =>
      simp only [Bool.false_eq_true, if_false]
      refine ⟨m, hm, fun i x hi e => ?_⟩
      by_cases q : i = k + 1
      · subst q
        rw [e1] at e
        cases e
        exact c
      · exact hl i x (by omega) e
theorem argBest_max {n : Nat} {ds : List D} (hp : ∀ d ∈ ds, D.pl n d = true) (bt : Nat → Nat → Bool) (hb : ∀ i j x y, ds[i]? = some x → ds[j]? = some y → bt i j = D.lt y x) :
    ∀ k (hk : k < ds.length), ∃ m, ds[argBest bt k]? = some m ∧ ∀ i x, i ≤ k → ds[i]? = some x → D.lt m x = false := by
  intro k
  induction k with
  | zero =>
    intro hk
    refine ⟨ds[0], List.getElem?_eq_getElem hk, fun i x hi e => ?_⟩
    have : i = 0 := by omega
    subst this
    rw [List.getElem?_eq_getElem hk] at e
    cases e
    exact D.lt_irrefl _
  | succ k ih =>
    intro hk
    obtain ⟨m, hm, hl⟩ := ih (by omega)
    have e1 : ds[k + 1]? = some ds[k + 1] := List.getElem?_eq_getElem hk
    have eb := hb (k + 1) (argBest bt k) _ _ e1 hm
    have pm := hp m (List.mem_of_getElem? hm)
    have pk := hp _ (List.mem_of_getElem? e1)
    unfold argBest
    rw [eb]
    cases c : D.lt m ds[k + 1] with
    | true =>
      simp only [if_true]
      refine ⟨_, e1, fun i x hi e => ?_⟩
      by_cases q : i = k + 1
      · subst q
        rw [e1] at e
        cases e
        exact D.lt_irrefl _
      · have h1 := hl i x (by omega) e
        have px := hp x (List.mem_of_getElem? e)
        cases z : D.lt ds[k + 1] x with
        | false => rfl
        | true =>
          rw [D.lt_trans n _ _ _ pm pk px c z] at h1
          cases h1
    | false =>
      simp only [Bool.false_eq_true, if_false]
      refine ⟨m, hm, fun i x hi e => ?_⟩
      by_cases q : i = k + 1
      · subst q
        rw [e1] at e
        cases e
        exact c
      · exact hl i x (by omega) e

theorem minL_spec {n : Nat} : ∀ {ds : List D} {m : D}, (∀ d ∈ ds, D.pl n d = true) → minL ds = some m → m ∈ ds ∧ ∀ x ∈ ds, D.lt x m = false
  | [], m, _, h => by simp [minL] at h
  | [x], m, _, h => by
    simp [minL] at h
    subst h
    exact ⟨List.mem_cons_self, fun y hy => by rw [List.mem_singleton.mp hy]; exact D.lt_irrefl _⟩
  | x :: y :: ys, m, hp, h => by
    simp only [minL] at h
    obtain ⟨k, hk, e⟩ := Option.map_eq_some_iff.mp h
    obtain ⟨h1, h2⟩ := minL_spec (ds := y :: ys) (fun d hd => hp d (List.mem_cons_of_mem _ hd)) hk
    have px := hp x List.mem_cons_self
    have pk := hp k (List.mem_cons_of_mem _ h1)
    cases c : D.lt k x with
    | true =>
      rw [c] at e
      simp only [if_true] at e
      subst e
      refine ⟨List.mem_cons_of_mem _ h1, fun z hz => ?_⟩
      rcases List.mem_cons.mp hz with e | hz
      · subst e; exact D.lt_asym n _ _ pk px c
      · exact h2 z hz
    | false =>
      rw [c] at e
      simp only [Bool.false_eq_true, if_false] at e
      subst e
      refine ⟨List.mem_cons_self, fun z hz => ?_⟩
      rcases List.mem_cons.mp hz with e | hz
      · subst e; exact D.lt_irrefl _
      · have pz := hp z (List.mem_cons_of_mem _ hz)
        cases d : D.lt z x with
        | false => rfl
        | true =>
          have h3 := h2 z hz
          by_cases q : x = k
          · subst q; rw [h3] at d; cases d
          · have h4 := D.lt_tot n k x pk px (Ne.symm q) c
            rw [D.lt_trans n z x k pz px pk d h4] at h3
            cases h3
theorem maxL_spec {n : Nat} : ∀ {ds : List D} {m : D}, (∀ d ∈ ds, D.pl n d = true) → maxL ds = some m → m ∈ ds ∧ ∀ x ∈ ds, D.lt m x = false
  | [], m, _, h => by simp [maxL] at h
  | [x], m, _, h => by
    simp [maxL] at h
    subst h
    exact ⟨List.mem_cons_self, fun y hy => by rw [List.mem_singleton.mp hy]; exact D.lt_irrefl _⟩
  | x :: y :: ys, m, hp, h => by
    simp only [maxL] at h
    obtain ⟨k, hk, e⟩ := Option.map_eq_some_iff.mp h
    obtain ⟨h1, h2⟩ := maxL_spec (ds := y :: ys) (fun d hd => hp d (List.mem_cons_of_mem _ hd)) hk
    have px := hp x List.mem_cons_self
    have pk := hp k (List.mem_cons_of_mem _ h1)
    cases c : D.lt x k with
    | true =>
      rw [c] at e
      simp only [if_true] at e
      subst e
      refine ⟨List.mem_cons_of_mem _ h1, fun z hz => ?_⟩
      rcases List.mem_cons.mp hz with e | hz
      · subst e; exact D.lt_asym n _ _ px pk c
      · exact h2 z hz
    | false =>
      rw [c] at e
      simp only [Bool.false_eq_true, if_false] at e
      subst e
      refine ⟨List.mem_cons_self, fun z hz => ?_⟩
      rcases List.mem_cons.mp hz with e | hz
      · subst e; exact D.lt_irrefl _
      · have pz := hp z (List.mem_cons_of_mem _ hz)
        cases d : D.lt x z with
        | false => rfl
        | true =>
          have h3 := h2 z hz
          by_cases q : k = x
          · subst q; rw [h3] at d; cases d
          · have h4 := D.lt_tot n x k px pk (Ne.symm q) c
            rw [D.lt_trans n k x z pk px pz h4 d] at h3
            cases h3
theorem least_unique {n : Nat} {ds : List D} {a b : D} (hp : ∀ d ∈ ds, D.pl n d = true) (ha : a ∈ ds) (hb : b ∈ ds) (h1 : ∀ x ∈ ds, D.lt x a = false) (h2 : ∀ x ∈ ds, D.lt x b = false) : a = b := by
  by_cases e : a = b
  · exact e
  · have := D.lt_tot n a b (hp a ha) (hp b hb) e (h2 a ha)
    rw [h1 b hb] at this
    cases this
theorem great_unique {n : Nat} {ds : List D} {a b : D} (hp : ∀ d ∈ ds, D.pl n d = true) (ha : a ∈ ds) (hb : b ∈ ds) (h1 : ∀ x ∈ ds, D.lt a x = false) (h2 : ∀ x ∈ ds, D.lt b x = false) : a = b := by
  by_cases e : a = b
  · exact e
  · have := D.lt_tot n a b (hp a ha) (hp b hb) e (h1 b hb)
    rw [h2 a ha] at this
    cases this

section
variable {X : Cx} {pins : List (Addr × Obj)} {σ : L2.St} {H : Hp} {s : Shared} {c : Cn}
theorem sortOk_pl {ds : List D} (h : sortOk ds = true) : ∀ d ∈ ds, D.pl 60 d = true := fun d hd => by
  unfold sortOk at h
  simp only [List.all_eq_true, Bool.and_eq_true] at h
  exact (h d hd).1
theorem min_D (I : Inv X pins σ H s) (hc : X.calm = true) (hu : X.A.units + 64 < cLine) {v : V} {u : Value} {a : Addr} {vs : List V} {ds : List D} {m : D} {Q : VK} (mx : Bool) (hv : v = .ref a) (hH : H a = some (.lst vs) ∨ H a = some (.tup vs)) (rd : Rps X.prog X.w X.K c H vs ds) (ru : RelV v u) (h : sortOk ds = true)
    (hm : (if mx then maxL ds else minL ds) = some m) (hq : ∀ z, Rp X.prog X.w X.K c H z m → Q z H) : wpAny (model X.prog X.w) X.A (call (.builtin (if mx then "max" else "min")) [u]) (EP X pins σ Q) X.xe s := by
  subst hv
  cases ru
  have hh := I.ok.hd hc
  have hh1 : X.A.in1.handled = none := hh
  have e1 : X.A.in1.in1.units = X.A.units + 2 := by rw [Around.in1_units, Around.in1_units]
  have e2 : X.A.in1.units = X.A.units + 1 := by rw [Around.in1_units]
  have hpl := sortOk_pl h
  -- over the items us
  have core : ∀ (us : List Value) (I' : Addr) (St : Nat → Heap → Prop) (fp : List Addr) (t : Shared), Vals vs us → KpH s.heap t.heap → s.heap.get? I' = none → Walks X.prog X.w X.A.in1 I' fp [I'] us.toArray.size (fun i v => us.toArray[i]? = some v) St → St 0 t.heap → (∀ b ∈ fp, b < t.heap.objs.size) → { t with heap := s.heap, toks := s.toks } = s →
      ∃ I fp wr n P St bt h0, Value.ref I' = .ref I ∧ Walks X.prog X.w X.A.in1 I fp wr n P St ∧ St 0 t.heap ∧ (∀ b ∈ fp, b < t.heap.objs.size) ∧ 0 < n ∧ CmpH X.A.in1 h0 (if mx then .Gt else .Lt) P bt ∧ KpH h0 t.heap ∧ (∀ b ∈ wr, h0.get? b = none) ∧ ∀ y h tk, P (argBest bt (n - 1)) y → KpH h0 h → EP X pins σ Q y { t with heap := h, toks := tk } := by
    intro us I' St fp t rv hk hn W st hf ot
    have p := plAll_of rv rd h
    have ne : 0 < us.length := by
      rw [p.len]
      cases ds with
      | nil => cases mx <;> simp [minL, maxL] at hm
      | cons _ _ => simp
    refine ⟨I', fp, [I'], _, _, St, fun i j => if mx then D.lt (ds.getD j .non) (ds.getD i .non) else D.lt (ds.getD i .non) (ds.getD j .non), s.heap, rfl, W, st, hf, by simpa using ne, ?_, hk, ?_, ?_⟩
    · intro t' i j x y k1 hx hy
      have hx : us[i]? = some x := by simpa using hx
      have hy : us[j]? = some y := by simpa using hy
      have hi : i < ds.length := by rw [← p.len]; exact (List.getElem?_eq_some_iff.mp hx).1
      have hj : j < ds.length := by rw [← p.len]; exact (List.getElem?_eq_some_iff.mp hy).1
      have di : ds[i]? = some ds[i] := List.getElem?_eq_getElem hi
      have dj : ds[j]? = some ds[j] := List.getElem?_eq_getElem hj
      have px := p.at_ i x _ hx di
      have py := p.at_ j y _ hy dj
      have ho := p.ord _ (List.mem_of_getElem? di) _ (List.mem_of_getElem? dj)
      have hk' : HOk X.prog X.w H t'.heap := I.hok.kept k1
      have gd : ∀ {i : Nat} {x : D}, ds[i]? = some x → ds.getD i .non = x := fun {i x} e => by rw [List.getD_eq_getElem?_getD, e]; rfl
      show Ob.RcOp _ _ _ _ _ (if mx then D.lt (ds.getD j .non) (ds.getD i .non) else D.lt (ds.getD i .non) (ds.getD j .non))
      rw [gd di, gd dj]
      obtain ⟨p1, v1, r1, q1⟩ := px
      obtain ⟨p2, v2, r2, q2⟩ := py
      cases mx with
      | false => exact rc_lt hk' 60 X.A.in1 _ _ v1 v2 x y p1 p2 ho (by omega) r1 r2 q1 q2
      | true => exact (rc_le hk' 60 X.A.in1 _ _ v1 v2 x y p1 p2 ho (by omega) r1 r2 q1 q2).2.2
    · intro b hb
      rw [List.mem_singleton.mp hb]
      exact hn
    · intro y h' tk hy k2
      have hy : us[argBest (fun i j => if mx then D.lt (ds.getD j .non) (ds.getD i .non) else D.lt (ds.getD i .non) (ds.getD j .non)) (us.length - 1)]? = some y := by simpa using hy
      have hl : us.length - 1 < ds.length := by rw [← p.len]; omega
      have key : ds[argBest (fun i j => if mx then D.lt (ds.getD j .non) (ds.getD i .non) else D.lt (ds.getD i .non) (ds.getD j .non)) (us.length - 1)]? = some m := by
        have gd : ∀ {i : Nat} {x : D}, ds[i]? = some x → ds.getD i .non = x := fun {i x} e => by rw [List.getD_eq_getElem?_getD, e]; rfl
        cases mx with
        | false =>
          obtain ⟨m', e1, e2⟩ := argBest_min hpl (fun i j => if false then D.lt (ds.getD j .non) (ds.getD i .non) else D.lt (ds.getD i .non) (ds.getD j .non)) (fun i j x y ex ey => by rw [gd ex, gd ey]; rfl) (us.length - 1) hl
          obtain ⟨h1, h2⟩ := minL_spec hpl hm
          have := least_unique hpl (List.mem_of_getElem? e1) h1 (fun x hx => by
            obtain ⟨i, hi⟩ := List.getElem?_of_mem hx
            exact e2 i x (by have := (List.getElem?_eq_some_iff.mp hi).1; rw [← p.len] at this; omega) hi) h2
          rw [← this]
          exact e1
        | true =>
          obtain ⟨m', e1, e2⟩ := argBest_max hpl (fun i j => if true then D.lt (ds.getD j .non) (ds.getD i .non) else D.lt (ds.getD i .non) (ds.getD j .non)) (fun i j x y ex ey => by rw [gd ex, gd ey]; rfl) (us.length - 1) hl
          obtain ⟨h1, h2⟩ := maxL_spec hpl hm
          have := great_unique hpl (List.mem_of_getElem? e1) h1 (fun x hx => by
            obtain ⟨i, hi⟩ := List.getElem?_of_mem hx
            exact e2 i x (by have := (List.getElem?_eq_some_iff.mp hi).1; rw [← p.len] at this; omega) hi) h2
          rw [← this]
          exact e1
      obtain ⟨_, z, rz, qz⟩ := p.at_ _ _ _ hy key
      have I3 : Inv X pins σ H { s with heap := h', toks := tk } := I.kept (t' := tk) k2
      refine ⟨z, H, ?_, qz, hq z rz⟩
      have e : ({ t with heap := h', toks := tk } : Shared) = { s with heap := h', toks := tk } := by rw [← ot]
      rw [e]
      exact I3
  have fin : wpAny (model X.prog X.w) X.A.in1 (pyIter (.ref a)) (fun it t => ∃ I fp wr n P St bt h0, it = .ref I ∧ Walks X.prog X.w X.A.in1 I fp wr n P St ∧ St 0 t.heap ∧ (∀ b ∈ fp, b < t.heap.objs.size) ∧ 0 < n ∧ CmpH X.A.in1 h0 (if mx then .Gt else .Lt) P bt ∧ KpH h0 t.heap ∧ (∀ b ∈ wr, h0.get? b = none) ∧ ∀ y h tk, P (argBest bt (n - 1)) y → KpH h0 h → EP X pins σ Q y { t with heap := h, toks := tk }) X.xe s := by
    have fr : s.heap.get? s.heap.objs.size = none := by
      cases e : s.heap.get? s.heap.objs.size with
      | none => rfl
      | some o => exact absurd (Heap.lt_size e) (Nat.lt_irrefl _)
    rcases hH with hH | hH
    · obtain ⟨z, its, n, rv, e⟩ := I.hok _ _ hH
      have hl : s.heap.IsList a its.toArray := ⟨_, e, rfl, n, rfl⟩
      have hne : a ≠ s.heap.objs.size := Nat.ne_of_lt (Heap.lt_size e)
      refine wpAny_pyIter_list hl ?_
      exact core its _ _ _ { s with heap := s.heap.push { cls := .type "list_iterator", data := .fields #[.ref a, .int 0 0] } } rv (fun b o q => Heap.get?_push_of_some _ q) fr (Walks.list hh1 s.heap.objs.size a hne its.toArray) ⟨⟨_, Heap.get?_push_size _ rfl, rfl, rfl⟩, ⟨_, Heap.get?_push_of_some _ e, rfl, n, rfl⟩⟩ (fun b hb => by
        have hs : s.heap.objs.size < (s.heap.push { cls := .type "list_iterator", data := .fields #[.ref a, .int 0 0] }).objs.size := by simp [Heap.push]
        rcases List.mem_cons.mp hb with q | q
        · rw [q]; exact hs
        · rw [List.mem_singleton.mp q]; exact Nat.lt_trans (Heap.lt_size e) hs) rfl
    · obtain ⟨z, its, rv, o, e, hcl, n, hd⟩ := I.hok _ _ hH
      have hl : s.heap.IsTuple a its.toArray := ⟨_, e, hcl, n, hd⟩
      have hne : a ≠ s.heap.objs.size := Nat.ne_of_lt (Heap.lt_size e)
      refine wpAny_pyIter_tuple hl ?_
      exact core its _ _ _ { s with heap := s.heap.push { cls := .type "tuple_iterator", data := .fields #[.ref a, .int 0 0] } } rv (fun b o q => Heap.get?_push_of_some _ q) fr (Walks.tuple hh1 s.heap.objs.size a hne its.toArray) ⟨⟨_, Heap.get?_push_size _ rfl, rfl, rfl⟩, ⟨_, Heap.get?_push_of_some _ e, hcl, n, hd⟩⟩ (fun b hb => by
        have hs : s.heap.objs.size < (s.heap.push { cls := .type "tuple_iterator", data := .fields #[.ref a, .int 0 0] }).objs.size := by simp [Heap.push]
        rcases List.mem_cons.mp hb with q | q
        · rw [q]; exact hs
        · rw [List.mem_singleton.mp q]; exact Nat.lt_trans (Heap.lt_size e) hs) rfl
  cases mx with
  | false => exact call_minH fin
  | true => exact call_maxH fin
end
end NW
set_option autoImplicit false
set_option linter.all false
set_option maxRecDepth 100000
/-! NwOp4: built-in calls, isinstance, slices, methods of lists. -/
namespace NW
open PySem PyProof.Rows L2

def Bi.fn : Bi → Value
  | .len => .builtin "len" | .int => .type "int" | .sum => .builtin "sum" | .max2 => .builtin "max" | .min2 => .builtin "min" | .maxl => .builtin "max" | .minl => .builtin "min"
  | .all => .builtin "all" | .tuple => .type "tuple" | .list => .type "list" | .sorted => .builtin "sorted"

section
variable {X : Cx} {pins : List (Addr × Obj)} {σ : L2.St} {H : Hp} {s : Shared} {c : Cn}
/-- a value, or what an object of one's own holds -/
def Held (P : Program) (w : World) (K : PySem.W.Frag) (c : Cn) (H : Hp) (v : V) (d : D) : Prop := Rp P w K c H v d ∨ ∃ a cl, v = .ref a ∧ CellR P w K c H a cl ∧ d = cl.d
theorem Held.lst {P : Program} {w : World} {K : PySem.W.Frag} {v : V} {ds : List D} (h : Held P w K c H v (.lst ds)) : ∃ a vs, v = .ref a ∧ H a = some (.lst vs) ∧ Rps P w K c H vs ds := by
  rcases h with h | ⟨a, cl, e, h, e2⟩
  · cases h with | lst h1 h2 h3 => exact ⟨_, _, rfl, h1, h3⟩
  · cases cl with
    | lst xs => obtain ⟨vs, h1, h2⟩ := h; cases e2; exact ⟨a, vs, e, h1, h2⟩
    | dci _ _ => cases e2
    | dct _ _ => cases e2
    | ins _ _ => cases e2
theorem Held.tup {P : Program} {w : World} {K : PySem.W.Frag} {v : V} {ds : List D} (h : Held P w K c H v (.tup ds)) : ∃ a vs, v = .ref a ∧ H a = some (.tup vs) ∧ Rps P w K c H vs ds ∧ Rp P w K c H v (.tup ds) := by
  rcases h with h | ⟨a, cl, e, h, e2⟩
  · cases h with | tup h1 h2 h3 => exact ⟨_, _, rfl, h1, h3, .tup h1 h2 h3⟩
  · cases cl <;> cases e2
theorem intsOf_eq : ∀ {xs : List D} {l : List Int}, intsOf xs = some l → xs = l.map D.int
  | [], l, h => by simp [intsOf] at h; subst h; rfl
  | .int i :: r, l, h => by
    simp only [intsOf, Option.map_eq_some_iff] at h
    obtain ⟨m, e, rfl⟩ := h
    rw [intsOf_eq e]
    rfl
  | .non :: r, l, h | .bl _ :: r, l, h | .str _ :: r, l, h | .tup _ :: r, l, h | .lst _ :: r, l, h | .dci _ _ :: r, l, h | .dct _ _ :: r, l, h | .mref _ :: r, l, h | .exn _ :: r, l, h | .scr _ :: r, l, h => by simp [intsOf] at h
theorem blsOf_eq : ∀ {xs : List D} {l : List Bool}, blsOf xs = some l → xs = l.map D.bl
  | [], l, h => by simp [blsOf] at h; subst h; rfl
  | .bl i :: r, l, h => by
    simp only [blsOf, Option.map_eq_some_iff] at h
    obtain ⟨m, e, rfl⟩ := h
    rw [blsOf_eq e]
    rfl
  | .non :: r, l, h | .int _ :: r, l, h | .str _ :: r, l, h | .tup _ :: r, l, h | .lst _ :: r, l, h | .dci _ _ :: r, l, h | .dct _ _ :: r, l, h | .mref _ :: r, l, h | .exn _ :: r, l, h | .scr _ :: r, l, h => by simp [blsOf] at h
theorem pl_cell {n : Nat} {d : D} (h : D.pl n d = true) : cellOf d = none := by
  rcases pl_cases h with ⟨i, rfl⟩ | ⟨xs, m, rfl, _⟩ <;> rfl
theorem max_mem : ∀ {ds : List D} {m : D}, maxL ds = some m → m ∈ ds
  | [], m, h => by simp [maxL] at h
  | [x], m, h => by simp [maxL] at h; simp [h]
  | x :: y :: r, m, h => by
    simp only [maxL, Option.map_eq_some_iff] at h
    obtain ⟨k, e, h⟩ := h
    split at h
    · subst h; exact List.mem_cons_of_mem _ (max_mem e)
    · subst h; exact List.mem_cons_self
theorem min_mem : ∀ {ds : List D} {m : D}, minL ds = some m → m ∈ ds
  | [], m, h => by simp [minL] at h
  | [x], m, h => by simp [minL] at h; simp [h]
  | x :: y :: r, m, h => by
    simp only [minL, Option.map_eq_some_iff] at h
    obtain ⟨k, e, h⟩ := h
    split at h
    · subst h; exact List.mem_cons_of_mem _ (min_mem e)
    · subst h; exact List.mem_cons_self

/-- what a built-in function is asked with -/
def HeldA (P : Program) (w : World) (K : PySem.W.Frag) (c : Cn) (H : Hp) (vs : List V) (ds : List D) : Prop := (∃ v d, vs = [v] ∧ ds = [d] ∧ Held P w K c H v d) ∨ Rps P w K c H vs ds
theorem HeldA.one {P : Program} {w : World} {K : PySem.W.Frag} {vs : List V} {d : D} (h : HeldA P w K c H vs [d]) : ∃ v, vs = [v] ∧ Held P w K c H v d := by
  rcases h with ⟨v, d', rfl, e, h⟩ | h
  · cases e; exact ⟨v, rfl, h⟩
  · cases h with | cons h1 h2 => cases h2; exact ⟨_, rfl, .inl h1⟩
theorem HeldA.two {P : Program} {w : World} {K : PySem.W.Frag} {vs : List V} {d e : D} (h : HeldA P w K c H vs [d, e]) : ∃ v u, vs = [v, u] ∧ Rp P w K c H v d ∧ Rp P w K c H u e := by
  rcases h with ⟨v, d', rfl, e, h⟩ | h
  · cases e
  · cases h with | cons h1 h2 => cases h2 with | cons h3 h4 => cases h4; exact ⟨_, _, rfl, h1, h3⟩
theorem Held.int {P : Program} {w : World} {K : PySem.W.Frag} {v : V} {i : Int} (h : Held P w K c H v (.int i)) : v = .int i := by
  rcases h with h | ⟨a, cl, e, h, e2⟩
  · cases h; rfl
  · cases cl <;> cases e2

theorem bi_D (I : Inv X pins σ H s) (hc : X.calm = true) (hu : X.A.units + 65 < cLine) {b : Bi} {vs : List V} {us : List Value} {ds : List D} {r : D} {Q : VK} (rv : Vals vs us) (hd : HeldA X.prog X.w X.K c H vs ds)
    (h : biD b ds = some r) (hq : ∀ z H', Out X.prog X.w X.K c H r z H' → Q z H') : wpAny (model X.prog X.w) X.A (call b.fn us) (EP X pins σ Q) X.xe s := by
  have fin : ∀ v, cellOf r = none → Rp X.prog X.w X.K c H v r → Q v H := fun v e q => hq _ _ (.same e q)
  unfold biD at h
  split at h
  · -- len
    obtain ⟨v, rfl, hv⟩ := hd.one
    obtain ⟨u, rfl, ru⟩ := vals1 rv
    simp only [Option.map_eq_some_iff] at h
    obtain ⟨n, h1, h2⟩ := h
    subst h2
    exact len_D I (hv.imp id fun ⟨a, cl, e, q, e2⟩ => ⟨a, cl, e, q, e2⟩) ru h1 (fin _ rfl (.int n))
  · -- int
    obtain ⟨v, rfl, hv⟩ := hd.one
    cases h
    cases hv.int
    exact call_int1 pins s σ H _ us Q I rv (.inl ⟨_, rfl, fin _ rfl (.int _)⟩)
  · -- sum
    obtain ⟨v, rfl, hv⟩ := hd.one
    obtain ⟨a, ws, rfl, h1, h2⟩ := hv.lst
    simp only [Option.map_eq_some_iff] at h
    obtain ⟨l, e1, e2⟩ := h
    have e3 := intsOf_eq e1
    subst e3
    rw [h2.ints_inv] at h1
    subst e2
    exact cr_sum hc pins s σ H _ us Q I rv ⟨a, l, rfl, SqL.of h1, fin _ rfl (.int _)⟩
  · -- max2
    obtain ⟨v, u, rfl, r1, r2⟩ := hd.two
    cases r1; cases r2
    cases h
    exact call_max2 hc pins s σ H _ us Q I rv ⟨_, _, rfl, fin _ rfl (.int _)⟩
  · -- min2
    obtain ⟨v, u, rfl, r1, r2⟩ := hd.two
    cases r1; cases r2
    cases h
    exact call_min2 hc pins s σ H _ us Q I rv ⟨_, _, rfl, fin _ rfl (.int _)⟩
  · -- maxl
    obtain ⟨v, rfl, hv⟩ := hd.one
    obtain ⟨a, ws, rfl, h1, h2⟩ := hv.lst
    obtain ⟨u, rfl, ru⟩ := vals1 rv
    split at h
    · rename_i hs
      exact min_D I hc (by omega) true rfl (.inl h1) h2 ru hs h fun z q => fin z (pl_cell (sortOk_pl hs _ (max_mem h))) q
    · cases h
  · -- minl
    obtain ⟨v, rfl, hv⟩ := hd.one
    obtain ⟨a, ws, rfl, h1, h2⟩ := hv.lst
    obtain ⟨u, rfl, ru⟩ := vals1 rv
    split at h
    · rename_i hs
      exact min_D I hc (by omega) false rfl (.inl h1) h2 ru hs h fun z q => fin z (pl_cell (sortOk_pl hs _ (min_mem h))) q
    · cases h
  · -- all
    obtain ⟨v, rfl, hv⟩ := hd.one
    obtain ⟨a, ws, rfl, h1, h2⟩ := hv.lst
    simp only [Option.map_eq_some_iff] at h
    obtain ⟨l, e1, e2⟩ := h
    have e3 := blsOf_eq e1
    subst e3
    rw [h2.bls_inv] at h1
    subst e2
    exact cr_all hc pins s σ H _ us Q I rv ⟨a, l, rfl, SqL.of h1, fin _ rfl (.bl _)⟩
  · -- tuple of a list
    obtain ⟨v, rfl, hv⟩ := hd.one
    obtain ⟨a, ws, rfl, h1, h2⟩ := hv.lst
    cases h
    exact call_tuple_of pins s σ H _ us Q I rv ⟨a, ws, rfl, .inl ⟨SqL.of h1, fun l hl => hq _ _ (.tup hl h2)⟩⟩
  · -- tuple of a tuple
    obtain ⟨v, rfl, hv⟩ := hd.one
    obtain ⟨a, ws, rfl, h1, h2, h3⟩ := hv.tup
    cases h
    exact call_tuple_of pins s σ H _ us Q I rv ⟨a, ws, rfl, .inr ⟨SqT.of h1, fin _ rfl h3⟩⟩
  · -- list of a list
    obtain ⟨v, rfl, hv⟩ := hd.one
    obtain ⟨a, ws, rfl, h1, h2⟩ := hv.lst
    cases h
    exact call_list_of pins s σ H _ us Q I rv ⟨a, ws, rfl, .inl (SqL.of h1), fun l hl => hq _ _ (.lst hl h2)⟩
  · -- list of a tuple
    obtain ⟨v, rfl, hv⟩ := hd.one
    obtain ⟨a, ws, rfl, h1, h2, h3⟩ := hv.tup
    cases h
    exact call_list_of pins s σ H _ us Q I rv ⟨a, ws, rfl, .inr (SqT.of h1), fun l hl => hq _ _ (.lst hl h2)⟩
  · -- sorted list
    obtain ⟨v, rfl, hv⟩ := hd.one
    obtain ⟨a, ws, rfl, h1, h2⟩ := hv.lst
    obtain ⟨u, rfl, ru⟩ := vals1 rv
    split at h
    · rename_i hs
      cases h
      exact sorted_D I (by omega) rfl (.inl h1) h2 ru hs fun p ws hp rw' => hq _ _ (.lst hp rw')
    · cases h
  · obtain ⟨v, rfl, hv⟩ := hd.one
    obtain ⟨a, ws, rfl, h1, h2, _⟩ := hv.tup
    obtain ⟨u, rfl, ru⟩ := vals1 rv
    split at h
    · rename_i hs
      cases h
      exact sorted_D I (by omega) rfl (.inr h1) h2 ru hs fun p ws hp rw' => hq _ _ (.lst hp rw')
    · cases h
  · cases h

/-! ### isinstance -/
def D.tn : D → String
  | .non => "NoneType" | .bl _ => "bool" | .int _ => "int" | .str _ => "str" | .tup _ => "tuple" | _ => "list"
def Ty.tn : Ty → String
  | .int => "int" | .bool => "bool" | .str => "str" | .tuple => "tuple" | .list => "list" | .exc _ => ""
theorem kit_D (d : D) (t : Ty) (hd : d.isiOk = true) (ht : t.plain = true) : kitB d.tn t.tn = some (t.is d) := by
  cases d <;> first | exact absurd (show false = true from hd) Bool.false_ne_true | skip
  all_goals (cases t <;> first | exact absurd (show false = true from ht) Bool.false_ne_true | (simp only [D.tn, Ty.tn, Ty.is]; decide +kernel))
theorem Rp.ty {P : Program} {w : World} {K : PySem.W.Frag} {v : V} {d : D} (h : Rp P w K c H v d) (hd : d.isiOk = true) : TyX K H v (.type d.tn) := by
  cases h with
  | non => exact .base .non
  | bl b => exact .base (.bl b)
  | int i => exact .base (.int i)
  | str x => exact .base (.str x)
  | tup h1 _ _ => exact .base (.tup h1)
  | lst h1 _ _ => exact .base (.lst h1)
  | _ => exact absurd hd (by simp [D.isiOk])
/-- isinstance(x, T) -/
theorem isi1_D (I : Inv X pins σ H s) {v v' : V} {us : List Value} {d : D} {t : Ty} {Q : VK} (rd : Rp X.prog X.w X.K c H v d) (hd : d.isiOk = true) (ht : t.plain = true) (hv : v' = .ty t.tn) (rv : Vals [v, v'] us) (hq : Q (.bl (t.is d)) H) :
    wpAny (model X.prog X.w) X.A (call (.builtin "isinstance") us) (EP X pins σ Q) X.xe s := by
  subst hv
  exact call_isi pins s σ H _ us Q I rv ⟨v, .ty t.tn, _, .type t.tn, t.is d, rfl, .ty _, rd.ty hd, kit_ty (kit_D d t hd ht), hq⟩
theorem kitAny_D {K : PySem.W.Frag} (d : D) (hd : d.isiOk = true) : ∀ ts : List Ty, ts.all Ty.plain = true → PySem.W.kitAny K (.type d.tn) (ts.map fun t => .type t.tn) = some (ts.any fun t => t.is d)
  | [], _ => kitAny_nil
  | t :: ts, h => by
    simp only [List.all_cons, Bool.and_eq_true] at h
    rw [List.map_cons, List.any_cons]
    refine kitAny_cons (kit_ty (kit_D d t hd h.1)) (fun e => ?_) (fun e => by rw [e]; rfl)
    rw [e, Bool.false_or]
    exact kitAny_D d hd ts h.2
theorem isiT_D (I : Inv X pins σ H s) {v : V} {p : Addr} {us : List Value} {d : D} {ts : List Ty} {Q : VK} (rd : Rp X.prog X.w X.K c H v d) (hd : d.isiOk = true) (ht : ts.all Ty.plain = true) (hp : H p = some (.tup (ts.map fun t => V.ty t.tn)))
    (rv : Vals [v, .ref p] us) (hq : Q (.bl (ts.any fun t => t.is d)) H) : wpAny (model X.prog X.w) X.A (call (.builtin "isinstance") us) (EP X pins σ Q) X.xe s := by
  refine call_isiT pins s σ H _ us Q I rv ⟨v, p, _, _, ts.map fun t => .type t.tn, _, rfl, hp, ?_, rd.ty hd, kitAny_D d hd ts ht, hq⟩
  clear hp ht hq
  induction ts with
  | nil => exact .nil
  | cons t ts ih => exact .cons (.ty _) ih
end
end NW
set_option autoImplicit false
set_option linter.all false
set_option maxRecDepth 100000
/-! NwExp: expressions: what the evaluator gives is what the program gives. -/
namespace NW
open PySem PyProof.Rows L2

def okR {α : Type} (r : Res (α × St)) (Q : α → St → Prop) : Prop := match r with
  | .ok a => Q a.1 a.2
  | _ => False
section
variable {α β : Type}
theorem okR_bind {r : Res (α × St)} {k : α × St → Res (β × St)} {Q : β → St → Prop} : okR (r.bind k) Q ↔ okR r fun a s => okR (k (a, s)) Q := by
  cases r <;> exact Iff.rfl
theorem okR_of {o : Option α} {k : α → Res (β × St)} {Q : β → St → Prop} : okR ((Res.of o).bind k) Q ↔ ∃ a, o = some a ∧ okR (k a) Q := by
  cases o with
  | none => exact ⟨fun h => h.elim, fun ⟨_, e, _⟩ => by cases e⟩
  | some a => exact ⟨fun h => ⟨a, rfl, h⟩, fun ⟨_, e, h⟩ => by cases e; exact h⟩
theorem okR.mono {r : Res (α × St)} {Q Q' : α → St → Prop} (h : okR r Q) (k : ∀ a s, Q a s → Q' a s) : okR r Q' := by
  cases r with
  | ok a => exact k _ _ h
  | exc _ _ => exact h.elim
  | err => exact h.elim
theorem okR_err {Q : α → St → Prop} (h : okR (Res.err : Res (α × St)) Q) : False := h
end

def notStar : Expr → Bool
  | .Starred _ _ => false
  | _ => true
/-- the names of built-in functions and types that are asked -/
def bltNames : List Str := ["len", "int", "sum", "max", "min", "all", "tuple", "list", "sorted", "isinstance", "range", "enumerate", "zip", "bool", "str", "dict"]

section
variable (X : Cx) (fi : Fi) (call : Call)
abbrev SR (c : Cn) (σ : L2.St) (H : Hp) (st : St) : Prop := StR X.prog X.w X.K fi c σ H st
abbrev RP (c : Cn) (H : Hp) (v : V) (d : D) : Prop := Rp X.prog X.w X.K c H v d
abbrev RPs (c : Cn) (H : Hp) (v : List V) (d : List D) : Prop := Rps X.prog X.w X.K c H v d
/-- an expression that is read as this -/
def tR (r : St → Res (D × St)) : TE := fun σ H Q => ∃ c st, SR X fi c σ H st ∧ okR (r st) fun d st' => ∀ c' H' v, SR X fi c' σ H' st' → Stp c H c' H' → RP X c' H' v d → Q v H'
/-- .. whose value is a new object of one's own -/
def tO (r : St → Res (D × St)) : TE := fun σ H Q => ∃ c st, SR X fi c σ H st ∧ okR (r st) fun d st' => ∃ cl, cellOf d = some cl ∧ ∀ c' H' a, SR X fi c' σ H' st' → Stp c H c' H' → OwnAt X.prog X.w X.K fi c' σ H' st' a cl → Q (.ref a) H'
def tRs (r : St → Res (List D × St)) : TA := fun σ H Q => ∃ c st, SR X fi c σ H st ∧ okR (r st) fun d st' => ∀ c' H' v, SR X fi c' σ H' st' → Stp c H c' H' → RPs X c' H' v d → Q v H'
abbrev tD (e : E) : TE := tR X fi (ev call e)
abbrev tOD (e : E) : TE := tO X fi (ev call e)
abbrev tDs (es : List E) : TA := tRs X fi (evs call es)
end

theorem cellOf_d {d : D} {cl : Cell} (h : cellOf d = some cl) : cl.d = d := by
  cases d <;> simp [cellOf] at h <;> subst h <;> rfl

section
variable {X : Cx} {fi : Fi} {call : Call} {c : Cn} {σ : L2.St} {H : Hp} {st : St}
/-- one's own object is a value, too -/
theorem tO_of_tR {r : St → Res (D × St)} {Q : VK} (h : tR X fi r σ H Q) (hc : ∀ s, okR (r s) (fun d _ => (cellOf d).isSome) ∨ r s = .err ∨ ∃ c s', r s = .exc c s') : tO X fi r σ H Q := by
  obtain ⟨c, st, hs, h⟩ := h
  refine ⟨c, st, hs, ?_⟩
  rcases hc st with q | q | ⟨c', s', q⟩
  · cases e : r st with
    | ok a =>
      rw [e] at q h
      have q : (cellOf a.1).isSome := q
      obtain ⟨cl, e1⟩ := Option.isSome_iff_exists.mp q
      refine ⟨cl, e1, fun c' H' x s1 s2 o => ?_⟩
      have h : ∀ c' H' v, SR X fi c' σ H' a.2 → Stp c H c' H' → RP X c' H' v a.1 → Q v H' := h
      have z := o.frozen
      rw [cellOf_d e1] at z
      exact h (c'.minus x) H' _ (s1.freeze o.nf o.ns o.n0) (s2.trans (.minus x)) z
    | exc _ _ => rw [e] at h; exact h.elim
    | err => rw [e] at h; exact h.elim
  · rw [q] at h; exact h.elim
  · rw [q] at h; exact h.elim
theorem pe_own {e' : Expr} {r : St → Res (D × St)} (h : PE X e' (tO X fi r)) (hc : ∀ s, okR (r s) (fun d _ => (cellOf d).isSome) ∨ r s = .err ∨ ∃ c s', r s = .exc c s') : PE X e' (tR X fi r) :=
  ⟨fun pins s σ H Q I q => h.run pins s σ H Q I (tO_of_tR q hc)⟩

/-! ### names and constants -/
theorem pd_con {e' : Expr} {v : V} {d : D} (h : PE X e' (tC v)) (r : ∀ c H, RP X c H v d) : PE X e' (tR X fi fun s => .ok (d, s)) :=
  ⟨fun pins s σ H Q I ⟨c, st, hs, q⟩ => h.run pins s σ H Q I (q c H v hs (.refl c H) (r c H))⟩
theorem pd_var {i : Nat} {x : Str} {pos : Pos} (hN : X.N[i]? = some x) (hv : Vis X.env.scope x) (hd : (x == ("__debug__" : Str)) = false) (hcd : (x == ("__classdict__" : Str)) = false) : PE X (.Name x pos) (tD X fi call (.var i)) := by
  refine ⟨fun pins s σ H Q I ⟨c, st, hs, q⟩ => (pe_var hN hv hd hcd).run pins s σ H Q I ?_⟩
  unfold ev at q
  cases e : st.ρ[i]? with
  | none => rw [e] at q; exact q.elim
  | some sl =>
    rw [e] at q
    have r := hs.slot i sl e
    cases sl with
    | no => exact q.elim
    | val d =>
      obtain ⟨v, e1, e2⟩ := r
      exact ⟨v, e1, q c H v hs (.refl c H) e2⟩
    | own cl =>
      obtain ⟨a, e1, e2, e3, e4⟩ := r
      have main : okR (.ok (cl.d, { st with ρ := st.ρ.set i (.val cl.d) }) : Res (D × St)) (fun d st' => ∀ c' H' v, SR X fi c' σ H' st' → Stp c H c' H' → RP X c' H' v d → Q v H') → ∃ v, σ[i]? = some (some v) ∧ Q v H := fun q => by
        refine ⟨.ref a, e1, q (c.minus a) H (.ref a) ?_ (.minus a) ((e4.step (.minus a) rfl).value fun z => z.2 rfl)⟩
        have ns : ∀ (j : Nat) (x : Cell), (st.ρ.set i (.val cl.d))[j]? = some (.own x) → σ[j]? ≠ some (some (.ref a)) := fun j x ej z => by
          by_cases hj : j = i
          · subst hj
            rw [List.getElem?_set_self (List.getElem?_eq_some_iff.mp e).1] at ej; cases ej
          · rw [List.getElem?_set_ne (Ne.symm hj)] at ej
            exact hj (hs.uniq j i a x cl ej e z e1)
        -- first let the slot go, then freeze, then name it again
        have hl : i < st.ρ.length := (List.getElem?_eq_some_iff.mp e).1
        have s1 : SR X fi c σ H { st with ρ := st.ρ.set i .no } := hs.drop i
        have s2 := s1.freeze (a := a) e3 (fun j x ej z => ns j x (by
          by_cases hj : j = i
          · subst hj; rw [List.getElem?_set_self hl] at ej; cases ej
          · rw [List.getElem?_set_ne (Ne.symm hj)] at ej ⊢; exact ej) z) (hs.ownN i a cl e e1)
        have s3 := s2.setVal (i := i) ((e4.step (.minus a) rfl).value fun z => z.2 rfl)
        rw [List.set_set] at s3
        have eσ : σ.set i (some (.ref a)) = σ := by
          apply List.ext_getElem?
          intro j
          by_cases hj : j = i
          · subst hj; rw [List.getElem?_set_self (List.getElem?_eq_some_iff.mp e1).1, e1]
          · rw [List.getElem?_set_ne (Ne.symm hj)]
        rw [eσ] at s3
        exact s3
      cases cl with
      | lst ds => exact main q
      | dci ks ds => exact main q
      | dct ks ds => exact main q
      | ins _ _ => exact q.elim

/-! ### lists of expressions -/
theorem pa_nilD : PA X [] (tDs X fi call []) := ⟨fun pos pins s σ H Q I ⟨c, st, hs, q⟩ => pa_nil.run pos pins s σ H Q I (q c H [] hs (.refl c H) .nil)⟩
theorem starN {e : Expr} {es : List Expr} {env : Env} (h : notStar e = true) : starEach (e :: es) env = (false, eval e env) :: starEach es env := by
  cases e <;> first | rfl | cases h
theorem pa_consD {e : E} {es : List E} {e' : Expr} {es' : List Expr} (h1 : PE X e' (tD X fi call e)) (h2 : PA X es' (tDs X fi call es)) (hs : notStar e' = true) : PA X (e' :: es') (tDs X fi call (e :: es)) := by
  refine ⟨fun pos pins s σ H Q I ⟨c, st, hst, q⟩ => (pa_cons h1 h2 (starN hs)).run pos pins s σ H Q I ?_⟩
  unfold evs at q
  rw [okR_bind] at q
  refine ⟨c, st, hst, q.mono fun d st1 q1 c1 H1 x s1 p1 r1 => ⟨c1, st1, s1, ?_⟩⟩
  rw [okR_bind] at q1
  refine q1.mono fun ds st2 q2 c2 H2 xs s2 p2 r2 => ?_
  exact q2 c2 H2 (x :: xs) s2 (p1.trans p2) (.cons (r1.step p2) r2)
theorem pa_oneD {e : E} {e' : Expr} (h1 : PE X e' (tD X fi call e)) (hs : notStar e' = true) : PA X [e'] (tDs X fi call [e]) := pa_consD h1 pa_nilD hs

/-- a new object -/
theorem SR.newTup {p : Addr} {vs : List V} {ds : List D} (hs : SR X fi c σ H st) (hp : H p = none) (r : RPs X c H vs ds) : SR X fi c σ (upd H p (.tup vs)) st ∧ Stp c H c (upd H p (.tup vs)) ∧ RP X c (upd H p (.tup vs)) (.ref p) (.tup ds) :=
  ⟨hs.new hp, .new hp, .tup upd_same (fun z => hs.ct.dom p z hp) (r.step (.new hp))⟩
theorem SR.newOwn {p : Addr} {o : HO} {cl : Cell} (hs : SR X fi c σ H st) (hp : H p = none) (hcl : CellR X.prog X.w X.K (c.plus p) (upd H p o) p cl) :
    SR X fi (c.plus p) σ (upd H p o) st ∧ Stp c H (c.plus p) (upd H p o) ∧ OwnAt X.prog X.w X.K fi (c.plus p) σ (upd H p o) st p cl := by
  have h0 := hs.new0 hp
  refine ⟨hs.newP hp h0, .newP hp, .inr rfl, fun z => hs.ct.dom p (hs.ct.fA p z) hp, fun i x ei e => ?_, hcl, h0⟩
  obtain ⟨a, e1, e2, _⟩ := hs.slot i _ ei
  rw [e] at e1; cases e1
  exact hs.ct.dom p e2 hp
theorem SR.newLst {p : Addr} {vs : List V} {ds : List D} (hs : SR X fi c σ H st) (hp : H p = none) (r : RPs X c H vs ds) :
    SR X fi (c.plus p) σ (upd H p (.lst vs)) st ∧ Stp c H (c.plus p) (upd H p (.lst vs)) ∧ OwnAt X.prog X.w X.K fi (c.plus p) σ (upd H p (.lst vs)) st p (.lst ds) :=
  SR.newOwn hs hp ⟨vs, upd_same, r.step (.newP hp)⟩
/-- a result of an operator as a value -/
theorem Out.fin {c0 : Cn} {H0 H' : Hp} {d : D} {v : V} {Q : VK} (o : Out X.prog X.w X.K c H d v H') (hs : SR X fi c σ H st) (p0 : Stp c0 H0 c H)
    (q : ∀ c' H' v, SR X fi c' σ H' st → Stp c0 H0 c' H' → RP X c' H' v d → Q v H') : Q v H' := by
  cases o with
  | same e r => exact q c H _ hs p0 r
  | tup hp r => obtain ⟨s1, s2, s3⟩ := SR.newTup hs hp r; exact q _ _ _ s1 (p0.trans s2) s3
  | @lst p vs ds hp r =>
    obtain ⟨s1, s2, s3⟩ := SR.newLst hs hp r
    exact q ((c.plus p).minus p) _ _ (s1.freeze s3.nf s3.ns s3.n0) ((p0.trans s2).trans (.minus p)) s3.frozen
/-- .. as one's own -/
theorem Out.finO {c0 : Cn} {H0 H' : Hp} {d : D} {v : V} {Q : VK} {cl : Cell} (o : Out X.prog X.w X.K c H d v H') (hs : SR X fi c σ H st) (p0 : Stp c0 H0 c H) (hcl : cellOf d = some cl)
    (q : ∀ c' H' a, SR X fi c' σ H' st → Stp c0 H0 c' H' → OwnAt X.prog X.w X.K fi c' σ H' st a cl → Q (.ref a) H') : Q v H' := by
  cases o with
  | same e r => rw [hcl] at e; cases e
  | tup hp r => cases hcl
  | lst hp r =>
    cases hcl
    obtain ⟨s1, s2, s3⟩ := SR.newLst hs hp r
    exact q _ _ _ s1 (p0.trans s2) s3

theorem pd_tup {es : List E} {es' : List Expr} {x1} {pos : Pos} (h : PA X es' (tDs X fi call es)) (hz : es'.length ≤ line) (hl : ∀ st, okR (evs call es st) (fun ds _ => ds.length = es.length) ∨ (evs call es st = .err) ∨ ∃ c s, evs call es st = .exc c s) (hlen : es.length = es'.length) :
    PE X (.Tuple es' x1 pos) (tD X fi call (.tup es)) := by
  refine ⟨fun pins s σ H Q I ⟨c, st, hst, q⟩ => (pe_tup h).run pins s σ H Q I ⟨c, st, hst, ?_⟩⟩
  unfold ev at q
  rw [okR_bind] at q
  rcases hl st with z | z | ⟨_, _, z⟩
  · cases e : evs call es st with
    | ok a =>
      rw [e] at q z
      have z : a.1.length = es.length := z
      intro c1 H1 xs s1 p1 r1
      refine ⟨Nat.le_trans (by rw [r1.length, z, hlen]; exact hz) line_le, fun p hp => ?_⟩
      obtain ⟨s2, p2, r2⟩ := SR.newTup s1 hp r1
      exact q c1 _ _ s2 (p1.trans p2) r2
    | exc _ _ => rw [e] at q; exact q.elim
    | err => rw [e] at q; exact q.elim
  · rw [z] at q; exact q.elim
  · rw [z] at q; exact q.elim
theorem pe_tO {es : List E} {es' : List Expr} {pos : Pos} (h : PA X es' (tDs X fi call es)) (hz : es'.length ≤ line) (hl : ∀ st, okR (evs call es st) (fun ds _ => ds.length = es.length) ∨ (evs call es st = .err) ∨ ∃ c s, evs call es st = .exc c s) (hlen : es.length = es'.length) :
    PE X (.List es' pos) (tOD X fi call (.lst es)) := by
  refine ⟨fun pins s σ H Q I ⟨c, st, hst, q⟩ => (pe_lst h).run pins s σ H Q I ⟨c, st, hst, ?_⟩⟩
  unfold ev at q
  rw [okR_bind] at q
  rcases hl st with z | z | ⟨_, _, z⟩
  · cases e : evs call es st with
    | ok a =>
      rw [e] at q z
      have z : a.1.length = es.length := z
      intro c1 H1 xs s1 p1 r1
      refine ⟨Nat.le_trans (by rw [r1.length, z, hlen]; exact hz) line_le, fun p hp => ?_⟩
      obtain ⟨cl, e1, q⟩ := q
      cases e1
      obtain ⟨s2, p2, r2⟩ := SR.newLst s1 hp r1
      exact q _ _ _ s2 (p1.trans p2) r2
    | exc _ _ => rw [e] at q; exact q.elim
    | err => rw [e] at q; exact q.elim
  · rw [z] at q; exact q.elim
  · rw [z] at q; exact q.elim
theorem evs_len : ∀ (es : List E) (st : St), okR (evs call es st) (fun ds _ => ds.length = es.length) ∨ (evs call es st = .err) ∨ ∃ c s, evs call es st = .exc c s
  | [], st => by unfold evs; exact .inl rfl
  | e :: es, st => by
    unfold evs
    cases h : ev call e st with
    | ok a =>
      simp only [Res.bind_ok]
      rcases evs_len es a.2 with z | z | ⟨_, _, z⟩
      · cases g : evs call es a.2 with
        | ok b =>
          rw [g] at z
          have z : b.1.length = es.length := z
          exact .inl (show (a.1 :: b.1).length = _ by simp [z])
        | exc c s => exact .inr (.inr ⟨c, s, rfl⟩)
        | err => exact .inr (.inl rfl)
      · rw [z]; exact .inr (.inl rfl)
      · rw [z]; exact .inr (.inr ⟨_, _, rfl⟩)
    | exc c s => exact .inr (.inr ⟨c, s, rfl⟩)
    | err => exact .inr (.inl rfl)
end
end NW
set_option autoImplicit false
set_option linter.all false
set_option maxRecDepth 100000
/-! NwExp2: operators, comparisons, items, slices, tests, built-ins, methods, calls. -/
namespace NW
open PySem PyProof.Rows L2

/-- from readings to what a rule asks -/
theorem PE.imp {X : Cx} {e : Expr} {t t' : TE} (h : PE X e t) (k : ∀ σ H Q, t' σ H Q → t σ H Q) : PE X e t' := ⟨fun pins s σ H Q I q => h.run pins s σ H Q I (k _ _ _ q)⟩
theorem PT.imp {X : Cx} {e : Expr} {t t' : TT} (h : PT X e t) (k : ∀ σ H Q, t' σ H Q → t σ H Q) : PT X e t' := ⟨fun pins s σ H Q I q => h.run pins s σ H Q I (k _ _ _ q)⟩
theorem PW.imp {X : Cx} {e : Expr} {t t' : TT} (h : PW X e t) (k : ∀ σ H Q, t' σ H Q → t σ H Q) : PW X e t' := ⟨fun wh pins s σ H Q I q => h.run wh pins s σ H Q I (k _ _ _ q)⟩
theorem PA.imp {X : Cx} {e : List Expr} {t t' : TA} (h : PA X e t) (k : ∀ σ H Q, t' σ H Q → t σ H Q) : PA X e t' := ⟨fun pos pins s σ H Q I q => h.run pos pins s σ H Q I (k _ _ _ q)⟩
theorem tB.imp {t t' : TE} (k : ∀ σ H Q, t' σ H Q → t σ H Q) : ∀ σ H Q, tB t' σ H Q → tB t σ H Q := fun σ H Q q => k _ _ _ q

section
variable {X : Cx} {fi : Fi} {call : Call} {c : Cn} {σ : L2.St} {H : Hp} {st : St} {Q : VK}
theorem Held.rp {P : Program} {w : World} {K : PySem.W.Frag} {v : V} {d : D} (h : Held P w K c H v d) (hd : d ≠ .non) : ∃ c', Stp c H c' H ∧ Rp P w K c' H v d := by
  rcases h with h | ⟨a, cl, e, h, e2⟩
  · exact ⟨c, .refl c H, h⟩
  · subst e e2
    exact ⟨c.minus a, .minus a, (h.step (.minus a) rfl).value fun z => z.2 rfl⟩
theorem held_slot {i : Nat} {d : D} (hs : SR X fi c σ H st) (h : heldOf st.ρ[i]? = some d) : ∃ v, σ[i]? = some (some v) ∧ Held X.prog X.w X.K c H v d := by
  cases e : st.ρ[i]? with
  | none => rw [e] at h; cases h
  | some sl =>
    rw [e] at h
    have r := hs.slot i sl e
    cases sl with
    | no => cases h
    | val d' => cases h; obtain ⟨v, e1, e2⟩ := r; exact ⟨v, e1, .inl e2⟩
    | own cl => cases h; obtain ⟨a, e1, _, _, e4⟩ := r; exact ⟨_, e1, .inr ⟨a, cl, rfl, e4, rfl⟩⟩
theorem held_some {i : Nat} (hs : SR X fi c σ H st) (h : ¬ (heldOf st.ρ[i]?).isSome = false) : ∃ v, σ[i]? = some (some v) := by
  cases e : heldOf st.ρ[i]? with
  | none => rw [e] at h; exact absurd rfl h
  | some d => obtain ⟨v, e1, _⟩ := held_slot hs e; exact ⟨v, e1⟩

/-! ### operators -/
def BOp.py : BOp → Operator
  | .add => .Add | .sub => .Sub | .mul => .Mult | .fdiv => .FloorDiv | .mod => .Mod | .pow => .Pow
def rBin (X : Cx) (op : BOp) : R2 := fun x y H Q => ∃ c d e r, RP X c H x d ∧ RP X c H y e ∧ binD op d e = some r ∧ ∀ z H', Out X.prog X.w X.K c H r z H' → Q z H'
theorem opr_bin (op : BOp) : OpR X (binaryOp op.py) (rBin X op) := by
  intro pins s σ H x y v u Q I rx ry ⟨c, d, e, r, h1, h2, h3, q⟩
  have := bin_D (Q := Q) I h1 h2 rx ry h3 q
  cases op <;> exact this
theorem red_bin {op : BOp} {a b : E} {Q : VK} (q : tD X fi call (.bin op a b) σ H Q) : tOp (rBin X op) (tD X fi call a) (tD X fi call b) σ H Q := by
  obtain ⟨c, st, hs, q⟩ := q
  unfold ev at q
  rw [okR_bind] at q
  refine ⟨c, st, hs, q.mono fun d st1 q1 c1 H1 x s1 p1 r1 => ⟨c1, st1, s1, ?_⟩⟩
  rw [okR_bind] at q1
  refine q1.mono fun e st2 q2 c2 H2 y s2 p2 r2 => ?_
  rw [okR_of] at q2
  obtain ⟨r, hr, q3⟩ := q2
  exact ⟨c2, d, e, r, r1.step p2, r2, hr, fun z H' o => o.fin s2 (p1.trans p2) q3⟩
theorem red_binO {op : BOp} {a b : E} {Q : VK} (q : tOD X fi call (.bin op a b) σ H Q) : tOp (rBin X op) (tD X fi call a) (tD X fi call b) σ H Q := by
  obtain ⟨c, st, hs, q⟩ := q
  unfold ev at q
  rw [okR_bind] at q
  refine ⟨c, st, hs, q.mono fun d st1 q1 c1 H1 x s1 p1 r1 => ⟨c1, st1, s1, ?_⟩⟩
  rw [okR_bind] at q1
  refine q1.mono fun e st2 q2 c2 H2 y s2 p2 r2 => ?_
  rw [okR_of] at q2
  obtain ⟨r, hr, cl, hcl, q3⟩ := q2
  exact ⟨c2, d, e, r, r1.step p2, r2, hr, fun z H' o => o.finO s2 (p1.trans p2) hcl q3⟩
theorem red_neg {a : E} {Q : VK} (q : tD X fi call (.neg a) σ H Q) : tUn (rU fun i => .int (-i)) (tD X fi call a) σ H Q := by
  obtain ⟨c, st, hs, q⟩ := q
  unfold ev at q
  rw [okR_bind] at q
  refine ⟨c, st, hs, q.mono fun d st1 q1 c1 H1 x s1 p1 r1 => ?_⟩
  cases r1 with
  | int i => exact ⟨i, rfl, q1 c1 H1 _ s1 p1 (.int _)⟩
  | _ => exact q1.elim

/-! ### comparisons -/
def rCmp (X : Cx) (op : COp) : R2 := fun x y H Q => ∃ c d e b, RP X c H x d ∧ RP X c H y e ∧ cmpD op d e = some b ∧ Q (.bl b) H
theorem opr_cmp (hu : X.A.units + 65 < cLine) (op : COp) : OpR X (compareOp op.py) (rCmp X op) := by
  intro pins s σ H x y v u Q I rx ry ⟨c, d, e, b, h1, h2, h3, q⟩
  exact cmp_D I hu h1 h2 rx ry h3 q
theorem red_cmp {op : COp} {a b : E} {Q : VK} (q : tD X fi call (.cmp op a b) σ H Q) : tOp (rCmp X op) (tD X fi call a) (tD X fi call b) σ H Q := by
  obtain ⟨c, st, hs, q⟩ := q
  unfold ev at q
  rw [okR_bind] at q
  refine ⟨c, st, hs, q.mono fun d st1 q1 c1 H1 x s1 p1 r1 => ⟨c1, st1, s1, ?_⟩⟩
  rw [okR_bind] at q1
  refine q1.mono fun e st2 q2 c2 H2 y s2 p2 r2 => ?_
  rw [okR_of] at q2
  obtain ⟨r, hr, q3⟩ := q2
  exact ⟨c2, d, e, r, r1.step p2, r2, hr, q3 c2 H2 _ s2 (p1.trans p2) (.bl r)⟩
theorem red_chn {op op' : COp} {a b e : E} {Q : VK} (q : tD X fi call (.chn op op' a b e) σ H Q) : tChain (rCmp X op) (rCmp X op') (tD X fi call a) (tD X fi call b) (tD X fi call e) σ H Q := by
  obtain ⟨c, st, hs, q⟩ := q
  unfold ev at q
  rw [okR_bind] at q
  refine ⟨c, st, hs, q.mono fun d st1 q1 c1 H1 x s1 p1 r1 => ⟨c1, st1, s1, ?_⟩⟩
  rw [okR_bind] at q1
  refine q1.mono fun f st2 q2 c2 H2 y s2 p2 r2 => ?_
  rw [okR_of] at q2
  obtain ⟨r, hr, q3⟩ := q2
  refine ⟨c2, d, f, r, r1.step p2, r2, hr, r, rfl, ?_⟩
  cases r with
  | false =>
    simp only [Bool.false_eq_true, if_false] at q3 ⊢
    exact q3 c2 H2 _ s2 (p1.trans p2) (.bl _)
  | true =>
    simp only [if_true] at q3 ⊢
    rw [okR_bind] at q3
    refine ⟨c2, st2, s2, q3.mono fun g st3 q4 c3 H3 z s3 p3 r3 => ?_⟩
    rw [okR_of] at q4
    obtain ⟨r', hr', q5⟩ := q4
    exact ⟨c3, f, g, r', r2.step p3, r3, hr', q5 c3 H3 _ s3 ((p1.trans p2).trans p3) (.bl _)⟩
theorem non_iff {P : Program} {w : World} {K : PySem.W.Frag} {v : V} {d : D} (r : Rp P w K c H v d) : decide (v = .non) = decide (d = .non) := by
  cases r <;> simp
theorem red_isn {n : Bool} {a : E} {Q : VK} (q : tD X fi call (.isn n a) σ H Q) : tD X fi call a σ H fun x H1 => Q (.bl (n != decide (x = .non))) H1 := by
  obtain ⟨c, st, hs, q⟩ := q
  unfold ev at q
  rw [okR_bind] at q
  refine ⟨c, st, hs, q.mono fun d st1 q1 c1 H1 x s1 p1 r1 => ?_⟩
  show Q (V.bl (n != decide (x = V.non))) H1
  rw [non_iff r1]
  exact q1 c1 H1 _ s1 p1 (.bl _)
def rIsb (n : Bool) : R2 := fun x y H Q => ∃ a b, x = .bl a ∧ y = .bl b ∧ Q (.bl (n != decide (a = b))) H
theorem opr_isb (n : Bool) : OpR X (compareOp (if n then .IsNot else .Is)) (rIsb n) := by
  intro pins s σ H x y v u Q I rx ry ⟨a, b, e1, e2, q⟩
  cases n with
  | false => exact op_is_bl pins s σ H x y v u Q I rx ry ⟨a, b, e1, e2, by simpa using q⟩
  | true => exact op_isnot_bl pins s σ H x y v u Q I rx ry ⟨a, b, e1, e2, by simpa using q⟩
theorem red_isb {n : Bool} {a b : E} {Q : VK} (q : tD X fi call (.isb n a b) σ H Q) : tOp (rIsb n) (tD X fi call a) (tD X fi call b) σ H Q := by
  obtain ⟨c, st, hs, q⟩ := q
  unfold ev at q
  rw [okR_bind] at q
  refine ⟨c, st, hs, q.mono fun d st1 q1 c1 H1 x s1 p1 r1 => ⟨c1, st1, s1, ?_⟩⟩
  rw [okR_bind] at q1
  refine q1.mono fun e st2 q2 c2 H2 y s2 p2 r2 => ?_
  cases d with
  | bl p =>
    cases e with
    | bl q =>
      cases r1
      cases r2
      refine ⟨p, q, rfl, rfl, ?_⟩
      have z := q2 c2 H2 _ s2 (p1.trans p2) (.bl _)
      rwa [Bool.beq_eq_decide_eq] at z
    | _ => exact q2.elim
  | _ => exact q2.elim

/-! ### and, or, not, if -/
theorem red_and {a b : E} {Q : VK} (q : tD X fi call (.and a b) σ H Q) : tAndV (tD X fi call a) (tD X fi call b) σ H Q := by
  obtain ⟨c, st, hs, q⟩ := q
  unfold ev at q
  rw [okR_bind] at q
  refine ⟨c, st, hs, q.mono fun d st1 q1 c1 H1 x s1 p1 r1 => ?_⟩
  cases d with
  | bl p =>
    cases r1
    refine ⟨p, rfl, ?_⟩
    cases p with
    | true => exact ⟨c1, st1, s1, okR.mono q1 fun e st2 q2 c2 H2 y s2 p2 r2 => q2 c2 H2 y s2 (p1.trans p2) r2⟩
    | false => exact q1 c1 H1 _ s1 p1 (.bl _)
  | _ => exact q1.elim
theorem red_or {a b : E} {Q : VK} (q : tD X fi call (.or a b) σ H Q) : tOrV (tD X fi call a) (tD X fi call b) σ H Q := by
  obtain ⟨c, st, hs, q⟩ := q
  unfold ev at q
  rw [okR_bind] at q
  refine ⟨c, st, hs, q.mono fun d st1 q1 c1 H1 x s1 p1 r1 => ?_⟩
  cases d with
  | bl p =>
    cases r1
    refine ⟨p, rfl, ?_⟩
    cases p with
    | false => exact ⟨c1, st1, s1, okR.mono q1 fun e st2 q2 c2 H2 y s2 p2 r2 => q2 c2 H2 y s2 (p1.trans p2) r2⟩
    | true => exact q1 c1 H1 _ s1 p1 (.bl _)
  | _ => exact q1.elim
theorem red_not {a : E} {Q : VK} (q : tD X fi call (.not a) σ H Q) : tNotV (tD X fi call a) σ H Q := by
  obtain ⟨c, st, hs, q⟩ := q
  unfold ev at q
  rw [okR_bind] at q
  refine ⟨c, st, hs, q.mono fun d st1 q1 c1 H1 x s1 p1 r1 => ?_⟩
  cases d with
  | bl p =>
    cases r1
    exact ⟨p, rfl, q1 c1 H1 _ s1 p1 (.bl _)⟩
  | _ => exact q1.elim
theorem red_ife {a b e : E} {Q : VK} (q : tD X fi call (.ife e a b) σ H Q) : tIf (tB (tD X fi call e)) (tD X fi call a) (tD X fi call b) σ H Q := by
  obtain ⟨c, st, hs, q⟩ := q
  unfold ev at q
  rw [okR_bind] at q
  refine ⟨c, st, hs, q.mono fun d st1 q1 c1 H1 x s1 p1 r1 => ?_⟩
  cases d with
  | bl p =>
    cases r1
    refine ⟨p, rfl, ?_⟩
    cases p with
    | true => exact ⟨c1, st1, s1, okR.mono q1 fun e st2 q2 c2 H2 y s2 p2 r2 => q2 c2 H2 y s2 (p1.trans p2) r2⟩
    | false => exact ⟨c1, st1, s1, okR.mono q1 fun e st2 q2 c2 H2 y s2 p2 r2 => q2 c2 H2 y s2 (p1.trans p2) r2⟩
  | _ => exact q1.elim
theorem redT_and {a b : E} {Q : Bool → Hp → Prop} (q : tB (tD X fi call (.and a b)) σ H Q) : tAnd (tB (tD X fi call a)) (tB (tD X fi call b)) σ H Q := by
  obtain ⟨c, st, hs, q⟩ := red_and q
  refine ⟨c, st, hs, q.mono fun d st1 q1 c1 H1 x s1 p1 r1 => ?_⟩
  obtain ⟨p, e, q2⟩ := q1 c1 H1 x s1 p1 r1
  refine ⟨p, e, ?_⟩
  cases p with
  | true => exact q2
  | false =>
    obtain ⟨k, e1, q3⟩ := q2
    cases e1
    exact q3
theorem redT_or {a b : E} {Q : Bool → Hp → Prop} (q : tB (tD X fi call (.or a b)) σ H Q) : tOr (tB (tD X fi call a)) (tB (tD X fi call b)) σ H Q := by
  obtain ⟨c, st, hs, q⟩ := red_or q
  refine ⟨c, st, hs, q.mono fun d st1 q1 c1 H1 x s1 p1 r1 => ?_⟩
  obtain ⟨p, e, q2⟩ := q1 c1 H1 x s1 p1 r1
  refine ⟨p, e, ?_⟩
  cases p with
  | false => exact q2
  | true =>
    obtain ⟨k, e1, q3⟩ := q2
    cases e1
    exact q3
theorem redT_not {a : E} {Q : Bool → Hp → Prop} (q : tB (tD X fi call (.not a)) σ H Q) : tNot (tB (tD X fi call a)) σ H Q := by
  obtain ⟨c, st, hs, q⟩ := red_not q
  refine ⟨c, st, hs, q.mono fun d st1 q1 c1 H1 x s1 p1 r1 => ?_⟩
  obtain ⟨p, e, k, e1, q2⟩ := q1 c1 H1 x s1 p1 r1
  cases e1
  exact ⟨p, e, q2⟩

/-! ### items, slices -/
theorem plainIx {b : Expr} (h : (match b with | .Slice .. => false | .Tuple .. => false | _ => true) = true) : PlainIx b := by
  intro o i
  cases b <;> first | rfl | exact absurd (show false = true from h) Bool.false_ne_true
theorem subF {P : Program} {w : World} {K : PySem.W.Frag} {F : List Cell} {d k r : D} {v : V} (ct : CtR P w K c H F) (rd : Rp P w K c H v d) (h : subD F d k = some r) :
    ∃ d', subD [] d' k = some r ∧ (Rp P w K c H v d' ∨ ∃ a cl, v = .ref a ∧ CellR P w K c H a cl ∧ d' = cl.d) := by
  cases d with
  | mref n =>
    cases rd with
    | mref hn =>
      simp only [subD] at h
      cases e : F[n]? with
      | none => rw [e] at h; cases h
      | some cl =>
        rw [e] at h
        obtain ⟨a, e1, e2⟩ := ct.cell n cl e
        rw [hn] at e1; cases e1
        cases cl with
        | lst xs =>
          cases k with
          | int i => exact ⟨.lst xs, h, .inr ⟨_, _, rfl, e2.toR rfl, rfl⟩⟩
          | _ => cases h
        | dci ks vs =>
          cases k with
          | int i => exact ⟨.dci ks vs, h, .inr ⟨_, _, rfl, e2.toR rfl, rfl⟩⟩
          | _ => cases h
        | dct ks vs => exact ⟨.dct ks vs, by cases k <;> exact h, .inr ⟨_, _, rfl, e2.toR rfl, rfl⟩⟩
        | ins _ _ => cases h
  | tup xs => exact ⟨_, by cases k <;> exact h, .inl rd⟩
  | lst xs => exact ⟨_, by cases k <;> exact h, .inl rd⟩
  | scr xs => exact ⟨_, by cases k <;> exact h, .inl rd⟩
  | dci ks vs => exact ⟨_, by cases k <;> exact h, .inl rd⟩
  | dct ks vs => exact ⟨_, by cases k <;> exact h, .inl rd⟩
  | _ => cases k <;> cases h
theorem pd_sub {a i : E} {a' i' : Expr} {pos : Pos} (hu : X.A.units + 65 < cLine) (ha : PE X a' (tD X fi call a)) (hi : PE X i' (tD X fi call i)) (hs : PlainIx i') : PE X (.Subscript a' i' pos) (tD X fi call (.sub a i)) := by
  refine ⟨fun pins s σ H Q I ⟨c, st, hst, q⟩ => ?_⟩
  unfold ev at q
  rw [okR_bind] at q
  have h : tD X fi call a σ H fun x H1 => tD X fi call i σ H1 fun y H2 => ∃ c d k r, RP X c H2 y k ∧ subD [] d k = some r ∧ (RP X c H2 x d ∨ ∃ a cl, x = .ref a ∧ CellR X.prog X.w X.K c H2 a cl ∧ d = cl.d) ∧ ∀ z, RP X c H2 z r → Q z H2 := by
    refine ⟨c, st, hst, q.mono fun d st1 q1 c1 H1 x s1 p1 r1 => ⟨c1, st1, s1, ?_⟩⟩
    rw [okR_bind] at q1
    refine q1.mono fun k st2 q2 c2 H2 y s2 p2 r2 => ?_
    rw [okR_of] at q2
    obtain ⟨r, hr, q3⟩ := q2
    obtain ⟨d', h1, h2⟩ := subF s2.ct (r1.step p2) hr
    exact ⟨c2, d', k, r, r2, h1, h2, fun z rz => q3 c2 H2 z s2 (p1.trans p2) rz⟩
  refine Subscript_ (binT ha hi I h fun v u s2 x y H2 I2 rx ry ⟨c, d, k, r, h1, h2, h3, q⟩ => ?_)
  exact sub_D I2 hu h3 h1 rx ry h2 (hs _ _) q
theorem pd_subO {n : Nat} {i : E} {x : Str} {i' : Expr} {px pos : Pos} (hu : X.A.units + 65 < cLine) (hN : X.N[n]? = some x) (hv : Vis X.env.scope x) (hd : (x == ("__debug__" : Str)) = false) (hcd : (x == ("__classdict__" : Str)) = false)
    (hi : PE X i' (tD X fi call i)) (hs : PlainIx i') : PE X (.Subscript (.Name x px) i' pos) (tD X fi call (.subO n i)) := by
  refine ⟨fun pins s σ H Q I ⟨c, st, hst, q⟩ => ?_⟩
  unfold ev at q
  split at q
  · exact q.elim
  rename_i hsome
  obtain ⟨v0, e0⟩ := held_some hst hsome
  rw [okR_bind] at q
  have h : tVar n σ H fun x H1 => tD X fi call i σ H1 fun y H2 => ∃ c d k r, RP X c H2 y k ∧ subD [] d k = some r ∧ (RP X c H2 x d ∨ ∃ a cl, x = .ref a ∧ CellR X.prog X.w X.K c H2 a cl ∧ d = cl.d) ∧ ∀ z, RP X c H2 z r → Q z H2 := by
    refine ⟨v0, e0, c, st, hst, q.mono fun k st2 q2 c2 H2 y s2 p2 r2 => ?_⟩
    dsimp only at q2
    cases e : heldOf st2.ρ[n]? with
    | none =>
      rw [e] at q2
      exact (okR_err q2).elim
    | some d =>
      rw [e] at q2
      have q2 := okR_of.mp q2
      obtain ⟨r, hr, q3⟩ := q2
      obtain ⟨v, e1, hh⟩ := held_slot s2 e
      rw [e0] at e1; cases e1
      rcases hh with hh | ⟨a, cl, ev1, hc1, ed⟩
      · obtain ⟨d', h1, h2⟩ := subF s2.ct hh hr
        exact ⟨c2, d', k, r, r2, h1, h2, fun z rz => q3 c2 H2 z s2 p2 rz⟩
      · subst ed
        refine ⟨c2, cl.d, k, r, r2, ?_, .inr ⟨a, cl, ev1, hc1, rfl⟩, fun z rz => q3 c2 H2 z s2 p2 rz⟩
        cases cl <;> (cases k <;> exact hr)
  refine Subscript_ (binT (pe_var hN hv hd hcd) hi I h fun v u s2 x y H2 I2 rx ry ⟨c, d, k, r, h1, h2, h3, q⟩ => ?_)
  exact sub_D I2 hu h3 h1 rx ry h2 (hs _ _) q

def rSlD (X : Cx) : V → Option Int → Option Int → Hp → VK → Prop := fun x lo hi H Q => rSlA X.K x lo hi H Q ∨ rSlL X.K x lo hi H Q
theorem slr_D : SlR X (rSlD X) := sl_tupA.or sl_list
/-- a part of a slice -/
def tP (X : Cx) (fi : Fi) (r : St → Res (List D × St)) : TO := fun σ H Q => ∃ c st, SR X fi c σ H st ∧ okR (r st) fun ds st' => ∃ o, optInt ds = some o ∧ ∀ c' H', SR X fi c' σ H' st' → Stp c H c' H' → Q o H'
theorem po_nil : PO X none (tP X fi (evs call [])) := ⟨fun pins s σ H Q I ⟨c, st, hs, q⟩ => po_none.run pins s σ H Q I (by
  unfold evs at q
  obtain ⟨o, e, q⟩ := q
  cases e
  exact q c H hs (.refl c H))⟩
theorem po_one {e : E} {e' : Expr} (h : PE X e' (tD X fi call e)) : PO X (some e') (tP X fi (evs call [e])) := ⟨fun pins s σ H Q I ⟨c, st, hs, q⟩ => (po_some h).run pins s σ H Q I (by
  unfold evs at q
  rw [okR_bind] at q
  refine ⟨c, st, hs, q.mono fun d st1 q1 c1 H1 x s1 p1 r1 => ?_⟩
  unfold evs at q1
  obtain ⟨o, e, q⟩ := q1
  cases d with
  | int i => cases e; cases r1; exact ⟨i, rfl, q c1 H1 s1 p1⟩
  | _ => cases e)⟩
theorem cut_rps {vs : List V} {ds : List D} (r : RPs X c H vs ds) (l h : Option Int) : RPs X c H (cutV vs l h) (cutD ds l h) := by
  unfold cutV cutD
  rw [r.length, ← endD_eq, ← endD_eq]
  exact (r.drop _).take _
theorem red_slc {a : E} {lo hi : List E} {Q : VK} (q : tD X fi call (.slc a lo hi) σ H Q) : tSl (rSlD X) (tD X fi call a) (tP X fi (evs call lo)) (tP X fi (evs call hi)) σ H Q := by
  obtain ⟨c, st, hs, q⟩ := q
  unfold ev at q
  rw [okR_bind] at q
  refine ⟨c, st, hs, q.mono fun d st1 q1 c1 H1 x s1 p1 r1 => ⟨c1, st1, s1, ?_⟩⟩
  rw [okR_bind] at q1
  refine q1.mono fun l st2 q2 => ?_
  have go : ∀ o, optInt l = some o → ∀ c2 H2, SR X fi c2 σ H2 st2 → Stp c1 H1 c2 H2 → tP X fi (evs call hi) σ H2 fun u H3 => rSlD X x o u H3 Q := fun o eo c2 H2 s2 p2 => by
    rw [okR_bind] at q2
    refine ⟨c2, st2, s2, q2.mono fun h st3 q3 => ?_⟩
    dsimp only at q3
    cases eh : optInt h with
    | none =>
      rw [eo, eh] at q3
      cases d <;> exact (okR_err q3).elim
    | some h' =>
      rw [eo, eh] at q3
      refine ⟨h', rfl, fun c3 H3 s3 p3 => ?_⟩
      have r3 := (r1.step p2).step p3
      cases d with
      | tup xs =>
        cases r3 with
        | tup h1 h2 h3 =>
          refine .inl ⟨_, _, rfl, SqT.of h1, fun hw => ?_, fun hw p hp => ?_⟩
          · have e := cut_rps h3 o h'
            unfold cutV at e
            rw [hw.1, hw.2, List.drop_zero, Nat.sub_zero, List.take_length] at e
            exact q3 c3 H3 _ s3 ((p1.trans p2).trans p3) (.tup h1 h2 e)
          · obtain ⟨s4, p4, r4⟩ := SR.newTup s3 hp (cut_rps h3 o h')
            exact q3 c3 _ _ s4 (((p1.trans p2).trans p3).trans p4) r4
      | lst xs =>
        cases r3 with
        | lst h1 h2 h3 =>
          refine .inr ⟨_, _, rfl, SqL.of h1, fun p hp => ?_⟩
          exact (Out.lst hp (cut_rps h3 o h')).fin s3 ((p1.trans p2).trans p3) q3
      | scr xs =>
        cases r3 with
        | scr h1 =>
          refine .inr ⟨_, _, rfl, h1.sq, fun p hp => ?_⟩
          have e : cutV (xs.map V.int) o h' = (cutD xs o h').map V.int := by
            unfold cutV cutD
            rw [List.length_map, ← List.map_drop, ← List.map_take, ← endD_eq, ← endD_eq]
          rw [e]
          exact (Out.lst hp (Rps.ints _)).fin s3 ((p1.trans p2).trans p3) q3
      | _ => exact (okR_err q3).elim
  cases eo : optInt l with
  | none =>
    exfalso
    rw [okR_bind] at q2
    cases eh : evs call hi st2 with
    | ok z =>
      rw [eh] at q2
      simp only [eo] at q2
      cases d <;> exact q2
    | exc _ _ => rw [eh] at q2; exact q2
    | err => rw [eh] at q2; exact q2
  | some o => exact ⟨o, rfl, fun c2 H2 s2 p2 => go o eo c2 H2 s2 p2⟩
end
end NW
set_option autoImplicit false
set_option linter.all false
set_option maxRecDepth 100000
/-! NwExp3: built-ins, ranges, methods of lists, calls of defs. -/
namespace NW
open PySem PyProof.Rows L2

/-! ### how a callee leaves the heap -/
structure CStp (c : Cn) (H : Hp) (c' : Cn) (H' : Hp) : Prop where
  keep : ∀ a o, H a = some o → a ∉ c.φ → H' a = some o
  pre : c.φ <+: c'.φ
  keepA : ∀ a, c.A a → c'.A a
  newA : ∀ a, c'.A a → c.A a ∨ H a = none
  newF : ∀ a ∈ c'.φ, a ∈ c.φ ∨ H a = none
def RetR (P : Program) (w : World) (K : PySem.W.Frag) (H : Hp) (c' : Cn) (H' : Hp) (v : V) (d : D) (fr : Bool) : Prop :=
  if fr = true then ∃ a cl, v = .ref a ∧ cellOf d = some cl ∧ c'.A a ∧ a ∉ c'.φ ∧ H a = none ∧ CellR P w K c' H' a cl else Rp P w K c' H' v d
/-- what a call of def number f does -/
def SpF (P : Program) (w : World) (K : PySem.W.Frag) (call : Call) (f : Nat) : List V → Hp → VK → XK → Prop := fun vs H Q E => ∃ c ds F, Rps P w K c H vs ds ∧ CtR P w K c H F ∧ match call f ds F with
  | .ok d fr F' => ∀ c' H' v, CtR P w K c' H' F' → CStp c H c' H' → RetR P w K H c' H' v d fr → Q v H'
  | .exc x F' => ∀ c' H', CtR P w K c' H' F' → CStp c H c' H' → E (.ref (He.ga K x)) none H'
  | .err => False
/-- .. where it raises nothing -/
abbrev SpN (P : Program) (w : World) (K : PySem.W.Frag) (call : Call) (f : Nat) : List V → Hp → VK → Prop := fun vs H Q => SpF P w K call f vs H Q fun _ _ _ => False
/-- the values of the parameters where some come by name -/
def kwOk (ps : List Str) (n : Nat) (ks : List Str) (ix : List Nat) : Bool :=
  decide (n + ix.length = ps.length) && decide (ix.length = ks.length) && decide (ks.Nodup) && ((ps.drop n).zip ix).all fun p => ks[p.2]? == some p.1
/-- a def that may be called -/
structure FnAt (X : Cx) (call : Call) (f : Nat) (a : Addr) (fd : FuncData) (ps : List Str) (kws : List (Nat × List Str × List Nat)) (k : Nat) : Prop where
  keep : PySem.W.keepIn X.K (.ref a) = true
  ok : FnOk X.prog X.w X.K X.mg X.base (L2.CX X.prog X.w) k a fd ps fun vs H Q E => SpF X.prog X.w X.K call f vs H Q E
  room : Room (k + 1) X.A
  pos : Binds X.K fd ps []
  kw : ∀ (s : Shared) (q : Nat × List Str × List Nat) (us ws : List Value), q ∈ kws → us.length = q.1 → ws.length = q.2.1.length → BindsTo s fd ⟨us, q.2.1.zip ws⟩ (ps.zip (us ++ q.2.2.map fun j => ws.getD j .none))
def FnI (X : Cx) (call : Call) (x : Str) (f : Nat) (ps : List Str) (kws : List (Nat × List Str × List Nat)) : Prop := ∃ a fd k, X.mg x = some (.ref a) ∧ FnAt X call f a fd ps kws k

section
variable {P : Program} {w : World} {K : PySem.W.Frag} {fi : Fi} {c c' : Cn} {σ : L2.St} {H H' : Hp} {st : St}
theorem CStp.stp {F : List Cell} (ct : CtR P w K c H F) (s : CStp c H c' H') : Stp c H c' H' := ⟨fun a o h n => s.keep a o h fun z => n (ct.fA a z), s.newA, s.pre⟩
theorem StR.afterCall {F' : List Cell} (r : StR P w K fi c σ H st) (ct : CtR P w K c' H' F') (s : CStp c H c' H') : StR P w K fi c' σ H' { st with F := F' } := by
  have p := s.stp r.ct
  have n0 : ∀ a, H a = none → fi.H0 a = none := fun a h => r.new0 h
  refine ⟨r.len, fun i sl e => ?_, r.uniq, ct, fun a o h n => ?_, r.pre.trans s.pre, fun a h => s.keepA a (r.keepA a h), fun a h => ?_, r.ownN, fun a h => ?_, r.dom0⟩
  · have q := r.slot i sl e
    cases sl with
    | no => trivial
    | val d => obtain ⟨v, e1, e2⟩ := q; exact ⟨v, e1, e2.step p⟩
    | own cl =>
      obtain ⟨a, e1, e2, e3, e4⟩ := q
      have ha : H a ≠ none := r.ct.dom a e2
      refine ⟨a, e1, s.keepA a e2, fun z => ?_, e4.step p ?_⟩
      · rcases s.newF a z with q | q
        · exact e3 q
        · exact ha q
      · cases e5 : H a with
        | none => exact absurd e5 ha
        | some o => exact s.keep a o e5 e3
  · have e := r.base a o h n
    refine s.keep a o e fun z => ?_
    rcases r.newF a z with q | q
    · exact n q
    · rw [q] at h; cases h
  · rcases s.newA a h with q | q
    · exact r.newA a q
    · exact .inr (n0 a q)
  · rcases s.newF a h with q | q
    · exact r.newF a q
    · exact .inr (n0 a q)
end

section
variable {X : Cx} {fi : Fi} {call : Call} {c : Cn} {σ : L2.St} {H : Hp} {st : St} {Q : VK}

/-! ### built-in functions -/
def rBi (X : Cx) (b : Bi) : List V → Hp → VK → Prop := fun vs H Q => ∃ c ds r, HeldA X.prog X.w X.K c H vs ds ∧ biD b ds = some r ∧ ∀ z H', Out X.prog X.w X.K c H r z H' → Q z H'
theorem cr_bi (hc : X.calm = true) (hu : X.A.units + 65 < cLine) (b : Bi) : CallR X b.fn (rBi X b) := by
  intro pins s σ H vs us Q I rv ⟨c, ds, r, h1, h2, q⟩
  exact bi_D I hc hu rv h1 h2 q
def Bi.nm : Bi → Str
  | .len => "len" | .int => "int" | .sum => "sum" | .max2 => "max" | .min2 => "min" | .maxl => "max" | .minl => "min" | .all => "all" | .tuple => "tuple" | .list => "list" | .sorted => "sorted"
theorem Bi.boot (b : Bi) : bootBuiltins b.nm = some b.fn := by cases b <;> decide +kernel
theorem Bi.nm1 (b : Bi) : b.nm ≠ "__name__" := by cases b <;> decide
theorem Bi.nm2 (b : Bi) : (b.nm == ("__debug__" : Str)) = false := by cases b <;> decide
theorem backOne {e : Expr} {env : Env} {pos : Pos} : ∀ {es : List Expr}, es.all notStar = true → (backTo pos (starEach es env)).any (·.1) = false
  | [], _ => rfl
  | e :: es, h => by
    simp only [List.all_cons, Bool.and_eq_true] at h
    rw [starN h.1]
    exact backOne (e := e) h.2
theorem pe_bi {b : Bi} {e : Expr} {es : List Expr} {t : TA} {p pos : Pos} (hc : X.calm = true) (hu : X.A.units + 65 < cLine) (hg : Gl X b.nm) (hm : X.mg b.nm = none) (ha : PA X (e :: es) t) (hs : (e :: es).all notStar = true) :
    PE X (.Call (.Name b.nm p) (e :: es) [] pos) (tCB (rBi X b) t) := by
  simp only [List.all_cons, Bool.and_eq_true] at hs
  have c := cr_bi hc hu b
  have bt := b.boot
  have n1 := b.nm1
  have n2 := b.nm2
  cases b <;> first
    | exact pe_callB c hg hm bt ha n1 n2 (starN hs.1) (backOne (e := e) hs.2)
    | exact pe_callTy c hg hm bt ha n1 n2 (starN hs.1) (backOne (e := e) hs.2)
theorem red_bi {b : Bi} {es : List E} {Q : VK} (q : tD X fi call (.bi b es) σ H Q) : tCB (rBi X b) (tDs X fi call es) σ H Q := by
  obtain ⟨c, st, hs, q⟩ := q
  unfold ev at q
  rw [okR_bind] at q
  refine ⟨c, st, hs, q.mono fun ds st1 q1 c1 H1 xs s1 p1 r1 => ?_⟩
  rw [okR_of] at q1
  obtain ⟨r, hr, q2⟩ := q1
  exact ⟨c1, ds, r, .inr r1, hr, fun z H' o => o.fin s1 p1 q2⟩
theorem red_biO {b : Bi} {es : List E} {Q : VK} (q : tOD X fi call (.bi b es) σ H Q) : tCB (rBi X b) (tDs X fi call es) σ H Q := by
  obtain ⟨c, st, hs, q⟩ := q
  unfold ev at q
  rw [okR_bind] at q
  refine ⟨c, st, hs, q.mono fun ds st1 q1 c1 H1 xs s1 p1 r1 => ?_⟩
  rw [okR_of] at q1
  obtain ⟨r, hr, cl, hcl, q2⟩ := q1
  exact ⟨c1, ds, r, .inr r1, hr, fun z H' o => o.finO s1 p1 hcl q2⟩
theorem red_cpO {b : Bi} {i : Nat} {Q : VK} (q : tD X fi call (.cpO b i) σ H Q) : tCB (rBi X b) (tCons (tVar i) tNil) σ H Q := by
  obtain ⟨c, st, hs, q⟩ := q
  unfold ev at q
  cases e : heldOf st.ρ[i]? with
  | none => rw [e] at q; exact q.elim
  | some d =>
    rw [e] at q
    have q := okR_of.mp q
    obtain ⟨r, hr, q2⟩ := q
    obtain ⟨v, e1, hh⟩ := held_slot hs e
    exact ⟨v, e1, c, [d], r, .inl ⟨v, d, rfl, rfl, hh⟩, hr, fun z H' o => o.fin hs (.refl c H) q2⟩
theorem red_cpOO {b : Bi} {i : Nat} {Q : VK} (q : tOD X fi call (.cpO b i) σ H Q) : tCB (rBi X b) (tCons (tVar i) tNil) σ H Q := by
  obtain ⟨c, st, hs, q⟩ := q
  unfold ev at q
  cases e : heldOf st.ρ[i]? with
  | none => rw [e] at q; exact q.elim
  | some d =>
    rw [e] at q
    have q := okR_of.mp q
    obtain ⟨r, hr, cl, hcl, q2⟩ := q
    obtain ⟨v, e1, hh⟩ := held_slot hs e
    exact ⟨v, e1, c, [d], r, .inl ⟨v, d, rfl, rfl, hh⟩, hr, fun z H' o => o.finO hs (.refl c H) hcl q2⟩
theorem red_lenO {i : Nat} {Q : VK} (q : tD X fi call (.lenO i) σ H Q) : tCB (rBi X .len) (tCons (tVar i) tNil) σ H Q := by
  obtain ⟨c, st, hs, q⟩ := q
  unfold ev at q
  cases e : heldOf st.ρ[i]? with
  | none => rw [e] at q; exact q.elim
  | some d =>
    rw [e] at q
    have q := okR_of.mp q
    obtain ⟨n, hn, q2⟩ := q
    obtain ⟨v, e1, hh⟩ := held_slot hs e
    refine ⟨v, e1, c, [d], .int n, .inl ⟨v, d, rfl, rfl, hh⟩, by show (lenD d).map _ = _; rw [hn]; rfl, fun z H' o => o.fin hs (.refl c H) q2⟩

/-! ### own lists, compared -/
theorem held_fix {d : D} {v : V} (h : Held X.prog X.w X.K c H v d) : (∃ c', Stp c H c' H ∧ RP X c' H v d) ∨ (∃ a, v = .ref a ∧ CellR X.prog X.w X.K c H a (.ins "" []) ) := by
  rcases h with h | ⟨a, cl, e, h, e2⟩
  · exact .inl ⟨c, .refl c H, h⟩
  · subst e e2
    exact .inl ⟨c.minus a, .minus a, (h.step (.minus a) rfl).value fun z => z.2 rfl⟩
theorem held_rp {d : D} {v : V} (h : Held X.prog X.w X.K c H v d) : ∃ c', Stp c H c' H ∧ RP X c' H v d := by
  rcases held_fix h with h | ⟨a, _, h⟩
  · exact h
  · exact h.elim
def bIn (n : Bool) : COp := if n then .nin else .inn
def bEq (n : Bool) : COp := if n then .ne else .eq
theorem red_inO {n : Bool} {i : Nat} {e : E} {Q : VK} (q : tD X fi call (.inO n e i) σ H Q) : tOp (rCmp X (bIn n)) (tD X fi call e) (tVar i) σ H Q := by
  obtain ⟨c, st, hs, q⟩ := q
  unfold ev at q
  rw [okR_bind] at q
  refine ⟨c, st, hs, q.mono fun k st1 q1 c1 H1 x s1 p1 r1 => ?_⟩
  dsimp only at q1
  cases e : heldOf st1.ρ[i]? with
  | none => rw [e] at q1; exact q1.elim
  | some d =>
    rw [e] at q1
    have q1 := okR_of.mp q1
    obtain ⟨b, hb, q2⟩ := q1
    obtain ⟨v, e1, hh⟩ := held_slot s1 e
    obtain ⟨c2, p2, r2⟩ := held_rp hh
    exact ⟨v, e1, c2, k, d, b, r1.step p2, r2, hb, q2 c1 H1 _ s1 p1 (.bl b)⟩
theorem red_eqO {n : Bool} {i : Nat} {e : E} {Q : VK} (q : tD X fi call (.eqO n i e) σ H Q) : tOp (rCmp X (bEq n)) (tVar i) (tD X fi call e) σ H Q := by
  obtain ⟨c, st, hs, q⟩ := q
  unfold ev at q
  split at q
  · exact q.elim
  rename_i hsome
  obtain ⟨v0, e0⟩ := held_some hs hsome
  rw [okR_bind] at q
  refine ⟨v0, e0, c, st, hs, q.mono fun k st1 q1 c1 H1 x s1 p1 r1 => ?_⟩
  dsimp only at q1
  cases e : heldOf st1.ρ[i]? with
  | none => rw [e] at q1; exact q1.elim
  | some d =>
    rw [e] at q1
    have q1 := okR_of.mp q1
    obtain ⟨b, hb, q2⟩ := q1
    obtain ⟨v, e1, hh⟩ := held_slot s1 e
    rw [e0] at e1; cases e1
    obtain ⟨c2, p2, r2⟩ := held_rp hh
    exact ⟨c2, d, k, b, r2, r1.step p2, hb, q2 c1 H1 _ s1 p1 (.bl b)⟩

/-! ### isinstance -/
def Ty.nm (t : Ty) : Str := .ofString t.tn
theorem Ty.boot (t : Ty) (h : t.plain = true) : bootBuiltins t.nm = some (.type t.tn) := by
  cases t <;> first | exact absurd (show false = true from h) Bool.false_ne_true | decide +kernel
theorem Ty.nm1 (t : Ty) (h : t.plain = true) : t.nm ≠ "__name__" ∧ (t.nm == ("__debug__" : Str)) = false := by
  cases t <;> first | exact absurd (show false = true from h) Bool.false_ne_true | decide
theorem pe_ty {t : Ty} {p : Pos} (h : t.plain = true) (hg : Gl X t.nm) (hm : X.mg t.nm = none) : PE X (.Name t.nm p) (tC (.ty t.tn)) := pe_bltn hg hm (t.boot h) rfl (t.nm1 h).1 (t.nm1 h).2
theorem cr_isi1 {t : Ty} (ht : t.plain = true) : CallR X (.builtin "isinstance") (fun vs H Q => ∃ c v d, vs = [v, .ty t.tn] ∧ RP X c H v d ∧ d.isiOk = true ∧ Q (.bl (t.is d)) H) := by
  intro pins s σ H vs us Q I rv ⟨c, v, d, e, h1, h2, q⟩
  subst e
  exact isi1_D I h1 h2 ht rfl rv q
theorem cr_isiT {ts : List Ty} (ht : ts.all Ty.plain = true) : CallR X (.builtin "isinstance") (fun vs H Q => ∃ c v d p, vs = [v, .ref p] ∧ H p = some (.tup (ts.map fun t => V.ty t.tn)) ∧ RP X c H v d ∧ d.isiOk = true ∧ Q (.bl (ts.any fun t => t.is d)) H) := by
  intro pins s σ H vs us Q I rv ⟨c, v, d, p, e, h0, h1, h2, q⟩
  subst e
  exact isiT_D I h1 h2 ht h0 rv q
theorem boot_isi : bootBuiltins "isinstance" = some (.builtin "isinstance") := by decide +kernel
theorem pd_isi1 {a : E} {t : Ty} {a' : Expr} {p p2 pos : Pos} (hg : Gl X "isinstance") (hm : X.mg "isinstance" = none) (ht : t.plain = true) (hg2 : Gl X t.nm) (hm2 : X.mg t.nm = none) (ha : PE X a' (tD X fi call a)) (hs : notStar a' = true) :
    PE X (.Call (.Name "isinstance" p) [a', .Name t.nm p2] [] pos) (tD X fi call (.isi a [t])) := by
  refine PE.imp (pe_callB (cr_isi1 ht) hg hm boot_isi (pa_cons ha (pa_cons (pe_ty ht hg2 hm2) pa_nil) (starN hs)) (by decide) (by decide) (starN hs)) fun σ H Q ⟨c, st, hst, q⟩ => ?_
  unfold ev at q
  rw [okR_bind] at q
  refine ⟨c, st, hst, q.mono fun d st1 q1 c1 H1 x s1 p1 r1 => ?_⟩
  dsimp only at q1
  split at q1
  · rename_i hd
    simp only [Bool.and_eq_true] at hd
    refine ⟨c1, x, d, rfl, r1, hd.1, ?_⟩
    have z := q1 c1 H1 _ s1 p1 (.bl _)
    simpa using z
  · exact q1.elim
/-- the classes of a tuple -/
def tyNames : List Ty → List Expr → Bool
  | [], [] => true
  | t :: ts, .Name x _ :: es => t.plain && decide (x = t.nm) && tyNames ts es
  | _, _ => false
theorem pa_tys : ∀ {ts : List Ty} {es : List Expr}, tyNames ts es = true → (∀ t ∈ ts, Gl X t.nm ∧ X.mg t.nm = none) → ∃ t, PA X es t ∧ ∀ σ H Q, Q (ts.map fun t => V.ty t.tn) H → t σ H Q
  | [], [], _, _ => ⟨_, pa_nil, fun _ _ _ q => q⟩
  | t :: ts, .Name x p :: es, h, hg => by
    simp only [tyNames, Bool.and_eq_true, decide_eq_true_eq] at h
    obtain ⟨⟨h1, rfl⟩, h3⟩ := h
    obtain ⟨u, hu, hq⟩ := pa_tys h3 fun t ht => hg t (List.mem_cons_of_mem _ ht)
    have g := hg t List.mem_cons_self
    exact ⟨_, pa_cons (pe_ty h1 g.1 g.2) hu (starN rfl), fun σ H Q q => hq _ _ _ q⟩
  | [], _ :: _, h, _ => by simp [tyNames] at h
  | _ :: _, [], h, _ => by simp [tyNames] at h
theorem pd_isiT {a : E} {ts : List Ty} {a' : Expr} {es : List Expr} {x1} {p p2 pos : Pos} (hg : Gl X "isinstance") (hm : X.mg "isinstance" = none) (ht : ts.all Ty.plain = true) (hn : tyNames ts es = true) (hl : ts.length ≤ line) (hg2 : ∀ t ∈ ts, Gl X t.nm ∧ X.mg t.nm = none)
    (ha : PE X a' (tD X fi call a)) (hs : notStar a' = true) : PE X (.Call (.Name "isinstance" p) [a', .Tuple es x1 p2] [] pos) (tD X fi call (.isi a ts)) := by
  obtain ⟨t, h1, h2⟩ := pa_tys hn hg2
  refine PE.imp (pe_callB (cr_isiT ht) hg hm boot_isi (pa_cons ha (pa_cons (pe_tup h1) pa_nil) (starN hs)) (by decide) (by decide) (starN hs)) fun σ H Q ⟨c, st, hst, q⟩ => ?_
  unfold ev at q
  rw [okR_bind] at q
  refine ⟨c, st, hst, q.mono fun d st1 q1 c1 H1 x s1 p1 r1 => ?_⟩
  refine h2 _ _ _ ⟨by rw [List.length_map]; exact Nat.le_trans hl line_le, fun p hp => ?_⟩
  dsimp only at q1
  split at q1
  · rename_i hd
    simp only [Bool.and_eq_true] at hd
    refine ⟨c1, x, d, p, rfl, upd_same, r1.step (.new hp), hd.1, ?_⟩
    exact q1 c1 _ _ (s1.new hp) (p1.trans (.new hp)) (.bl _)
  · exact q1.elim

/-! ### ranges -/
theorem rng_rps {P : Program} {w : World} {K : PySem.W.Frag} (lo hi : Int) : Rps P w K c H (rgV lo hi) (rngD lo hi) := by
  unfold rgV rngD
  have e : ∀ l : List Nat, Rps P w K c H (l.map fun (i : Nat) => V.int (lo + i)) (l.map fun (i : Nat) => D.int (lo + i)) := fun l => by
    induction l with
    | nil => exact .nil
    | cons i l ih => exact .cons (.int _) ih
  exact e _
theorem rngOk_rg {lo hi : Int} (h : rngOk lo hi = true) : RgOk lo hi := by
  unfold rngOk line at h
  simp only [Bool.and_eq_true, decide_eq_true_eq] at h
  unfold RgOk
  omega
theorem pd_rngT {a : E} {a' : Expr} {p p2 pos pos2 : Pos} (hc : X.calm = true) (hg : Gl X "tuple") (hm : X.mg "tuple" = none) (hg2 : Gl X "range") (hm2 : X.mg "range" = none) (ha : PE X a' (tD X fi call a)) (hs : notStar a' = true) :
    PE X (.Call (.Name "tuple" p) [.Call (.Name "range" p2) [a'] [] pos2] [] pos) (tD X fi call (.rngT a)) := by
  refine PE.imp (pe_tupRg hc hg hm (prg_1 hg2 hm2 ha (starN hs)) (starN rfl)) fun σ H Q ⟨c, st, hst, q⟩ => ?_
  unfold ev at q
  rw [okR_bind] at q
  refine ⟨c, st, hst, q.mono fun d st1 q1 c1 H1 x s1 p1 r1 => ?_⟩
  cases d with
  | int n =>
    cases r1
    dsimp only at q1
    split at q1
    · rename_i hr
      refine ⟨n, rfl, rngOk_rg hr, fun p hp => ?_⟩
      obtain ⟨s2, p2, r2⟩ := SR.newTup s1 hp (rng_rps 0 n)
      exact q1 c1 _ _ s2 (p1.trans p2) r2
    · exact q1.elim
  | _ => exact q1.elim
theorem pd_rngL {a : E} {a' : Expr} {p p2 pos pos2 : Pos} (hc : X.calm = true) (hg : Gl X "list") (hm : X.mg "list" = none) (hg2 : Gl X "range") (hm2 : X.mg "range" = none) (ha : PE X a' (tD X fi call a)) (hs : notStar a' = true) :
    PE X (.Call (.Name "list" p) [.Call (.Name "range" p2) [a'] [] pos2] [] pos) (tOD X fi call (.rngL a)) := by
  refine PE.imp (pe_listRg hc hg hm (prg_1 hg2 hm2 ha (starN hs)) (starN rfl)) fun σ H Q ⟨c, st, hst, q⟩ => ?_
  unfold ev at q
  rw [okR_bind] at q
  refine ⟨c, st, hst, q.mono fun d st1 q1 c1 H1 x s1 p1 r1 => ?_⟩
  cases d with
  | int n =>
    cases r1
    dsimp only at q1
    split at q1
    · rename_i hr
      obtain ⟨cl, hcl, q2⟩ := q1
      cases hcl
      refine ⟨n, rfl, rngOk_rg hr, fun p hp => ?_⟩
      obtain ⟨s2, p2, r2⟩ := SR.newLst s1 hp (rng_rps 0 n)
      exact q2 _ _ _ s2 (p1.trans p2) r2
    · exact q1.elim
  | _ => exact q1.elim
end
end NW
set_option autoImplicit false
set_option linter.all false
set_option maxRecDepth 100000
/-! NwExp4: methods of one's own lists, calls of defs. -/
namespace NW
open PySem PyProof.Rows L2

section
variable {X : Cx} {fi : Fi} {call : Call} {c : Cn} {σ : L2.St} {H : Hp} {st : St} {Q : VK}
theorem own_slot {i : Nat} {cl : Cell} (hs : SR X fi c σ H st) (h : ownOf st.ρ[i]? = some cl) : ∃ a, σ[i]? = some (some (.ref a)) ∧ c.A a ∧ a ∉ c.φ ∧ CellR X.prog X.w X.K c H a cl ∧ st.ρ[i]? = some (.own cl) := by
  cases e : st.ρ[i]? with
  | none => rw [e] at h; cases h
  | some sl =>
    rw [e] at h
    have r := hs.slot i sl e
    cases sl with
    | no => cases h
    | val d' => cases h
    | own cl' => cases h; obtain ⟨a, e1, e2, e3, e4⟩ := r; exact ⟨a, e1, e2, e3, e4, rfl⟩
theorem ownL_slot {i : Nat} (hs : SR X fi c σ H st) (h : ¬ ownL st.ρ[i]? = false) : ∃ a vs, σ[i]? = some (some (.ref a)) ∧ H a = some (.lst vs) := by
  cases e : st.ρ[i]? with
  | none => rw [e] at h; exact absurd rfl h
  | some sl =>
    rw [e] at h
    have r := hs.slot i sl e
    cases sl with
    | no => exact absurd rfl h
    | val d' => exact absurd rfl h
    | own cl =>
      cases cl with
      | lst xs => obtain ⟨a, e1, _, _, vs, e4, _⟩ := r; exact ⟨a, vs, e1, e4⟩
      | _ => exact absurd rfl h
theorem okR_evs1 {e : E} {Q : List D → St → Prop} : okR (evs call [e] st) Q ↔ okR (ev call e st) fun d s => Q [d] s := by
  unfold evs
  rw [okR_bind]
  constructor
  · intro h; refine h.mono fun d s q => ?_; unfold evs at q; exact q
  · intro h; refine h.mono fun d s q => ?_; unfold evs; exact q
theorem red_app {i : Nat} {e : E} {Q : VK} (q : tD X fi call (.app i e) σ H Q) : tBM X.K "list" rAppend (tVar i) (tDs X fi call [e]) σ H Q := by
  obtain ⟨c, st, hs, q⟩ := q
  unfold ev at q
  split at q
  · exact q.elim
  rename_i ho
  rw [okR_bind] at q
  obtain ⟨a, ws, e0, e1⟩ := ownL_slot hs ho
  refine ⟨_, e0, .inl ⟨rfl, ws, SqL.of e1⟩, c, st, hs, okR_evs1.mpr (q.mono fun d st2 q2 c2 H2 vs s2 p2 r2 => ?_)⟩
  cases r2 with
  | cons r2 r0 =>
    cases r0
    dsimp only at q2
    cases e : ownOf st2.ρ[i]? with
    | none => rw [e] at q2; exact q2.elim
    | some cl =>
      rw [e] at q2
      cases cl with
      | lst xs =>
        dsimp only at q2
        split at q2
        · rename_i hl
          obtain ⟨b, f1, f2, f3, ⟨us, f4, f5⟩, f6⟩ := own_slot s2 e
          rw [e0] at f1; cases f1
          refine ⟨a, us, _, rfl, rfl, f4, by rw [f5.length]; exact Nat.lt_of_lt_of_le hl line_le, ?_⟩
          refine q2 c2 _ .non (s2.chg f6 e0 ⟨_, upd_same, (f5.append (.cons r2 .nil)).step (.wr f2)⟩) (p2.trans (.wr f2)) .non
        · exact q2.elim
      | _ => exact q2.elim
theorem red_ext {i : Nat} {e : E} {Q : VK} (q : tD X fi call (.ext i e) σ H Q) : tBM X.K "list" rExtend (tVar i) (tDs X fi call [e]) σ H Q := by
  obtain ⟨c, st, hs, q⟩ := q
  unfold ev at q
  split at q
  · exact q.elim
  rename_i ho
  rw [okR_bind] at q
  obtain ⟨a, ws, e0, e1⟩ := ownL_slot hs ho
  refine ⟨_, e0, .inl ⟨rfl, ws, SqL.of e1⟩, c, st, hs, okR_evs1.mpr (q.mono fun d st2 q2 c2 H2 vs s2 p2 r2 => ?_)⟩
  cases r2 with
  | cons r2 r0 =>
    cases r0
    dsimp only at q2
    cases e : ownOf st2.ρ[i]? with
    | none => rw [e] at q2; exact q2.elim
    | some cl =>
      rw [e] at q2
      cases cl with
      | lst xs =>
        cases d with
        | lst ys =>
          dsimp only at q2
          split at q2
          · rename_i hl
            obtain ⟨b, f1, f2, f3, ⟨us, f4, f5⟩, f6⟩ := own_slot s2 e
            rw [e0] at f1; cases f1
            cases r2 with
            | lst g1 g2 g3 =>
              refine ⟨a, _, us, _, rfl, rfl, f4, g1, by rw [f5.length, g3.length]; exact Nat.le_trans hl line_le, ?_⟩
              exact q2 c2 _ .non (s2.chg f6 e0 ⟨_, upd_same, (f5.append g3).step (.wr f2)⟩) (p2.trans (.wr f2)) .non
          · exact q2.elim
        | _ => exact q2.elim
      | _ => cases d <;> exact q2.elim
theorem red_pop {i : Nat} {Q : VK} (q : tD X fi call (.pop i) σ H Q) : tBM0 X.K "list" rPop (tVar i) σ H Q := by
  obtain ⟨c, st, hs, q⟩ := q
  unfold ev at q
  cases e : ownOf st.ρ[i]? with
  | none => rw [e] at q; exact q.elim
  | some cl =>
    rw [e] at q
    cases cl with
    | lst xs =>
      obtain ⟨a, f1, f2, f3, ⟨us, f4, f5⟩, f6⟩ := own_slot hs e
      dsimp only at q
      cases ey : xs.getLast? with
      | none => rw [ey] at q; exact q.elim
      | some y =>
        rw [ey] at q
        rw [List.getLast?_eq_getElem?] at ey
        obtain ⟨v, hv, rv⟩ := f5.get ey
        refine ⟨_, f1, .inl ⟨rfl, us, SqL.of f4⟩, a, us, v, rfl, rfl, f4, by rw [f5.length]; exact hv, ?_⟩
        exact q c _ v (hs.chg f6 f1 ⟨_, upd_same, f5.dropLast.step (.wr f2)⟩) (.wr f2) (rv.step (.wr f2))
    | _ => exact q.elim
theorem red_popA {i : Nat} {e : E} {Q : VK} (q : tD X fi call (.popA i e) σ H Q) : tBM X.K "list" rPopAt (tVar i) (tDs X fi call [e]) σ H Q := by
  obtain ⟨c, st, hs, q⟩ := q
  unfold ev at q
  split at q
  · exact q.elim
  rename_i ho
  rw [okR_bind] at q
  obtain ⟨a, ws, e0, e1⟩ := ownL_slot hs ho
  refine ⟨_, e0, .inl ⟨rfl, ws, SqL.of e1⟩, c, st, hs, okR_evs1.mpr (q.mono fun d st2 q2 c2 H2 vs s2 p2 r2 => ?_)⟩
  cases r2 with
  | cons r2 r0 =>
    cases r0
    dsimp only at q2
    cases e : ownOf st2.ρ[i]? with
    | none => rw [e] at q2; exact q2.elim
    | some cl =>
      rw [e] at q2
      cases cl with
      | lst xs =>
        cases d with
        | int k =>
          cases r2
          dsimp only at q2
          split at q2
          · exact q2.elim
          rename_i hl
          obtain ⟨b, f1, f2, f3, ⟨us, f4, f5⟩, f6⟩ := own_slot s2 e
          rw [e0] at f1; cases f1
          cases ej : ixD xs.length k with
          | none => rw [ej] at q2; exact q2.elim
          | some j =>
            rw [ej] at q2
            dsimp only at q2
            cases ey : xs[j]? with
            | none => rw [ey] at q2; exact q2.elim
            | some y =>
              rw [ey] at q2
              obtain ⟨v, hv, rv⟩ := f5.get ey
              rw [ixD_eq] at ej
              obtain ⟨g1, g2, g3, g4⟩ := ixN_seq ej
              have hl : xs.length ≤ 1000000 := by unfold line at hl; omega
              refine ⟨a, us, k, j, v, rfl, rfl, f4, by omega, by omega, by rw [f5.length]; exact g1, hv, ?_⟩
              exact q2 c2 _ v (s2.chg f6 e0 ⟨_, upd_same, (f5.eraseIdx j).step (.wr f2)⟩) (p2.trans (.wr f2)) (rv.step (.wr f2))
        | _ => exact q2.elim
      | _ => cases d <;> exact q2.elim
/-- name.method(e) -/
theorem pd_bm {i : Nat} {x : Str} {T : Str} {id : String} {r : V → List V → Hp → VK → Prop} {e' : Expr} {t : TA} {px ap cp : Pos} (slot : PySem.Slot "list" T id) (hty : typeOf (.builtin id) = pure (.type "method_descriptor")) (hm : MtR X id r)
    (hN : X.N[i]? = some x) (hv : Vis X.env.scope x) (hd : (x == ("__debug__" : Str)) = false) (hcd : (x == ("__classdict__" : Str)) = false) (ha : PA X [e'] t) (hs : notStar e' = true) (hl : (ap.endLine == cp.line) = true) (hb : attributeBase (.Name x px) T X.env (eval (.Name x px) X.env) = eval (.Name x px) X.env) :
    PE X (.Call (.Attribute (.Name x px) T ap) [e'] [] cp) (tBM X.K "list" r (tVar i) t) :=
  pe_bm PySem.F.plainAttrs_list slot hty hm (pe_var hN hv hd hcd) ha hb (by rw [starN hs]; rfl) hl (starN hs) rfl
theorem pd_bm0 {i : Nat} {x : Str} {T : Str} {id : String} {r : V → List V → Hp → VK → Prop} {px ap cp : Pos} (slot : PySem.Slot "list" T id) (hty : typeOf (.builtin id) = pure (.type "method_descriptor")) (hm : MtR X id r)
    (hN : X.N[i]? = some x) (hv : Vis X.env.scope x) (hd : (x == ("__debug__" : Str)) = false) (hcd : (x == ("__classdict__" : Str)) = false) (hl : (ap.endLine == cp.line) = true) (hb : attributeBase (.Name x px) T X.env (eval (.Name x px) X.env) = eval (.Name x px) X.env) :
    PE X (.Call (.Attribute (.Name x px) T ap) [] [] cp) (tBM0 X.K "list" r (tVar i)) :=
  pe_bm0 PySem.F.plainAttrs_list slot hty hm (pe_var hN hv hd hcd) hb hl

/-! ### calls of defs -/
theorem passN : Passes (L2.CX X.prog X.w) X fun _ _ _ => False := fun _ _ _ _ _ _ _ ⟨_, _, _, _, _, _, _, _, _, _, _, _, z⟩ => z.elim
theorem pe_fn {x : Str} {f : Nat} {ps : List Str} {kt : List (Nat × List Str × List Nat)} {e : Expr} {es : List Expr} {t : TA} {p pos : Pos} (hf : FnI X call x f ps kt) (hg : Gl X x) (hdb : (x == ("__debug__" : Str)) = false) (ha : PA X (e :: es) t) (hs : (e :: es).all notStar = true) :
    PE X (.Call (.Name x p) (e :: es) [] pos) (fun σ H Q => t σ H fun vs H1 => SpN X.prog X.w X.K call f vs H1 Q) := by
  obtain ⟨a, fd, k, hm, F⟩ := hf
  simp only [List.all_cons, Bool.and_eq_true] at hs
  refine PE.imp (pe_call F.ok (F.room.mono (Nat.le_succ _)) hg hm F.keep F.pos .nil passN ha hdb (starN hs.1) (backOne (e := e) hs.2)) fun σ H Q q => ?_
  show t σ H _
  have e : (fun (vs : List V) H1 => SpN X.prog X.w X.K call f (vs ++ []) H1 Q) = fun vs H1 => SpN X.prog X.w X.K call f vs H1 Q := by
    funext vs H1; rw [List.append_nil]
  rw [e]
  exact q
theorem pe_fn0 {x : Str} {f : Nat} {ps : List Str} {kt : List (Nat × List Str × List Nat)} {p pos : Pos} (hf : FnI X call x f ps kt) (hg : Gl X x) (hdb : (x == ("__debug__" : Str)) = false) :
    PE X (.Call (.Name x p) [] [] pos) (fun σ H Q => SpN X.prog X.w X.K call f [] H Q) := by
  obtain ⟨a, fd, k, hm, F⟩ := hf
  exact pe_call0 F.ok (F.room.mono (Nat.le_succ _)) hg hm F.keep F.pos .nil passN hdb
/-- behind a call -/
theorem spf_fin {f : Nat} {ds : List D} {vs : List V} {c0 : Cn} {H0 : Hp} {Q : VK} (hs : SR X fi c σ H st) (r : RPs X c H vs ds) (p0 : Stp c0 H0 c H)
    (q : okR (callR call f ds st) fun d st' => ∀ c' H' v, SR X fi c' σ H' st' → Stp c0 H0 c' H' → RP X c' H' v d → Q v H') : SpN X.prog X.w X.K call f vs H Q := by
  refine ⟨c, ds, st.F, r, hs.ct, ?_⟩
  unfold callR at q
  cases e : call f ds st.F with
  | ok d fr F' =>
    rw [e] at q
    intro c' H' v ct cs rt
    have s' := hs.afterCall ct cs
    have p' := p0.trans (cs.stp hs.ct)
    cases fr with
    | false => exact q c' H' v s' p' rt
    | true =>
      obtain ⟨a, cl, rfl, e1, e2, e3, e4, e5⟩ := rt
      have ns : ∀ (i : Nat) (x : Cell), st.ρ[i]? = some (.own x) → σ[i]? ≠ some (some (.ref a)) := fun i x ei z => by
        obtain ⟨b, z1, z2, _⟩ := hs.slot i _ ei
        rw [z] at z1; cases z1
        exact hs.ct.dom a z2 e4
      have o : OwnAt X.prog X.w X.K fi c' σ H' { st with F := F' } a cl := ⟨e2, e3, ns, e5, hs.new0 e4⟩
      have z := o.frozen
      rw [cellOf_d e1] at z
      exact q (c'.minus a) H' _ (s'.freeze o.nf o.ns o.n0) (p'.trans (.minus a)) z
  | exc _ _ => rw [e] at q; exact q.elim
  | err => rw [e] at q; exact q.elim
theorem spf_finO {f : Nat} {ds : List D} {vs : List V} {c0 : Cn} {H0 : Hp} {Q : VK} (hs : SR X fi c σ H st) (r : RPs X c H vs ds) (p0 : Stp c0 H0 c H)
    (q : okR (callO call f ds st) fun d st' => ∃ cl, cellOf d = some cl ∧ ∀ c' H' a, SR X fi c' σ H' st' → Stp c0 H0 c' H' → OwnAt X.prog X.w X.K fi c' σ H' st' a cl → Q (.ref a) H') : SpN X.prog X.w X.K call f vs H Q := by
  refine ⟨c, ds, st.F, r, hs.ct, ?_⟩
  unfold callO at q
  cases e : call f ds st.F with
  | ok d fr F' =>
    rw [e] at q
    cases fr with
    | false => exact q.elim
    | true =>
      intro c' H' v ct cs rt
      have s' := hs.afterCall ct cs
      have p' := p0.trans (cs.stp hs.ct)
      obtain ⟨a, cl, rfl, e1, e2, e3, e4, e5⟩ := rt
      dsimp only at q
      rw [e1] at q
      obtain ⟨cl', h1, q⟩ := q
      rw [e1] at h1; cases h1
      have ns : ∀ (i : Nat) (x : Cell), st.ρ[i]? = some (.own x) → σ[i]? ≠ some (some (.ref a)) := fun i x ei z => by
        obtain ⟨b, z1, z2, _⟩ := hs.slot i _ ei
        rw [z] at z1; cases z1
        exact hs.ct.dom a z2 e4
      exact q c' H' a s' p' ⟨e2, e3, ns, e5, hs.new0 e4⟩
  | exc _ _ => rw [e] at q; exact q.elim
  | err => rw [e] at q; exact q.elim
theorem red_call {f : Nat} {es : List E} {Q : VK} (q : tD X fi call (.call f es) σ H Q) : (tDs X fi call es) σ H fun vs H1 => SpN X.prog X.w X.K call f vs H1 Q := by
  obtain ⟨c, st, hs, q⟩ := q
  unfold ev at q
  rw [okR_bind] at q
  exact ⟨c, st, hs, q.mono fun ds st1 q1 c1 H1 xs s1 p1 r1 => spf_fin s1 r1 p1 q1⟩
theorem red_callo {f : Nat} {es : List E} {Q : VK} (q : tOD X fi call (.callo f es) σ H Q) : (tDs X fi call es) σ H fun vs H1 => SpN X.prog X.w X.K call f vs H1 Q := by
  obtain ⟨c, st, hs, q⟩ := q
  unfold ev at q
  rw [okR_bind] at q
  exact ⟨c, st, hs, q.mono fun ds st1 q1 c1 H1 xs s1 p1 r1 => spf_finO s1 r1 p1 q1⟩

/-! ### by name -/
def kwNames : List Keyword → List (Option Str)
  | [] => []
  | ⟨n, _, _⟩ :: r => n :: kwNames r
def kwExprs : List Keyword → List Expr
  | [] => []
  | ⟨_, e, _⟩ :: r => e :: kwExprs r
theorem backKw {env : Env} {pos : Pos} : ∀ {kws : List Keyword}, (backToKw pos (keywordEach kws env)).map (·.1) = kwNames kws
  | [] => rfl
  | ⟨n, e, p⟩ :: r => by
    show n :: (backToKw pos (keywordEach r env)).map (·.1) = _
    rw [backKw (kws := r)]
    rfl
theorem pk_evs : ∀ {es : List E} {kws : List Keyword}, (∀ (i : Nat) (e : E) (e' : Expr), es[i]? = some e → (kwExprs kws)[i]? = some e' → PE X e' (tD X fi call e)) → es.length = (kwExprs kws).length → PK X kws (tDs X fi call es)
  | [], [], _, _ => ⟨fun pos pins s σ H Q I ⟨c, st, hs, q⟩ => pk_nil.run pos pins s σ H Q I (q c H [] hs (.refl c H) .nil)⟩
  | e :: es, ⟨n, e', p⟩ :: kws, h, hl => by
    have h1 := h 0 e e' rfl rfl
    have h2 : PK X kws (tDs X fi call es) := pk_evs (fun i a b e1 e2 => h (i + 1) a b e1 e2) (by simpa [kwExprs] using hl)
    refine ⟨fun pos pins s σ H Q I ⟨c, st, hst, q⟩ => (pk_cons h1 h2).run pos pins s σ H Q I ?_⟩
    unfold evs at q
    rw [okR_bind] at q
    refine ⟨c, st, hst, q.mono fun d st1 q1 c1 H1 x s1 p1 r1 => ⟨c1, st1, s1, ?_⟩⟩
    rw [okR_bind] at q1
    refine q1.mono fun ds st2 q2 c2 H2 xs s2 p2 r2 => ?_
    exact q2 c2 H2 (x :: xs) s2 (p1.trans p2) (.cons (r1.step p2) r2)
  | [], ⟨_, _, _⟩ :: _, _, hl => by simp [kwExprs] at hl
  | _ :: _, [], _, hl => by simp [kwExprs] at hl
theorem vals_pick {zs : List V} {ws : List Value} (r : Vals zs ws) : ∀ ix : List Nat, (∀ j ∈ ix, j < zs.length) → Vals (ix.map fun j => zs.getD j .non) (ix.map fun j => ws.getD j .none)
  | [], _ => .nil
  | j :: ix, h => by
    have hj := h j List.mem_cons_self
    obtain ⟨u, hu, ru⟩ := r.get (List.getElem?_eq_getElem hj)
    refine .cons ?_ (vals_pick r ix fun k hk => h k (List.mem_cons_of_mem _ hk))
    show RelV (zs.getD j .non) (ws.getD j .none)
    rw [List.getD_eq_getElem?_getD, List.getD_eq_getElem?_getD, hu, List.getElem?_eq_getElem hj]
    exact ru
theorem rps_pick {zs : List V} {ds : List D} (r : RPs X c H zs ds) : ∀ ix : List Nat, (∀ j ∈ ix, j < zs.length) → RPs X c H (ix.map fun j => zs.getD j .non) (ix.map fun j => ds.getD j .non)
  | [], _ => .nil
  | j :: ix, h => by
    have hj := h j List.mem_cons_self
    have hj2 : j < ds.length := by rw [← r.length]; exact hj
    obtain ⟨v, hv, rv⟩ := r.get (List.getElem?_eq_getElem hj2)
    refine .cons ?_ (rps_pick r ix fun k hk => h k (List.mem_cons_of_mem _ hk))
    show RP X c H (zs.getD j .non) (ds.getD j .non)
    rw [List.getD_eq_getElem?_getD, List.getD_eq_getElem?_getD, hv, List.getElem?_eq_getElem hj2]
    exact rv
theorem kw_ix {ps : List Str} {n : Nat} {ks : List Str} {ix : List Nat} (h : kwOk ps n ks ix = true) : n + ix.length = ps.length ∧ ix.length = ks.length ∧ ∀ j ∈ ix, j < ks.length := by
  unfold kwOk at h
  simp only [Bool.and_eq_true, decide_eq_true_eq, List.all_eq_true] at h
  obtain ⟨⟨⟨h1, h2⟩, h3⟩, h4⟩ := h
  refine ⟨h1, h2, fun j hj => ?_⟩
  obtain ⟨i, hi⟩ := List.getElem?_of_mem hj
  have hl := (List.getElem?_eq_some_iff.mp hi).1
  have hd : (ps.drop n)[i]? = some ((ps.drop n)[i]'(by rw [List.length_drop]; omega)) := List.getElem?_eq_getElem _
  have hz : ((ps.drop n).zip ix)[i]? = some ((ps.drop n)[i]'(by rw [List.length_drop]; omega), j) := by rw [List.getElem?_zip_eq_some]; exact ⟨hd, hi⟩
  have := h4 _ (List.mem_of_getElem? hz)
  have this := eq_of_beq this
  exact (List.getElem?_eq_some_iff.mp this).1
theorem run_kw {pins : List (Addr × Obj)} {s : Shared} {f : Nat} {a : Addr} {fd : FuncData} {ps : List Str} {k : Nat} {ks : List Str} {ix : List Nat} {vs zs : List V} {us ws : List Value} {kt : List (Nat × List Str × List Nat)} (F : FnAt X call f a fd ps kt k) (hm : (vs.length, ks, ix) ∈ kt) (I : Inv X pins σ H s) (r : Vals vs us) (rz : Vals zs ws) (hl : zs.length = ks.length)
    (hk : kwOk ps vs.length ks ix = true) (h : SpN X.prog X.w X.K call f (vs ++ ix.map fun j => zs.getD j .non) H Q) : wpAny (model X.prog X.w) X.A (PySem.call (.ref a) us (ks.zip ws)) (EP X pins σ Q) X.xe s := by
  obtain ⟨k1, k2, k3⟩ := kw_ix hk
  have r2 : Vals (vs ++ ix.map fun j => zs.getD j .non) (us ++ ix.map fun j => ws.getD j .none) := r.append (vals_pick rz ix fun j hj => by rw [hl]; exact k3 j hj)
  refine wpAny_call (codeAny_mono (F.ok.run X.A X.stack s H ⟨us, ks.zip ws⟩ (us ++ ix.map fun j => ws.getD j .none) _ Q (fun _ _ _ => False) (F.room.mono (Nat.le_succ _)) I.env0 (F.kw s (vs.length, ks, ix) us ws hm (by rw [← r.length]) (by rw [← rz.length]; exact hl)) r2 h) fun r s' hq => ?_)
  cases r with
  | error e => exact passN pins σ H s e s' I hq
  | ok fl =>
    cases fl with
    | ret u => exact I.after hq
    | next => exact False.elim hq
    | brk => exact False.elim hq
    | cont => exact False.elim hq
/-- the names of the keywords, all written -/
def kwKs (kws : List Keyword) : List Str := (kwNames kws).filterMap id
theorem pd_callk {x : Str} {f : Nat} {ps : List Str} {pre es : List E} {ix : List Nat} {pre' : List Expr} {kws : List Keyword} {p pos : Pos} {kt : List (Nat × List Str × List Nat)} (hf : FnI X call x f ps kt) (hkt : (pre'.length, kwKs kws, ix) ∈ kt) (hg : Gl X x) (hdb : (x == ("__debug__" : Str)) = false) (ha : PA X pre' (tDs X fi call pre)) (hkw : PK X kws (tDs X fi call es))
    (hs : pre'.all notStar = true) (hn : (kwNames kws).all Option.isSome = true) (hk : kwOk ps pre'.length (kwKs kws) ix = true) (hl1 : pre.length = pre'.length) (hl2 : es.length = (kwNames kws).length) : PE X (.Call (.Name x p) pre' kws pos) (tD X fi call (.callk f pre ix es)) := by
  obtain ⟨a, fd, k, hm, F⟩ := hf
  have hall : (backToKw pos (keywordEach kws X.env)).all (·.1.isSome) = true := by
    rw [← backKw (env := X.env) (pos := pos), List.all_map] at hn
    exact hn
  have hks : (backToKw pos (keywordEach kws X.env)).filterMap (·.1) = kwKs kws := by
    unfold kwKs
    rw [← backKw (env := X.env) (pos := pos), List.filterMap_map]
    rfl
  have hno : (backToKw pos (keywordEach kws X.env)).any (·.1.isNone) = false := by
    rw [Bool.eq_false_iff]
    intro z
    obtain ⟨q, h1, h2⟩ := List.any_eq_true.mp z
    have := List.all_eq_true.mp hall q h1
    cases e : q.1 with
    | none => rw [e] at this; cases this
    | some _ => rw [e] at h2; cases h2
  have hlk : (kwKs kws).length = (kwNames kws).length := by
    unfold kwKs
    have : ∀ l : List (Option Str), l.all Option.isSome = true → (l.filterMap id).length = l.length := fun l => by
      induction l with
      | nil => intro _; rfl
      | cons o l ih =>
        intro h
        simp only [List.all_cons, Bool.and_eq_true] at h
        cases o with
        | none => exact absurd h.1 (by simp)
        | some y => simp [List.filterMap_cons, ih h.2]
    exact this _ hn
  refine ⟨fun pins s σ H Q I ⟨c, st, hst, q⟩ => ?_⟩
  unfold ev at q
  rw [okR_bind] at q
  have main : (tDs X fi call pre) σ H fun vs H1 => (tDs X fi call es) σ H1 fun zs H2 => vs.length = pre'.length ∧ zs.length = (kwKs kws).length ∧ SpN X.prog X.w X.K call f (vs ++ ix.map fun j => zs.getD j .non) H2 Q := by
    refine ⟨c, st, hst, ?_⟩
    rcases evs_len (call := call) pre st with z | z | ⟨_, _, z⟩
    · cases e : evs call pre st with
      | ok w1 =>
        rw [e] at q z
        have z : w1.1.length = pre.length := z
        intro c1 H1 vs s1 p1 r1
        refine ⟨c1, w1.2, s1, ?_⟩
        have q : okR ((evs call es w1.2).bind fun (ds, s) => callR call f (w1.1 ++ ix.map fun j => ds.getD j .non) s) fun d st' => ∀ c' H' v, SR X fi c' σ H' st' → Stp c H c' H' → RP X c' H' v d → Q v H' := q
        rw [okR_bind] at q
        rcases evs_len (call := call) es w1.2 with z2 | z2 | ⟨_, _, z2⟩
        · cases e2 : evs call es w1.2 with
          | ok w2 =>
            rw [e2] at q z2
            have z2 : w2.1.length = es.length := z2
            intro c2 H2 zs s2 p2 r2
            refine ⟨by rw [r1.length, z, hl1], by rw [r2.length, z2, hl2, hlk], ?_⟩
            have rr : RPs X c2 H2 (vs ++ ix.map fun j => zs.getD j .non) (w1.1 ++ ix.map fun j => w2.1.getD j .non) := by
              refine (r1.step p2).append ?_
              obtain ⟨k1, k2, k3⟩ := kw_ix hk
              exact rps_pick r2 ix fun j hj => by rw [r2.length, z2, hl2, ← hlk]; exact k3 j hj
            exact spf_fin s2 rr (p1.trans p2) q
          | exc _ _ => rw [e2] at q; exact q.elim
          | err => rw [e2] at q; exact q.elim
        · rw [z2] at q; exact q.elim
        · rw [z2] at q; exact q.elim
      | exc _ _ => rw [e] at q; exact q.elim
      | err => rw [e] at q; exact q.elim
    · rw [z] at q; exact q.elim
    · rw [z] at q; exact q.elim
  refine wpAny_Call_Name_kw (ld_glob I hg hm ?_ hdb)
  cases pre' with
  | nil =>
    refine PySem.W.callWith_KW0 (h₀ := X.base) I.ok.mod.kin F.keep hall ?_ (by rw [hno]; rfl)
    have main : (tDs X fi call es) σ H fun zs H2 => ∃ vs : List V, vs = [] ∧ vs.length = 0 ∧ zs.length = (kwKs kws).length ∧ SpN X.prog X.w X.K call f (vs ++ ix.map fun j => zs.getD j .non) H2 Q := by
      cases pre with
      | cons _ _ => simp at hl1
      | nil =>
        obtain ⟨c, st, h1, h2⟩ := main
        unfold evs at h2
        obtain ⟨c', st', h3, h4⟩ := h2 c H [] h1 (.refl c H) .nil
        exact ⟨c', st', h3, h4.mono fun d s q c1 H1 v s1 p1 r1 => ⟨[], rfl, q c1 H1 v s1 p1 r1⟩⟩
    refine thn (hkw.run pos pins s σ H _ I main) fun ws s2 ⟨zs, H2, I2, rz, vs, ev, l1, l2, q2⟩ => ⟨I2.kIn, ?_⟩
    subst ev
    rw [hks]
    exact run_kw (us := []) F hkt I2 .nil rz l2 hk q2
  | cons e' es' =>
    simp only [List.all_cons, Bool.and_eq_true] at hs
    refine PySem.W.callWith_KW (h₀ := X.base) I.ok.mod.kin F.keep hall (thn (ha.run pos pins s σ H _ I main) fun us s1 ⟨vs, H1, I1, r, q⟩ => ?_) (by rw [hno, starN hs.1, Bool.or_false]; exact backOne (e := e') hs.2) (starN hs.1)
    refine thn (hkw.run pos pins s1 σ H1 _ I1 q) fun ws s2 ⟨zs, H2, I2, rz, l1, l2, q2⟩ => ⟨I2.kIn, ?_⟩
    rw [hks]
    exact run_kw F (by rw [l1]; exact hkt) I2 r rz l2 (by rw [l1]; exact hk) q2
end
end NW
set_option autoImplicit false
set_option linter.all false
set_option maxRecDepth 100000
/-! NwEnT: enumerate over a tuple. -/
namespace NW
open PySem PyProof.Rows L2
open Sem (wp)

set_option maxHeartbeats 1000000 in
theorem meets_enumerate_newV {v : Value} {o : Obj} {H : Heap → Prop} (B : Begins v o H) :
    Meets (Builtin.«enumerate.__new__» ⟨[.type "enumerate", v], []⟩) (fun _ R s => H s.heap ∧
      R (.ok (.ret (.ref (s.heap.push o).objs.size))) { s with heap := (s.heap.push o).push { cls := .type "enumerate", data := .fields #[.none, .bool false, .ref s.heap.objs.size, rawInt 0, .none, .none] } }) :=
  .of_wp fun prog w A R s h => by
    obtain ⟨hp, g, d, tk, os⟩ := s; obtain ⟨h1, h⟩ := h
    have hsub := sub_enumerate
    have q1 : ∀ {A' : Around} {E : Value → Shared → Prop} {Q : Value → Shared → Prop}, Q (.ref hp.objs.size) ⟨hp.push o, g, d, tk, os⟩ → wpAny (model prog w) A' (pyIter v) Q E ⟨hp, g, d, tk, os⟩ :=
      fun q => B.iter prog w _ _ ⟨hp, g, d, tk, os⟩ _ h1 q
    wp_walk using q1
    refine wpAny_stack_any fun st => wpAny_pure ?_
    split
    · rename_i c _ _ _ _ _
      cases (c == Value.type "enumerate")
      · wp_walk using q1
        exact ⟨_, rfl, h⟩
      · wp_walk using q1
        exact ⟨_, rfl, h⟩
    · wp_walk using q1
      exact ⟨_, rfl, h⟩
theorem call_enumerateB {prog : Program} {w : World} {A : Around} {E : Value → Shared → Prop} {s : Shared} {v : Value} {o : Obj} {H : Heap → Prop} {Q : Value → Shared → Prop} (B : Begins v o H) (h1 : H s.heap)
    (h : ∀ h', IsEnum h' (s.heap.objs.size + 1) s.heap.objs.size 0 .none → h'.get? s.heap.objs.size = some o → h'.objs.size = s.heap.objs.size + 2 →
      (∀ b o, s.heap.get? b = some o → h'.get? b = some o) → Q (.ref (s.heap.objs.size + 1)) { s with heap := h' }) :
    wpAny (model prog w) A (call (.type "enumerate") [v]) Q E s := by
  refine callType_new F.called_enumerate (by decide) (F.typeCall_enumerate_1 _) (F.newCall_enumerate_1 _) (fun obj => F.args_object_init_2 obj _) F.entry_enumerate_new
    (meets_enumerate_newV B) ⟨h1, ?_⟩
  have hz : (s.heap.push o).objs.size = s.heap.objs.size + 1 := Heap.size_push ..
  show _ ∧ _
  rw [hz]
  have he : IsEnum ((s.heap.push o).push { cls := .type "enumerate", data := .fields #[.none, .bool false, .ref s.heap.objs.size, rawInt 0, .none, .none] }) (s.heap.objs.size + 1) s.heap.objs.size 0 .none := by
    have := Heap.get?_push_size (s.heap.push o) (o := { cls := .type "enumerate", data := .fields #[.none, .bool false, .ref s.heap.objs.size, rawInt 0, .none, .none] }) rfl
    rw [hz] at this; exact this
  refine ⟨⟨_, he, rfl⟩, h _ he (Heap.get?_push_of_some _ (Heap.get?_push_size _ B.free)) (by rw [Heap.size_push, hz]) fun b o x => Heap.get?_push_of_some _ (Heap.get?_push_of_some _ x)⟩

theorem enum_endT {prog : Program} {w : World} {A : Around} {E : Value → Shared → Prop} {s : Shared} {e it l : Addr} {i : Nat} {items : Array Value} {old : Value} {Q : Option Value → Shared → Prop} (hh : A.handled = none)
    (he : IsEnum s.heap e it i old) (hit : s.heap.IsTupleIter it l i) (hl : s.heap.IsTuple l items) (hx : items[i]? = none)
    (hQ : ∀ h', Heap.ExtBut it s.heap h' → Q none { s with heap := h' }) : wpAny (model prog w) A (pyNext (.ref e)) Q E s := by
  have hT : s.TypeIs (.ref e) "enumerate" := ⟨_, he, rfl⟩
  unfold pyNext
  refine wpAny_bind (wpAny_attempt (wpAny_callSpecial?_slot (name := Str.ofString "__next__") hT F.slot_enumerate_next
    (wpAny_call_entry F.slot_enumerate_next hT F.entry_enumerate_next ?_ (F.args_enumerate_next_1 _))))
  show wpAny _ _ (field (.ref e) 2 >>= _) _ _ _
  refine wpAny_bind (wpAny_field he rfl (x := .ref it) rfl ?_)
  refine wpAny_bind (wpAny_nextOf_tuple_end hh hit hl hx fun h' x he' hx' => ?_)
  obtain ⟨o, ho, hc⟩ := hx'
  refine wpAny_bind (wpAny_isInstance (T := "StopIteration") (b := true) ⟨o, ho, hc⟩ isSubtype_stop ?_)
  exact wpAny_pure (hQ _ he')
/-- the tuple at a, each item in a new pair -/
def IteT (K : PySem.W.Frag) (a : Addr) : It :=
  ⟨fun i H => ∃ (xs : List V) (x : V), SqT K H a xs ∧ xs[i]? = some x, fun i H v H' => ∃ T x, v = .ref T ∧ H T = none ∧ H' = upd H T (.tup [.int (i : Nat), x]) ∧ ∀ xs, SqT K H a xs → xs[i]? = some x, fun i H => ∃ xs : List V, SqT K H a xs ∧ xs.length ≤ i⟩
theorem turn_enumT {P : Program} {w : World} {K : PySem.W.Frag} {elts : List Expr} {kk : Nat} {tpos : Pos} (a e it : Addr) :
    Turn P w K (.Tuple elts kk tpos) (IteT K a) [e, it] e (fun i h => (∃ old, IsEnum h e it ((i : Nat) : Int) old) ∧ h.IsTupleIter it a i ∧ e ≠ it) where
  mem := by simp
  obj := fun i h st b hb => by
    obtain ⟨⟨old, he⟩, ⟨o, ho, hc, hd⟩, _⟩ := st
    have e' : b = e ∨ b = it := by simpa using hb
    rcases e' with z | z
    · rw [z]; exact ⟨_, he, fun v q => nomatch q⟩
    · rw [z]; exact ⟨o, ho, fun v q => by rw [hd] at q; cases q⟩
  keep := fun i h h' st k => let ⟨⟨old, he⟩, hi, hne⟩ := st; ⟨⟨old, k e (by simp) _ he⟩, hi.at fun o q => k it (by simp) o q, hne⟩
  item := by
    intro X hP hw hK hc i pins s σ H E I hf st hg
    subst hP hw hK
    obtain ⟨⟨old, he⟩, hit, hne⟩ := st
    obtain ⟨xs, x, hq, hx⟩ := hg
    obtain ⟨its, rv, p, hz⟩ := I.tuple hq
    obtain ⟨u, hu, ru⟩ := rv.get hx
    have hel : e < s.heap.objs.size := Heap.lt_size he
    have hil : it < s.heap.objs.size := by obtain ⟨_, q, _⟩ := hit; exact Heap.lt_size q
    have pt : s.heap.IsTuple a its.toArray := p
    have hae : a ≠ e := fun z => by
      obtain ⟨o, ho, hc', _⟩ := pt
      rw [z, he] at ho
      cases ho
      exact absurd hc' (by simp)
    have hai : a ≠ it := fun z => by
      obtain ⟨o, ho, hc', _⟩ := pt
      obtain ⟨o2, ho2, hc2, _⟩ := hit
      rw [z, ho2] at ho
      cases ho
      rw [hc2] at hc'
      exact absurd hc' (by simp)
    have hlt : i < its.length := (List.getElem?_eq_some_iff.mp hu).1
    refine wpAny_pyNext_enum_itemD (Draws.tuple (A := X.A.in1) (I.ok.hd hc) it a hai its.toArray) he ⟨hit, pt⟩ (by simpa using hlt) hne (by simp [hne, Ne.symm hae]) fun u' h' tk hP ho hst hT hsz hk => ?_
    have eu : u' = u := by
      have hP : its[i]? = some u' := by simpa using hP
      rw [hu] at hP
      exact (Option.some.inj hP).symm
    subst eu
    obtain ⟨hit', pt'⟩ := hst
    refine ⟨_, rfl, wpAny_letOwnedTupleGo_enum (s := { s with heap := h', toks := tk + 1 }) ho fun h'' he' sb => ?_⟩
    have hT2 : h''.get? s.heap.objs.size = some { cls := .type "tuple", data := .seq #[.int i tk, u'] } := (sb.2 _ (Nat.ne_of_gt hel)).trans hT
    have new : ObjOk X.prog X.w (upd H s.heap.objs.size (.tup [.int (i : Nat), x])) h'' s.heap.objs.size (.tup [.int (i : Nat), x]) :=
      ⟨by show 2 ≤ sizeLine; decide, [.int i tk, u'], .cons ⟨_, rfl⟩ (.cons ru .nil), ⟨_, hT2, rfl, _, rfl⟩⟩
    have I1 : Inv X pins σ (upd H s.heap.objs.size (.tup [.int (i : Nat), x])) { s with heap := h'', toks := tk + 1 } :=
      I.turnedNew (ch := [e, it]) (fun b ob hb q => (sb.2 b (fun z => hb (by simp [z]))).trans (hk b ob (fun z => hb (by simp [z])) (fun z => hb (by simp [z])) q)) hf (Nat.le_refl _) new
    refine ⟨.ref s.heap.objs.size, _, I1, rfl, ⟨_, x, rfl, I.hok.fresh (Nat.le_refl _), rfl, fun ys hy => by rw [I.tuple_inj hy hq]; exact hx⟩, ⟨⟨u', ?_⟩, hit'.at fun o q => (sb.2 it (Ne.symm hne)).trans q, hne⟩, fun b hb => ?_⟩
    · have e1 : ((i + 1 : Nat) : Int) = (i : Int) + 1 := by omega
      rw [e1]; exact he'
    · have hb' : b < s.heap.objs.size := by
        have e' : b = e ∨ b = it := by simpa using hb
        rcases e' with z | z
        · rw [z]; exact hel
        · rw [z]; exact hil
      rw [upd_ne (Nat.ne_of_lt hb')]
      exact (hf b hb).1
  done := by
    intro X hP hw hK hc i pins s σ H E I hf st hg
    subst hP hw hK
    obtain ⟨⟨old, he⟩, hit, hne⟩ := st
    obtain ⟨xs, hq, hx⟩ := hg
    obtain ⟨its, rv, p, hz⟩ := I.tuple hq
    obtain ⟨f0, f1, f2, f3, f4, f5⟩ := hf it (by simp)
    have hl := rv.length
    exact enum_endT (I.ok.hd hc) he hit p (by simp; omega) fun h' eb => ⟨rfl, I.turned (t' := s.toks) (fun b o hb q => eb b o hb q) f0 f1 f3 f4 f5⟩
  self := fun A i s Q E st h => let ⟨⟨_, he⟩, _⟩ := st; wpAny_pyIter_enum he h
def iEnumA (K : PySem.W.Frag) (ta : TA) : TI := fun σ H R => ta σ H fun vs H1 => ∃ a xs, vs = [.ref a] ∧ ((SqL K H1 a xs ∧ R (Ite K a) H1) ∨ (SqT K H1 a xs ∧ R (IteT K a) H1))
theorem pi_enumA {X : Cx} {e : Expr} {ta : TA} {p pos tpos : Pos} {elts : List Expr} {kk : Nat} (hg : Gl X "enumerate") (hm : X.mg "enumerate" = none) (ha : PA X [e] ta) (hs : starEach [e] X.env = [(false, eval e X.env)] := by rfl) :
    PI X (.Tuple elts kk tpos) (.Call (.Name "enumerate" p) [e] [] pos) (iEnumA X.K ta) := by
  refine ⟨fun pins s σ H R I h => ?_⟩
  refine Call_ (ld_blt I hg hm boot_enumerate (PyProof.Rows.callWith_type1 (thn (ha.run pos pins s σ H _ I h) fun us s1 ⟨vs, H1, I1, r1, q1⟩ => ?_) hs rfl))
  obtain ⟨a, xs, ex, q⟩ := q1
  subst ex
  cases r1 with
  | cons r rr =>
    cases rr
    cases r
    have fin : ∀ b ∈ [s1.heap.objs.size + 1, s1.heap.objs.size], FpOk X pins H1 b := fun b hb => by
      have e' : b = s1.heap.objs.size + 1 ∨ b = s1.heap.objs.size := by simpa using hb
      have hle : s1.heap.objs.size ≤ b := by
        rcases e' with z | z
        · rw [z]; exact Nat.le_add_right _ _
        · rw [z]; exact Nat.le_refl _
      exact I1.fpOk hle (I1.hok.fresh hle)
    rcases q with ⟨hq, q⟩ | ⟨hq, q⟩
    · obtain ⟨its, rv, p', hz⟩ := I1.list hq
      refine call_enumerate_list p'.isList fun h' he hit hsz hk => wpAny_pyIter_enum he ?_
      have I2 : Inv X pins σ H1 { s1 with heap := h' } := I1.kept (t' := s1.toks) hk
      exact ⟨s1.heap.objs.size + 1, [s1.heap.objs.size + 1, s1.heap.objs.size], _, _, H1, rfl, I2, turn_enum a (s1.heap.objs.size + 1) s1.heap.objs.size, ⟨⟨.none, he⟩, hit, Nat.succ_ne_self _⟩, fin, q⟩
    · obtain ⟨its, rv, p', hz⟩ := I1.tuple hq
      refine call_enumerateB (begins_tuple a its.toArray) p' fun h' he hit hsz hk => wpAny_pyIter_enum he ?_
      have I2 : Inv X pins σ H1 { s1 with heap := h' } := I1.kept (t' := s1.toks) hk
      exact ⟨s1.heap.objs.size + 1, [s1.heap.objs.size + 1, s1.heap.objs.size], _, _, H1, rfl, I2, turn_enumT a (s1.heap.objs.size + 1) s1.heap.objs.size, ⟨⟨.none, he⟩, ⟨_, hit, rfl, rfl⟩, Nat.succ_ne_self _⟩, fin, q⟩
end NW
set_option autoImplicit false
set_option linter.all false
set_option maxRecDepth 100000
/-! NwIt: what a loop walks; targets; the slots of a block. -/
namespace NW
open PySem PyProof.Rows L2

/-- what an iterator hands out -/
def YR (P : Program) (w : World) (K : PySem.W.Frag) (c : Cn) (H : Hp) (x : V) (d : D) (H2 : Hp) : Prop := (H2 = H ∧ Rp P w K c H x d) ∨ ∃ T va vb da db, x = .ref T ∧ H T = none ∧ H2 = upd H T (.tup [va, vb]) ∧ d = .tup [da, db] ∧ Rp P w K c H va da ∧ Rp P w K c H vb db
structure JR (P : Program) (w : World) (K : PySem.W.Frag) (J : It) (c : Cn) (H : Hp) (xs : List D) : Prop where
  go : ∀ i c' H', Stp c H c' H' → i < xs.length → J.go i H'
  stop : ∀ c' H', Stp c H c' H' → J.stop xs.length H'
  yld : ∀ i d c' H' x H2, Stp c H c' H' → xs[i]? = some d → J.yld i H' x H2 → YR P w K c' H' x d H2
def tI (X : Cx) (fi : Fi) (r : St → Res (List D × St)) : TI := fun σ H R => ∃ c st, SR X fi c σ H st ∧ okR (r st) fun xs st' => ∀ c' H' J, SR X fi c' σ H' st' → Stp c H c' H' → JR X.prog X.w X.K J c' H' xs → R J H'

section
variable {X : Cx} {fi : Fi} {call : Call} {c : Cn} {σ : L2.St} {H : Hp} {st : St} {Q : VK}
theorem YR.use {x : V} {d : D} {H2 : Hp} (y : YR X.prog X.w X.K c H x d H2) (hs : SR X fi c σ H st) : SR X fi c σ H2 st ∧ Stp c H c H2 ∧ RP X c H2 x d ∧ ∀ a o, H a = some o → H2 a = some o := by
  rcases y with ⟨rfl, r⟩ | ⟨T, va, vb, da, db, rfl, hT, rfl, rfl, ra, rb⟩
  · exact ⟨hs, .refl _ _, r, fun _ _ e => e⟩
  · obtain ⟨s1, s2, s3⟩ := SR.newTup hs hT (.cons ra (.cons rb .nil))
    exact ⟨s1, s2, s3, fun a o e => by rw [upd_ne (ne_of_none e hT)]; exact e⟩
theorem jr_lst {a : Addr} {vs : List V} {ds : List D} (h : H a = some (.lst vs)) (n : ¬ c.A a) (r : RPs X c H vs ds) : JR X.prog X.w X.K (Itl X.K a) c H ds := by
  have at' : ∀ {c' : Cn} {H' : Hp}, Stp c H c' H' → SqL X.K H' a vs := fun s => SqL.of (s.keep _ _ h n)
  refine ⟨fun i c' H' s hi => ?_, fun c' H' s => ⟨vs, at' s, by rw [r.length]; exact Nat.le_refl _⟩, fun i d c' H' x H2 s e y => ?_⟩
  · have hi : i < vs.length := by rw [r.length]; exact hi
    exact ⟨vs, vs[i], at' s, List.getElem?_eq_getElem hi⟩
  · obtain ⟨e1, e2⟩ := y
    obtain ⟨v, hv, rv⟩ := r.get e
    have := e2 vs (at' s)
    rw [hv] at this; cases this
    exact .inl ⟨e1, rv.step s⟩
theorem jr_tup {a : Addr} {vs : List V} {ds : List D} (h : H a = some (.tup vs)) (n : ¬ c.A a) (r : RPs X c H vs ds) : JR X.prog X.w X.K (Itt X.K a) c H ds := by
  have at' : ∀ {c' : Cn} {H' : Hp}, Stp c H c' H' → SqT X.K H' a vs := fun s => SqT.of (s.keep _ _ h n)
  refine ⟨fun i c' H' s hi => ?_, fun c' H' s => ⟨vs, at' s, by rw [r.length]; exact Nat.le_refl _⟩, fun i d c' H' x H2 s e y => ?_⟩
  · have hi : i < vs.length := by rw [r.length]; exact hi
    exact ⟨vs, vs[i], at' s, List.getElem?_eq_getElem hi⟩
  · obtain ⟨e1, e2⟩ := y
    obtain ⟨v, hv, rv⟩ := r.get e
    have := e2 vs (at' s)
    rw [hv] at this; cases this
    exact .inl ⟨e1, rv.step s⟩
theorem jr_rng {lo hi : Int} : JR X.prog X.w X.K (Itr lo (hi - lo).toNat) c H (rngD lo hi) := by
  have hl : (rngD lo hi).length = (hi - lo).toNat := by unfold rngD; simp
  refine ⟨fun i c' H' s h => by rw [hl] at h; exact h, fun c' H' s => by rw [hl]; exact Nat.le_refl _, fun i d c' H' x H2 s e y => ?_⟩
  obtain ⟨e1, e2⟩ := y
  subst e2
  refine .inl ⟨e1, ?_⟩
  unfold rngD at e
  rw [List.getElem?_map, Option.map_eq_some_iff] at e
  obtain ⟨j, h1, h2⟩ := e
  have hj := (List.getElem?_eq_some_iff.mp h1).1
  rw [List.getElem?_range (by simpa using hj)] at h1
  cases h1
  subst h2
  exact .int _
theorem jr_enum {a : Addr} {vs : List V} {ds : List D} (h : H a = some (.lst vs)) (n : ¬ c.A a) (r : RPs X c H vs ds) : JR X.prog X.w X.K (Ite X.K a) c H (enumD ds) := by
  have at' : ∀ {c' : Cn} {H' : Hp}, Stp c H c' H' → SqL X.K H' a vs := fun s => SqL.of (s.keep _ _ h n)
  have hl : (enumD ds).length = ds.length := by unfold enumD; simp
  refine ⟨fun i c' H' s hi => ?_, fun c' H' s => ⟨vs, at' s, by rw [r.length, hl]; exact Nat.le_refl _⟩, fun i d c' H' x H2 s e y => ?_⟩
  · have hi : i < vs.length := by rw [r.length, ← hl]; exact hi
    exact ⟨vs, vs[i], at' s, List.getElem?_eq_getElem hi⟩
  · obtain ⟨T, z, e1, e2, e3, e4⟩ := y
    unfold enumD at e
    rw [List.getElem?_map, Option.map_eq_some_iff] at e
    obtain ⟨p, h1, h2⟩ := e
    rw [List.getElem?_zipIdx, Option.map_eq_some_iff] at h1
    obtain ⟨d0, h3, h4⟩ := h1
    subst h4 h2
    obtain ⟨v, hv, rv⟩ := r.get h3
    have := e4 vs (at' s)
    rw [hv] at this; cases this
    refine .inr ⟨T, .int (i : Nat), z, .int (i : Nat), d0, e1, e2, e3, by simp, .int _, rv.step s⟩
theorem jr_enumT {a : Addr} {vs : List V} {ds : List D} (h : H a = some (.tup vs)) (n : ¬ c.A a) (r : RPs X c H vs ds) : JR X.prog X.w X.K (IteT X.K a) c H (enumD ds) := by
  have at' : ∀ {c' : Cn} {H' : Hp}, Stp c H c' H' → SqT X.K H' a vs := fun s => SqT.of (s.keep _ _ h n)
  have hl : (enumD ds).length = ds.length := by unfold enumD; simp
  refine ⟨fun i c' H' s hi => ?_, fun c' H' s => ⟨vs, at' s, by rw [r.length, hl]; exact Nat.le_refl _⟩, fun i d c' H' x H2 s e y => ?_⟩
  · have hi : i < vs.length := by rw [r.length, ← hl]; exact hi
    exact ⟨vs, vs[i], at' s, List.getElem?_eq_getElem hi⟩
  · obtain ⟨T, z, e1, e2, e3, e4⟩ := y
    unfold enumD at e
    rw [List.getElem?_map, Option.map_eq_some_iff] at e
    obtain ⟨p, h1, h2⟩ := e
    rw [List.getElem?_zipIdx, Option.map_eq_some_iff] at h1
    obtain ⟨d0, h3, h4⟩ := h1
    subst h4 h2
    obtain ⟨v, hv, rv⟩ := r.get h3
    have := e4 vs (at' s)
    rw [hv] at this; cases this
    refine .inr ⟨T, .int (i : Nat), z, .int (i : Nat), d0, e1, e2, e3, by simp, .int _, rv.step s⟩
theorem zip_get {xs ys : List D} {i : Nat} {d : D} (e : (zipD xs ys)[i]? = some d) : ∃ x y, xs[i]? = some x ∧ ys[i]? = some y ∧ d = .tup [x, y] := by
  unfold zipD at e
  rw [List.getElem?_map, Option.map_eq_some_iff] at e
  obtain ⟨p, h1, h2⟩ := e
  rw [List.getElem?_zip_eq_some] at h1
  exact ⟨p.1, p.2, h1.1, h1.2, h2.symm⟩
theorem jr_zip {a b : Addr} {vs ws : List V} {ds es : List D} (h : H a = some (.lst vs)) (n : ¬ c.A a) (r : RPs X c H vs ds) (h' : H b = some (.lst ws)) (n' : ¬ c.A b) (r' : RPs X c H ws es) : JR X.prog X.w X.K (Itz X.K a b) c H (zipD ds es) := by
  have at1 : ∀ {c' : Cn} {H' : Hp}, Stp c H c' H' → SqL X.K H' a vs := fun s => SqL.of (s.keep _ _ h n)
  have at2 : ∀ {c' : Cn} {H' : Hp}, Stp c H c' H' → SqL X.K H' b ws := fun s => SqL.of (s.keep _ _ h' n')
  have hl : (zipD ds es).length = min ds.length es.length := by unfold zipD; simp
  have l1 := r.length
  have l2 := r'.length
  refine ⟨fun i c' H' s hi => ?_, fun c' H' s => ⟨vs, ws, at1 s, at2 s, by rw [hl]; omega⟩, fun i d c' H' x H2 s e y => ?_⟩
  · have hi1 : i < vs.length := by omega
    have hi2 : i < ws.length := by omega
    exact ⟨vs, ws, vs[i], ws[i], at1 s, at2 s, List.getElem?_eq_getElem hi1, List.getElem?_eq_getElem hi2⟩
  · obtain ⟨T, z1, z2, e1, e2, e3, e4, e5⟩ := y
    obtain ⟨d1, d2, f1, f2, f3⟩ := zip_get e
    obtain ⟨v1, hv1, rv1⟩ := r.get f1
    obtain ⟨v2, hv2, rv2⟩ := r'.get f2
    have t1 := e4 vs (at1 s)
    rw [hv1] at t1; cases t1
    have t2 := e5 ws (at2 s)
    rw [hv2] at t2; cases t2
    exact .inr ⟨T, z1, z2, d1, d2, e1, e2, e3, f3, rv1.step s, rv2.step s⟩
theorem jr_zipT {a b : Addr} {vs ws : List V} {ds es : List D} (h : H a = some (.tup vs)) (n : ¬ c.A a) (r : RPs X c H vs ds) (h' : H b = some (.tup ws)) (n' : ¬ c.A b) (r' : RPs X c H ws es) : JR X.prog X.w X.K (RZ.ItzT X.K a b) c H (zipD ds es) := by
  have at1 : ∀ {c' : Cn} {H' : Hp}, Stp c H c' H' → SqT X.K H' a vs := fun s => SqT.of (s.keep _ _ h n)
  have at2 : ∀ {c' : Cn} {H' : Hp}, Stp c H c' H' → SqT X.K H' b ws := fun s => SqT.of (s.keep _ _ h' n')
  have hl : (zipD ds es).length = min ds.length es.length := by unfold zipD; simp
  have l1 := r.length
  have l2 := r'.length
  refine ⟨fun i c' H' s hi => ?_, fun c' H' s => ⟨vs, ws, at1 s, at2 s, by rw [hl]; omega⟩, fun i d c' H' x H2 s e y => ?_⟩
  · have hi1 : i < vs.length := by omega
    have hi2 : i < ws.length := by omega
    exact ⟨vs, ws, vs[i], ws[i], at1 s, at2 s, List.getElem?_eq_getElem hi1, List.getElem?_eq_getElem hi2⟩
  · obtain ⟨T, z1, z2, e1, e2, e3, e4, e5⟩ := y
    obtain ⟨d1, d2, f1, f2, f3⟩ := zip_get e
    obtain ⟨v1, hv1, rv1⟩ := r.get f1
    obtain ⟨v2, hv2, rv2⟩ := r'.get f2
    have t1 := e4 vs (at1 s)
    rw [hv1] at t1; cases t1
    have t2 := e5 ws (at2 s)
    rw [hv2] at t2; cases t2
    exact .inr ⟨T, z1, z2, d1, d2, e1, e2, e3, f3, rv1.step s, rv2.step s⟩

/-! ### the sources of loops -/
def iSeq (K : PySem.W.Frag) (tl : TE) : TI := fun σ H R => tl σ H fun x H1 => ∃ a, x = .ref a ∧ (((∃ xs, SqL K H1 a xs) ∧ R (Itl K a) H1) ∨ ((∃ xs, SqT K H1 a xs) ∧ R (Itt K a) H1))
theorem pi_seq {tg l : Expr} {tl : TE} (hl : PE X l tl) : PI X tg l (iSeq X.K tl) := by
  refine ⟨fun pins s σ H R I h => ?_⟩; refine thn (hl.run pins s σ H _ I h) fun v s1 ⟨x, H1, I1, r1, q1⟩ => ?_
  obtain ⟨a, e, q1⟩ := q1; subst e; cases r1
  have fresh : ∀ b ∈ [s1.heap.objs.size], FpOk X pins H1 b := fun b hb => by
    have e : b = s1.heap.objs.size := by simpa using hb
    subst e; exact I1.fpOk (Nat.le_refl _) (I1.hok.fresh (Nat.le_refl _))
  rcases q1 with ⟨⟨xs, hq⟩, q⟩ | ⟨⟨xs, hq⟩, q⟩
  · obtain ⟨its, rv, p, hz⟩ := I1.list hq; refine wpAny_pyIter_list p.isList ?_
    exact ⟨s1.heap.objs.size, [s1.heap.objs.size], _, _, H1, rfl, I1.kept (t' := s1.toks) fun b o e => Heap.get?_push_of_some _ e, turn_list a _, ⟨_, Heap.get?_push_size _ rfl, rfl, rfl⟩, fresh, q⟩
  · obtain ⟨its, rv, p, hz⟩ := I1.tuple hq; refine wpAny_pyIter_tuple (show s1.heap.IsTuple a its.toArray from p) ?_
    exact ⟨s1.heap.objs.size, [s1.heap.objs.size], _, _, H1, rfl, I1.kept (t' := s1.toks) fun b o e => Heap.get?_push_of_some _ e, turn_tuple a _, ⟨_, Heap.get?_push_size _ rfl, rfl, rfl⟩, fresh, q⟩
theorem PI.imp {tg e : Expr} {t t' : TI} (h : PI X tg e t) (k : ∀ σ H R, t' σ H R → t σ H R) : PI X tg e t' := ⟨fun pins s σ H R I q => h.run pins s σ H R I (k _ _ _ q)⟩
abbrev tIv (X : Cx) (fi : Fi) (call : Call) (i : I) : TI := tI X fi (evI call i)
theorem pi_it {tg l : Expr} {e : E} (hl : PE X l (tD X fi call e)) : PI X tg l (tIv X fi call (.it e)) := by
  refine PI.imp (pi_seq hl) fun σ H R ⟨c, st, hs, q⟩ => ?_
  unfold evI at q
  rw [okR_bind] at q
  refine ⟨c, st, hs, q.mono fun d st1 q1 c1 H1 x s1 p1 r1 => ?_⟩
  cases d with
  | lst xs =>
    cases r1 with
    | lst h1 h2 h3 => exact ⟨_, rfl, .inl ⟨⟨_, SqL.of h1⟩, q1 c1 H1 _ s1 p1 (jr_lst h1 h2 h3)⟩⟩
  | tup xs =>
    cases r1 with
    | tup h1 h2 h3 => exact ⟨_, rfl, .inr ⟨⟨_, SqT.of h1⟩, q1 c1 H1 _ s1 p1 (jr_tup h1 h2 h3)⟩⟩
  | _ => exact q1.elim
theorem rngOk_b {lo hi : Int} (h : rngOk lo hi = true) : -1000000 ≤ lo ∧ lo ≤ 1000000 ∧ -1000000 ≤ hi ∧ hi ≤ 1000000 := by
  unfold rngOk line at h
  simp only [Bool.and_eq_true, decide_eq_true_eq] at h
  omega
theorem pi_rngD {tg a' : Expr} {a : E} {p pos : Pos} (hg : Gl X "range") (hm : X.mg "range" = none) (ha : PE X a' (tD X fi call a)) (hs : notStar a' = true) : PI X tg (.Call (.Name "range" p) [a'] [] pos) (tIv X fi call (.rng a)) := by
  refine PI.imp (pi_range1 hg hm (pa_oneD ha hs) (starN hs)) fun σ H R ⟨c, st, hst, q⟩ => ?_
  unfold evI at q
  rw [okR_bind] at q
  refine ⟨c, st, hst, okR_evs1.mpr (q.mono fun d st1 q1 c1 H1 x s1 p1 r1 => ?_)⟩
  cases r1 with
  | cons r1 r0 =>
    cases r0
    cases d with
    | int n =>
      cases r1
      dsimp only at q1
      split at q1
      · rename_i hr
        have hb := rngOk_b hr
        refine ⟨n, rfl, by omega, by omega, ?_⟩
        have := q1 c1 H1 _ s1 p1 (jr_rng (lo := 0) (hi := n))
        simpa using this
      · exact q1.elim
    | _ => exact q1.elim
theorem pi_rng2D {tg a' b' : Expr} {a b : E} {p pos : Pos} (hg : Gl X "range") (hm : X.mg "range" = none) (ha : PE X a' (tD X fi call a)) (hb : PE X b' (tD X fi call b)) (hs : notStar a' = true) (hs2 : notStar b' = true) : PI X tg (.Call (.Name "range" p) [a', b'] [] pos) (tIv X fi call (.rng2 a b)) := by
  refine PI.imp (pi_range2 hg hm (pa_cons ha (pa_cons hb pa_nil (starN hs2)) (starN hs)) (by rw [starN hs, starN hs2]; rfl) (starN hs2)) fun σ H R ⟨c, st, hst, q⟩ => ?_
  unfold evI at q
  rw [okR_bind] at q
  refine ⟨c, st, hst, q.mono fun d st1 q1 c1 H1 x s1 p1 r1 => ⟨c1, st1, s1, ?_⟩⟩
  rw [okR_bind] at q1
  refine q1.mono fun e st2 q2 c2 H2 y s2 p2 r2 => ?_
  cases d with
  | int m =>
    cases e with
    | int n =>
      cases r1
      cases r2
      dsimp only at q2
      split at q2
      · rename_i hr
        have hb := rngOk_b hr
        exact ⟨m, n, rfl, ⟨by omega, by omega, by omega, by omega⟩, q2 c2 H2 _ s2 (p1.trans p2) jr_rng⟩
      · exact q2.elim
    | _ => exact q2.elim
  | _ => exact q2.elim
theorem pi_enumD {elts : List Expr} {kk : Nat} {tpos : Pos} {a' : Expr} {a : E} {p pos : Pos} (hg : Gl X "enumerate") (hm : X.mg "enumerate" = none) (ha : PE X a' (tD X fi call a)) (hs : notStar a' = true) :
    PI X (.Tuple elts kk tpos) (.Call (.Name "enumerate" p) [a'] [] pos) (tIv X fi call (.enum a)) := by
  refine PI.imp (pi_enumA hg hm (pa_oneD ha hs) (starN hs)) fun σ H R ⟨c, st, hst, q⟩ => ?_
  unfold evI at q
  rw [okR_bind] at q
  refine ⟨c, st, hst, okR_evs1.mpr (q.mono fun d st1 q1 c1 H1 x s1 p1 r1 => ?_)⟩
  cases r1 with
  | cons r1 r0 =>
    cases r0
    cases d with
    | lst xs =>
      cases r1 with
      | lst h1 h2 h3 => exact ⟨_, _, rfl, .inl ⟨SqL.of h1, q1 c1 H1 _ s1 p1 (jr_enum h1 h2 h3)⟩⟩
    | tup xs =>
      cases r1 with
      | tup h1 h2 h3 => exact ⟨_, _, rfl, .inr ⟨SqT.of h1, q1 c1 H1 _ s1 p1 (jr_enumT h1 h2 h3)⟩⟩
    | _ => exact q1.elim
theorem pi_zipD {elts : List Expr} {kk : Nat} {tpos : Pos} {a' b' : Expr} {a b : E} {p pos : Pos} (hg : Gl X "zip") (hm : X.mg "zip" = none) (ha : PE X a' (tD X fi call a)) (hb : PE X b' (tD X fi call b)) (hs : notStar a' = true) (hs2 : notStar b' = true) :
    PI X (.Tuple elts kk tpos) (.Call (.Name "zip" p) [a', b'] [] pos) (tIv X fi call (.zip a b)) := by
  refine PI.imp (RZ.pi_zipA hg hm (pa_cons ha (pa_cons hb pa_nil (starN hs2)) (starN hs)) (starN hs) (by rw [starN hs2]; rfl)) fun σ H R ⟨c, st, hst, q⟩ => ?_
  unfold evI at q
  rw [okR_bind] at q
  refine ⟨c, st, hst, q.mono fun d st1 q1 c1 H1 x s1 p1 r1 => ⟨c1, st1, s1, ?_⟩⟩
  rw [okR_bind] at q1
  refine q1.mono fun e st2 q2 c2 H2 y s2 p2 r2 => ?_
  have r1 := r1.step p2
  cases d with
  | lst xs =>
    cases e with
    | lst ys =>
      cases r1 with
      | lst h1 h2 h3 =>
        cases r2 with
        | lst g1 g2 g3 => exact ⟨_, _, _, _, rfl, .inl ⟨SqL.of h1, SqL.of g1, q2 c2 H2 _ s2 (p1.trans p2) (jr_zip h1 h2 h3 g1 g2 g3)⟩⟩
    | _ => exact q2.elim
  | tup xs =>
    cases e with
    | tup ys =>
      cases r1 with
      | tup h1 h2 h3 =>
        cases r2 with
        | tup g1 g2 g3 => exact ⟨_, _, _, _, rfl, .inr ⟨SqT.of h1, SqT.of g1, q2 c2 H2 _ s2 (p1.trans p2) (jr_zipT h1 h2 h3 g1 g2 g3)⟩⟩
    | _ => exact q2.elim
  | _ => exact q2.elim
theorem foldN {iter : Expr} (h : (match iter with | .Set .. => false | _ => true) = true) (env : Env) (x : Value) : foldedSetIterable iter env x = pure x := by
  cases iter <;> first | rfl | exact absurd (show false = true from h) Bool.false_ne_true
end
end NW
set_option autoImplicit false
set_option linter.all false
set_option maxRecDepth 100000
/-! NwTg: targets; the slots of a block; an object that is being made. -/
namespace NW
open PySem PyProof.Rows L2

mutual
def Tg.vs : Tg → List Nat
  | .v i => [i]
  | .t ts => Tg.vss ts
def Tg.vss : List Tg → List Nat
  | [] => []
  | a :: ts => a.vs ++ Tg.vss ts
end
mutual
def tgOk (N : List Str) (ok : Str → Bool) : Tg → Expr → Bool
  | .v i, .Name x _ => decide (N[i]? = some x) && ok x
  | .t ts, .Tuple es _ _ => tgsOk N ok ts es
  | _, _ => false
def tgsOk (N : List Str) (ok : Str → Bool) : List Tg → List Expr → Bool
  | [], [] => true
  | t :: ts, e :: es => notStar e && tgOk N ok t e && tgsOk N ok ts es
  | _, _ => false
end
def Same (vs : List Nat) (σ σ' : L2.St) : Prop := σ'.length = σ.length ∧ ∀ i, i ∉ vs → σ'[i]? = σ[i]?
def gR (X : Cx) (fi : Fi) (tg : Tg) : TG := fun v σ H K => ∃ c st d ρ', SR X fi c σ H st ∧ RP X c H v d ∧ assignTg tg d st.ρ = some ρ' ∧ ∀ σ', SR X fi c σ' H { st with ρ := ρ' } → Same tg.vs σ σ' → K σ' H
def gsR (X : Cx) (fi : Fi) (ts : List Tg) : TGs := fun vs σ H K => ∃ c st ds ρ', SR X fi c σ H st ∧ RPs X c H vs ds ∧ assignTgs ts ds st.ρ = some ρ' ∧ ∀ σ', SR X fi c σ' H { st with ρ := ρ' } → Same (Tg.vss ts) σ σ' → K σ' H
def StOk (X : Cx) (ok : Str → Bool) : Prop := ∀ x, ok x = true → Loc X.env.scope x ∧ (X.fn x = true ∨ X.env.scope.names.lookup x = some .local)
theorem PG.imp {X : Cx} {e : Expr} {t t' : TG} (h : PG X e t) (k : ∀ v σ H Q, t' v σ H Q → t v σ H Q) : PG X e t' := ⟨fun pins s σ H v u Q I r q => h.run pins s σ H v u Q I r (k _ _ _ _ q)⟩
theorem PGs.imp {X : Cx} {e : List Expr} {t t' : TGs} (h : PGs X e t) (k : ∀ v σ H Q, t' v σ H Q → t v σ H Q) : PGs X e t' := ⟨fun pins s σ H v u Q I r q => h.run pins s σ H v u Q I r (k _ _ _ _ q)⟩
theorem assignTgs_len : ∀ {ts : List Tg} {ds : List D} {ρ ρ' : List Slot}, assignTgs ts ds ρ = some ρ' → ts.length = ds.length
  | [], [], _, _, _ => rfl
  | t :: ts, d :: ds, ρ, ρ', h => by
    simp only [assignTgs, Option.bind_eq_some_iff] at h
    obtain ⟨ρ1, _, h2⟩ := h
    simp [assignTgs_len h2]
  | [], _ :: _, _, _, h => by simp [assignTgs] at h
  | _ :: _, [], _, _, h => by simp [assignTgs] at h
theorem tgsOk_len {N : List Str} {ok : Str → Bool} : ∀ {ts : List Tg} {es : List Expr}, tgsOk N ok ts es = true → ts.length = es.length ∧ es.all notStar = true
  | [], [], _ => ⟨rfl, rfl⟩
  | t :: ts, e :: es, h => by
    simp only [tgsOk, Bool.and_eq_true] at h
    obtain ⟨h1, h2⟩ := tgsOk_len h.2
    exact ⟨by simp [h1], by simp [h.1.1, h2]⟩
  | [], _ :: _, h => by simp [tgsOk] at h
  | _ :: _, [], h => by simp [tgsOk] at h
theorem asgN {e : Expr} {es : List Expr} {env : Env} (h : notStar e = true) : assignEach (e :: es) env = (false, assign e env) :: assignEach es env := by
  cases e <;> first | rfl | cases h
theorem asg_all {env : Env} : ∀ {es : List Expr}, es.all notStar = true → (assignEach es env).length = es.length ∧ (assignEach es env).findIdx? (·.1) = none
  | [], _ => ⟨rfl, rfl⟩
  | e :: es, h => by
    simp only [List.all_cons, Bool.and_eq_true] at h
    obtain ⟨h1, h2⟩ := asg_all (env := env) h.2
    rw [asgN h.1]
    exact ⟨by simp [h1], by rw [List.findIdx?_cons]; simp [h2]⟩

section
variable {X : Cx} {fi : Fi} {call : Call} {c : Cn} {σ : L2.St} {H : Hp} {st : St} {Q : VK}
mutual
theorem pg_D (hc : X.calm = true) (hN : X.N.Nodup) {ok : Str → Bool} (hok : StOk X ok) : ∀ (tg : Tg) (tg' : Expr), tgOk X.N ok tg tg' = true → PG X tg' (gR X fi tg)
  | .v i, tg', h => by
    cases tg' <;> first | exact absurd (show false = true from h) Bool.false_ne_true | skip
    simp only [tgOk, Bool.and_eq_true, decide_eq_true_eq] at h
    obtain ⟨hl, hf⟩ := hok _ h.2
    refine PG.imp (pg_name hN h.1 hl hf) fun v σ H K ⟨c, st, d, ρ', hs, r, e, q⟩ => ?_
    simp only [assignTg] at e
    split at e
    · rename_i hi
      cases e
      refine q _ (hs.setVal r) ⟨by simp, fun j hj => ?_⟩
      rw [List.getElem?_set_ne]
      intro z
      exact hj (by simp [Tg.vs, z])
    · cases e
  | .t ts, tg', h => by
    cases tg' <;> first | exact absurd (show false = true from h) Bool.false_ne_true | skip
    simp only [tgOk] at h
    obtain ⟨hl, hst⟩ := tgsOk_len h
    obtain ⟨h1, h2⟩ := asg_all (env := X.env) hst
    refine PG.imp (pg_tup hc (pgs_D hc hN hok ts _ h) h1 h2) fun v σ H K ⟨c, st, d, ρ', hs, r, e, q⟩ => ?_
    cases d with
    | tup ds =>
      simp only [assignTg] at e
      cases r with
      | tup g1 g2 g3 => exact ⟨_, _, rfl, SqT.of g1, by rw [g3.length, ← assignTgs_len e, hl], c, st, ds, ρ', hs, g3, e, q⟩
    | _ => simp [assignTg] at e
theorem pgs_D (hc : X.calm = true) (hN : X.N.Nodup) {ok : Str → Bool} (hok : StOk X ok) : ∀ (ts : List Tg) (es : List Expr), tgsOk X.N ok ts es = true → PGs X es (gsR X fi ts)
  | [], [], _ => by
    refine PGs.imp pgs_nil fun vs σ H K ⟨c, st, ds, ρ', hs, r, e, q⟩ => ?_
    cases r with
    | nil =>
      simp only [assignTgs, Option.some.injEq] at e
      subst e
      exact ⟨rfl, q σ hs ⟨rfl, fun _ _ => rfl⟩⟩
    | cons _ _ => simp [assignTgs] at e
  | t :: ts, e :: es, h => by
    simp only [tgsOk, Bool.and_eq_true] at h
    refine PGs.imp (pgs_cons (pg_D hc hN hok t e h.1.2) (pgs_D hc hN hok ts es h.2) (by rw [asgN h.1.1]; rfl)) fun vs σ H K ⟨c, st, ds, ρ', hs, r, e, q⟩ => ?_
    cases r with
    | nil => simp [assignTgs] at e
    | cons r1 r2 =>
      simp only [assignTgs, Option.bind_eq_some_iff] at e
      obtain ⟨ρ1, e1, e2⟩ := e
      refine ⟨_, _, rfl, c, st, _, ρ1, hs, r1, e1, fun σ1 s1 m1 => ?_⟩
      refine ⟨c, { st with ρ := ρ1 }, _, ρ', s1, r2, e2, fun σ2 s2 m2 => q σ2 s2 ⟨m2.1.trans m1.1, fun i hi => ?_⟩⟩
      simp only [Tg.vss, List.mem_append, not_or] at hi
      rw [m2.2 i hi.2, m1.2 i hi.1]
  | [], _ :: _, h => by simp [tgsOk] at h
  | _ :: _, [], h => by simp [tgsOk] at h
end

/-! ### the slots of a block -/
theorem wipeS_length (ρ : List Slot) : ∀ vs : List Nat, (wipeS ρ vs).length = ρ.length
  | [] => rfl
  | v :: vs => by simp [wipeS, wipeS_length ρ vs]
theorem wipeS_out {ρ : List Slot} {i : Nat} : ∀ {vs : List Nat}, i ∉ vs → (wipeS ρ vs)[i]? = ρ[i]?
  | [], _ => rfl
  | v :: vs, h => by
    simp only [List.mem_cons, not_or] at h
    simp only [wipeS]
    rw [List.getElem?_set_ne (Ne.symm h.1)]
    exact wipeS_out h.2
theorem wipeS_in {ρ : List Slot} {i : Nat} {sl : Slot} : ∀ {vs : List Nat}, i ∈ vs → (wipeS ρ vs)[i]? = some sl → sl = .no
  | v :: vs, h, e => by
    simp only [wipeS] at e
    by_cases hi : i = v
    · subst hi
      by_cases hl : i < (wipeS ρ vs).length
      · rw [List.getElem?_set_self hl] at e; cases e; rfl
      · rw [List.getElem?_eq_none (by simpa using hl)] at e; cases e
    · rw [List.getElem?_set_ne (Ne.symm hi)] at e
      exact wipeS_in ((List.mem_cons.mp h).resolve_left hi) e
theorem backS_length (ρ0 ρ : List Slot) : ∀ vs : List Nat, (backS ρ0 ρ vs).length = ρ.length
  | [] => rfl
  | v :: vs => by simp [backS, backS_length ρ0 ρ vs]
theorem backS_out {ρ0 ρ : List Slot} {i : Nat} : ∀ {vs : List Nat}, i ∉ vs → (backS ρ0 ρ vs)[i]? = ρ[i]?
  | [], _ => rfl
  | v :: vs, h => by
    simp only [List.mem_cons, not_or] at h
    simp only [backS]
    rw [List.getElem?_set_ne (Ne.symm h.1)]
    exact backS_out h.2
theorem backS_in {ρ0 ρ : List Slot} {i : Nat} {sl : Slot} : ∀ {vs : List Nat}, i ∈ vs → (backS ρ0 ρ vs)[i]? = some sl → sl = ρ0[i]?.getD .no
  | v :: vs, h, e => by
    simp only [backS] at e
    by_cases hi : i = v
    · subst hi
      by_cases hl : i < (backS ρ0 ρ vs).length
      · rw [List.getElem?_set_self hl] at e; cases e; rfl
      · rw [List.getElem?_eq_none (by simpa using hl)] at e; cases e
    · rw [List.getElem?_set_ne (Ne.symm hi)] at e
      exact backS_in ((List.mem_cons.mp h).resolve_left hi) e
theorem StR.wipe (r : SR X fi c σ H st) : ∀ vs : List Nat, SR X fi c (L2.wipe σ vs) H { st with ρ := wipeS st.ρ vs }
  | [] => r
  | v :: vs => (StR.wipe r vs).wipe1 v
/-- the wiped slots take back what they held -/
theorem StR.back {c1 : Cn} {H1 : Hp} {st1 : St} {vs : List Nat} (r : SR X fi c (L2.wipe σ vs) H { st with ρ := wipeS st.ρ vs }) (r1 : SR X fi c1 σ H1 st1) (p : Stp c1 H1 c H) (ho : hasOwn st1.ρ vs = false) (hl : st1.ρ.length = st.ρ.length) :
    SR X fi c σ H { st with ρ := backS st1.ρ st.ρ vs } := by
  have own : ∀ {i : Nat} {x : Cell}, (backS st1.ρ st.ρ vs)[i]? = some (.own x) → i ∉ vs ∧ (wipeS st.ρ vs)[i]? = some (.own x) ∧ (L2.wipe σ vs)[i]? = σ[i]? := fun {i x} e => by
    by_cases hi : i ∈ vs
    · have := backS_in hi e
      exfalso
      unfold hasOwn at ho
      have h2 := List.any_eq_false.mp ho i hi
      cases e1 : st1.ρ[i]? with
      | none => rw [e1] at this; cases this
      | some sl => rw [e1] at this h2; cases this; exact h2 rfl
    · rw [backS_out hi] at e
      exact ⟨hi, by rw [wipeS_out hi]; exact e, wipe_out hi⟩
  refine ⟨by show σ.length = (backS st1.ρ st.ρ vs).length; rw [backS_length, r1.len, hl], fun i sl e => ?_, fun i j a ci cj e1 e2 e3 e4 => ?_, r.ct, r.base, r.pre, r.keepA, r.newA, fun i a cl e1 e2 => ?_, r.newF, r.dom0⟩
  · by_cases hi : i ∈ vs
    · have := backS_in hi e
      subst this
      cases e1 : st1.ρ[i]? with
      | none => trivial
      | some sl =>
        have q := r1.slot i sl e1
        cases sl with
        | no => trivial
        | val d => obtain ⟨v, h1, h2⟩ := q; exact ⟨v, h1, h2.step p⟩
        | own x =>
          exfalso
          unfold hasOwn at ho
          have h2 := List.any_eq_false.mp ho i hi
          rw [e1] at h2
          exact h2 rfl
    · have e' : (wipeS st.ρ vs)[i]? = some sl := by rw [wipeS_out hi, ← backS_out hi]; exact e
      have q := r.slot i sl e'
      rw [wipe_out hi] at q
      exact q
  · obtain ⟨n1, z1, w1⟩ := own e1
    obtain ⟨n2, z2, w2⟩ := own e2
    exact r.uniq i j a ci cj z1 z2 (by rw [w1]; exact e3) (by rw [w2]; exact e4)
  · obtain ⟨n1, z1, w1⟩ := own e1
    exact r.ownN i a cl z1 (by rw [w1]; exact e2)

/-! ### an object that is being made -/
def Fi.plus (fi : Fi) (p : Addr) (o : HO) : Fi := ⟨upd fi.H0 p o, fi.c0.plus p⟩
theorem StR.plusF {p : Addr} {o : HO} {cl : Cell} (r : SR X fi c σ H st) (w : OwnAt X.prog X.w X.K fi c σ H st p cl) (h : H p = some o) : SR X (fi.plus p o) c σ H st := by
  have np : p ∉ fi.c0.φ := fun z => w.nf (r.pre.subset z)
  refine ⟨r.len, r.slot, r.uniq, r.ct, fun a o' e n => ?_, r.pre, fun a q => ?_, fun a q => ?_, fun i a x e1 e2 => ?_, fun a q => ?_, fun a q => ?_⟩
  · by_cases ha : a = p
    · subst ha
      have e : upd fi.H0 a o a = some o' := e
      rw [upd_same] at e; cases e; exact h
    · have e : upd fi.H0 p o a = some o' := e
      rw [upd_ne ha] at e
      exact r.base a o' e n
  · rcases q with q | q
    · exact r.keepA a q
    · rw [q]; exact w.A
  · by_cases ha : a = p
    · exact .inl (.inr ha)
    · rcases r.newA a q with z | z
      · exact .inl (.inl z)
      · exact .inr (by show upd fi.H0 p o a = none; rw [upd_ne ha]; exact z)
  · have ha : a ≠ p := fun z => w.ns i x e1 (by rw [e2, z])
    show upd fi.H0 p o a = none
    rw [upd_ne ha]
    exact r.ownN i a x e1 e2
  · rcases r.newF a q with z | z
    · exact .inl z
    · refine .inr ?_
      show upd fi.H0 p o a = none
      rw [upd_ne (fun e => w.nf (by rw [← e]; exact q))]
      exact z
  · show upd fi.H0 p o a ≠ none
    by_cases ha : a = p
    · subst ha; rw [upd_same]; exact fun z => by cases z
    · rw [upd_ne ha]
      rcases q with q | q
      · exact r.dom0 a q
      · exact absurd q ha
theorem StR.unplusF {p : Addr} {o : HO} {c0 : Cn} {σ0 : L2.St} {H0 : Hp} {st0 : St} (r0 : SR X fi c0 σ0 H0 st0) (np : p ∉ c0.φ) (n0 : fi.H0 p = none) (r : SR X (fi.plus p o) c σ H st) :
    SR X fi c σ H st ∧ H p = some o ∧ c.A p ∧ p ∉ c.φ ∧ ∀ (i : Nat) (x : Cell), st.ρ[i]? = some (.own x) → σ[i]? ≠ some (some (.ref p)) := by
  have np0 : p ∉ fi.c0.φ := fun z => np (r0.pre.subset z)
  have hp : (fi.plus p o).H0 p = some o := upd_same
  have nn : ∀ {a : Addr}, (fi.plus p o).H0 a = none → fi.H0 a = none ∧ a ≠ p := fun {a} e => by
    have ha : a ≠ p := fun z => by rw [z, hp] at e; cases e
    have e : upd fi.H0 p o a = none := e
    rw [upd_ne ha] at e
    exact ⟨e, ha⟩
  refine ⟨⟨r.len, r.slot, r.uniq, r.ct, fun a o' e n => ?_, r.pre, fun a q => r.keepA a (.inl q), fun a q => ?_, fun i a x e1 e2 => (nn (r.ownN i a x e1 e2)).1, fun a q => ?_, r0.dom0⟩, r.base p o hp np0, r.keepA p (.inr rfl), fun z => ?_, fun i x e1 e2 => ?_⟩
  · have ha : a ≠ p := fun z => by rw [z, n0] at e; cases e
    exact r.base a o' (by show upd fi.H0 p o a = _; rw [upd_ne ha]; exact e) n
  · rcases r.newA a q with z | z
    · rcases z with z | z
      · exact .inl z
      · exact .inr (by rw [z]; exact n0)
    · exact .inr (nn z).1
  · rcases r.newF a q with z | z
    · exact .inl z
    · exact .inr (nn z).1
  · rcases r.newF p z with q | q
    · exact np0 q
    · exact (nn q).2 rfl
  · exact (nn (r.ownN i p x e1 e2)).2 rfl
/-- an object of one's own that no slot holds is changed -/
theorem StR.chgO {p : Addr} {o : HO} {cl cl' : Cell} (r : SR X fi c σ H st) (w : OwnAt X.prog X.w X.K fi c σ H st p cl) (hc : CellR X.prog X.w X.K c (upd H p o) p cl') : SR X fi c σ (upd H p o) st ∧ OwnAt X.prog X.w X.K fi c σ (upd H p o) st p cl' := by
  have q : Stp c H c (upd H p o) := .wr w.A
  refine ⟨⟨r.len, fun j sl e => ?_, r.uniq, ⟨r.ct.flen, fun n x e => ?_, r.ct.fnd, r.ct.fA, fun b hb => ?_⟩, fun b o' e n => ?_, r.pre, r.keepA, r.newA, r.ownN, r.newF, r.dom0⟩, ⟨w.A, w.nf, w.ns, hc, w.n0⟩⟩
  · have z := r.slot j sl e
    cases sl with
    | no => trivial
    | val d => obtain ⟨v, e1, e2⟩ := z; exact ⟨v, e1, e2.step q⟩
    | own x =>
      obtain ⟨b, e1, e2, e3, e4⟩ := z
      have hb : b ≠ p := fun z => w.ns j x e (by rw [e1, z])
      exact ⟨b, e1, e2, e3, e4.step q (upd_ne hb)⟩
  · obtain ⟨b, e1, e2⟩ := r.ct.cell n x e
    have hb : b ≠ p := fun z => w.nf (z ▸ List.mem_of_getElem? e1)
    exact ⟨b, e1, e2.step q (upd_ne hb)⟩
  · intro e
    by_cases h : b = p
    · subst h; rw [upd_same] at e; cases e
    · rw [upd_ne h] at e; exact r.ct.dom b hb e
  · have hb : b ≠ p := fun z => by rw [z, w.n0] at e; cases e
    rw [upd_ne hb]
    exact r.base b o' e n
end
end NW
set_option autoImplicit false
set_option linter.all false
set_option maxRecDepth 100000
/-! NwLc: list comprehensions. -/
namespace NW
open PySem PyProof.Rows L2

theorem okR_ex {α : Type} {r : Res (α × St)} {Q : α → St → Prop} (h : okR r Q) : ∃ a s, r = .ok (a, s) ∧ Q a s := by
  cases r with
  | ok a => exact ⟨a.1, a.2, rfl, h⟩
  | exc _ _ => exact h.elim
  | err => exact h.elim
theorem okR_guard {α : Type} {bs : List D} {a b : Res (α × St)} {Q : α → St → Prop} (h : okR (guardB bs a b) Q) : ∃ t, boolOf bs = some t ∧ okR (if t then a else b) Q := by
  unfold guardB at h
  cases e : boolOf bs with
  | none => rw [e] at h; exact h.elim
  | some t => rw [e] at h; cases t <;> exact ⟨_, rfl, h⟩

section
variable (X : Cx) (call : Call)
def tXD (e : E) : TE := fun σ H Q => ∃ fi, tD X fi call e σ H Q
def tXT (ifs : List E) : TT := fun σ H K => ∃ fi c st, SR X fi c σ H st ∧ okR (evs call ifs st) fun bs st' => ∃ b, boolOf bs = some b ∧ ∀ c' H', SR X fi c' σ H' st' → Stp c H c' H' → K b H'
def gX (tg : Tg) : TG := fun v σ H K => ∃ fi, gR X fi tg v σ H K
def tXI (i : I) : TI := fun σ H R => ∃ fi, tIv X fi call i σ H R
end
section
variable {X : Cx} {fi : Fi} {call : Call} {c : Cn} {σ : L2.St} {H : Hp} {st : St} {Q : VK}
theorem pe_x {e' : Expr} {e : E} (h : ∀ fi, PE X e' (tD X fi call e)) : PE X e' (tXD X call e) := ⟨fun pins s σ H Q I ⟨fi, q⟩ => (h fi).run pins s σ H Q I q⟩
theorem pg_x {e' : Expr} {tg : Tg} (h : ∀ fi, PG X e' (gR X fi tg)) : PG X e' (gX X tg) := ⟨fun pins s σ H v u Q I r ⟨fi, q⟩ => (h fi).run pins s σ H v u Q I r q⟩
theorem pi_x {tg' e' : Expr} {i : I} (h : ∀ fi, PI X tg' e' (tIv X fi call i)) : PI X tg' e' (tXI X call i) := ⟨fun pins s σ H R I ⟨fi, q⟩ => (h fi).run pins s σ H R I q⟩
theorem pts_x0 : PTs X [] (tXT X call []) := ⟨fun pins s σ H Q I ⟨fi, c, st, hs, q⟩ => pts_nil.run pins s σ H Q I (by
  unfold evs at q
  obtain ⟨b, e, q⟩ := q
  cases e
  exact q c H hs (.refl c H))⟩
theorem pts_x1 {e' : Expr} {e : E} (h : ∀ fi, PT X e' (tB (tD X fi call e))) : PTs X [e'] (tXT X call [e]) := ⟨fun pins s σ H Q I ⟨fi, c, st, hs, q⟩ => (pts_one (h fi)).run pins s σ H Q I (by
  rw [okR_evs1] at q
  refine ⟨c, st, hs, q.mono fun d st1 ⟨b, e, q⟩ c1 H1 x s1 p1 r1 => ?_⟩
  cases d with
  | bl b' => cases e; cases r1; exact ⟨_, rfl, q c1 H1 s1 p1⟩
  | _ => cases e)⟩

theorem wipe_in {σ : L2.St} {i : Nat} {o : Option V} : ∀ {vs : List Nat}, i ∈ vs → (L2.wipe σ vs)[i]? = some o → o = none
  | v :: vs, h, e => by
    unfold L2.wipe at e
    by_cases hi : i = v
    · subst hi
      by_cases hl : i < (L2.wipe σ vs).length
      · rw [List.getElem?_set_self hl] at e; cases e; rfl
      · rw [List.getElem?_eq_none (by simpa using hl)] at e; cases e
    · rw [List.getElem?_set_ne (Ne.symm hi)] at e
      exact wipe_in ((List.mem_cons.mp h).resolve_left hi) e
theorem wipe_congr {σ1 σ2 : L2.St} {ws vs : List Nat} (h : Same ws σ1 σ2) (hs : ∀ i ∈ ws, i ∈ vs) : L2.wipe σ2 vs = L2.wipe σ1 vs := by
  apply List.ext_getElem?
  intro i
  by_cases hi : i ∈ vs
  · have l1 : (L2.wipe σ2 vs).length = (L2.wipe σ1 vs).length := by rw [wipe_length, wipe_length]; exact h.1
    by_cases hl : i < (L2.wipe σ1 vs).length
    · have h1 : (L2.wipe σ1 vs)[i]? = some ((L2.wipe σ1 vs)[i]) := List.getElem?_eq_getElem hl
      have h2 : (L2.wipe σ2 vs)[i]? = some ((L2.wipe σ2 vs)[i]'(by rw [l1]; exact hl)) := List.getElem?_eq_getElem _
      rw [h1, h2, wipe_in hi h1, wipe_in hi h2]
    · rw [List.getElem?_eq_none (by omega), List.getElem?_eq_none (by omega)]
  · rw [wipe_out hi, wipe_out hi]
    exact h.2 i fun z => hi (hs i z)
theorem same_wipe (σ : L2.St) (vs : List Nat) : Same vs σ (L2.wipe σ vs) := ⟨wipe_length _ _, fun i hi => wipe_out hi⟩
theorem wipe_wipe (σ : L2.St) (vs : List Nat) : L2.wipe (L2.wipe σ vs) vs = L2.wipe σ vs := wipe_congr (same_wipe σ vs) fun _ h => h

/-- the object that a comprehension makes, between two turns -/
structure MkS (X : Cx) (fi : Fi) (cb : Cn) (Hb : Hp) (p : Addr) (c : Cn) (H : Hp) (σ : L2.St) (st : St) (cl : Cell) : Prop where
  sr : SR X fi c σ H st
  stp : Stp cb Hb c H
  own : OwnAt X.prog X.w X.K fi c σ H st p cl
theorem OwnAt.wipe {p : Addr} {cl : Cell} (o : OwnAt X.prog X.w X.K fi c σ H st p cl) (vs : List Nat) : OwnAt X.prog X.w X.K fi c (L2.wipe σ vs) H { st with ρ := wipeS st.ρ vs } p cl := by
  refine ⟨o.A, o.nf, fun i x e1 e2 => ?_, o.cell, o.n0⟩
  by_cases hi : i ∈ vs
  · have := wipeS_in hi e1; cases this
  · have e1 : (wipeS st.ρ vs)[i]? = some (.own x) := e1
    rw [wipeS_out hi] at e1
    rw [wipe_out hi] at e2
    exact o.ns i x e1 e2
theorem MkS.wipe {cb : Cn} {Hb : Hp} {p : Addr} {cl : Cell} (m : MkS X fi cb Hb p c H σ st cl) (vs : List Nat) : MkS X fi cb Hb p c H (L2.wipe σ vs) { st with ρ := wipeS st.ρ vs } cl :=
  ⟨m.sr.wipe vs, m.stp, m.own.wipe vs⟩
/-- an item has come -/
theorem MkS.item {cb : Cn} {Hb H2 : Hp} {p : Addr} {cl : Cell} {x : V} {d : D} (m : MkS X fi cb Hb p c H σ st cl) (y : YR X.prog X.w X.K c H x d H2) : MkS X fi cb Hb p c H2 σ st cl ∧ RP X c H2 x d := by
  obtain ⟨s, p', r, k⟩ := y.use m.sr
  refine ⟨⟨s, m.stp.trans p', ⟨m.own.A, m.own.nf, m.own.ns, m.own.cell.step p' ?_, m.own.n0⟩⟩, r⟩
  cases e : H p with
  | none => exact absurd e m.own.cell.there
  | some o => exact k p o e
/-- what is evaluated meanwhile -/
theorem MkS.into {cb : Cn} {Hb : Hp} {p : Addr} {cl : Cell} {o : HO} (m : MkS X fi cb Hb p c H σ st cl) (h : H p = some o) : SR X (fi.plus p o) c σ H st := m.sr.plusF m.own h
theorem MkS.back {cb c' : Cn} {Hb H' : Hp} {p : Addr} {cl : Cell} {o : HO} {σ' : L2.St} {st' : St} (m : MkS X fi cb Hb p c H σ st cl) (h : H p = some o) (s : SR X (fi.plus p o) c' σ' H' st') (q : Stp c H c' H') : MkS X fi cb Hb p c' H' σ' st' cl ∧ H' p = some o := by
  obtain ⟨s1, e1, e2, e3, e4⟩ := StR.unplusF m.sr m.own.nf m.own.n0 s
  exact ⟨⟨s1, m.stp.trans q, ⟨e2, e3, e4, m.own.cell.step q (e1.trans h.symm), m.own.n0⟩⟩, e1⟩
theorem MkS.put {cb : Cn} {Hb : Hp} {p : Addr} {cl cl' : Cell} {o : HO} (m : MkS X fi cb Hb p c H σ st cl) (hc : CellR X.prog X.w X.K c (upd H p o) p cl') : MkS X fi cb Hb p c (upd H p o) σ st cl' := by
  obtain ⟨s, w⟩ := m.sr.chgO m.own hc
  exact ⟨s, m.stp.trans (.wr m.own.A), w⟩
theorem MkS.start {p : Addr} {o : HO} {cl : Cell} (hs : SR X fi c σ H st) (hp : H p = none) (hcl : CellR X.prog X.w X.K (c.plus p) (upd H p o) p cl) : MkS X fi c H p (c.plus p) (upd H p o) σ st cl := by
  obtain ⟨s1, s2, s3⟩ := SR.newOwn hs hp hcl
  exact ⟨s1, s2, s3⟩

theorem red_lc {vs : List Nat} {e : E} {tg : Tg} {it : I} {ifs : List E} {Q : VK} (hv : ∀ i ∈ tg.vs, i ∈ vs) (q : tOD X fi call (.lc vs e tg it ifs) σ H Q) : tLc (tIv X fi call it) (gX X tg) (tXT X call ifs) (tXD X call e) vs σ H Q := by
  obtain ⟨c, st, hs, q⟩ := q
  unfold ev at q
  rw [okR_bind] at q
  refine ⟨c, st, hs, q.mono fun xs s1 q1 c1 H1 J hs1 p1 jr => ?_⟩
  intro p hp
  dsimp only at q1
  split at q1
  · exact q1.elim
  rename_i ho
  have ho : hasOwn s1.ρ vs = false := by simpa using ho
  rw [okR_bind] at q1
  -- what is wanted of the whole list
  let Fin : List D → St → Prop := fun ys s2 => okR (if ys.length ≤ line then .ok (.lst ys, { s2 with ρ := backS s1.ρ s2.ρ vs }) else .err : Res (D × St)) fun d st' => ∃ cl, cellOf d = some cl ∧ ∀ c' H' a, SR X fi c' σ H' st' → Stp c H c' H' → OwnAt X.prog X.w X.K fi c' σ H' st' a cl → Q (.ref a) H'
  have q1 : okR (lcLoop (lcTurn vs tg (evs call ifs) (ev call e)) xs s1) Fin := q1
  have finl : ∀ {ys s2}, Fin ys s2 → ys.length ≤ line := fun {ys s2} h => by
    by_cases hl : ys.length ≤ line
    · exact hl
    · have h : okR (if ys.length ≤ line then .ok (.lst ys, { s2 with ρ := backS s1.ρ s2.ρ vs }) else .err : Res (D × St)) _ := h
      rw [if_neg hl] at h
      exact h.elim
  refine ⟨fun i m Hh => m = xs.length - i ∧ i ≤ xs.length ∧ ∃ c' st' acc, MkS X fi c1 H1 p c' Hh (L2.wipe σ vs) { st' with ρ := wipeS st'.ρ vs } (.lst acc) ∧ okR (lcLoop (lcTurn vs tg (evs call ifs) (ev call e)) (xs.drop i) st') fun ys s2 => Fin (acc ++ ys) s2,
    ⟨xs.length, by simp, Nat.zero_le _, c1.plus p, s1, [], (MkS.start (o := .lst []) (cl := .lst []) hs1 hp ⟨[], upd_same, .nil⟩).wipe vs, by simpa using q1⟩, ?_⟩
  rintro i m Hh ⟨rfl, hi, c', st', acc, mk, q2⟩
  by_cases hlt : i < xs.length
  · refine .inr ⟨jr.go i c' Hh mk.stp hlt, fun H' => ∃ c' st' acc, MkS X fi c1 H1 p c' H' (L2.wipe σ vs) { st' with ρ := wipeS st'.ρ vs } (.lst acc) ∧ okR (lcLoop (lcTurn vs tg (evs call ifs) (ev call e)) (xs.drop (i + 1)) st') fun ys s2 => Fin (acc ++ ys) s2,
      fun H' w => ⟨xs.length - (i + 1), by omega, rfl, hlt, w⟩, fun x H' y => ?_⟩
    have ed : xs[i]? = some xs[i] := List.getElem?_eq_getElem hlt
    obtain ⟨mk, rx⟩ := mk.item (jr.yld i _ c' Hh x H' mk.stp ed y)
    obtain ⟨ws, hw, rw_⟩ := mk.own.cell
    rw [List.drop_eq_getElem_cons hlt] at q2
    simp only [lcLoop] at q2
    rw [okR_bind] at q2
    unfold lcTurn at q2
    rw [okR_of] at q2
    obtain ⟨ρ, eρ, q3⟩ := q2
    rw [okR_bind] at q3
    refine ⟨fi.plus p (.lst ws), c', _, _, ρ, mk.into hw, rx, eρ, fun σ2 s4 same => ?_⟩
    have ew : L2.wipe σ2 vs = L2.wipe σ vs := (wipe_congr same hv).trans (wipe_wipe σ vs)
    refine ⟨ew, fi.plus p (.lst ws), c', _, s4, q3.mono fun bs s5 q5 => ?_⟩
    obtain ⟨b, hb, q5⟩ := okR_guard q5
    refine ⟨b, hb, fun c6 H6 s6 p6 => ?_⟩
    cases b with
    | false =>
      obtain ⟨mk6, _⟩ := mk.back hw s6 p6
      have mk6 := mk6.wipe vs
      rw [ew] at mk6
      refine ⟨c6, s5, acc, mk6, ?_⟩
      have q5 : okR ((lcLoop (lcTurn vs tg (evs call ifs) (ev call e)) (xs.drop (i + 1)) s5).bind fun (ys, s2) => Res.ok (ys, s2)) fun ys s2 => Fin (acc ++ ys) s2 := q5
      rw [okR_bind] at q5
      exact q5
    | true =>
      have q5 : okR ((ev call e s5).bind fun (y, s) => (Res.ok (some y, s) : Res (Option D × St))) fun o s1' => okR ((lcLoop (lcTurn vs tg (evs call ifs) (ev call e)) (xs.drop (i + 1)) s1').bind fun (ys, s2) => Res.ok (match o with | some y => y :: ys | none => ys, s2)) fun ys s2 => Fin (acc ++ ys) s2 := q5
      rw [okR_bind] at q5
      refine ⟨fi.plus p (.lst ws), c6, s5, s6, q5.mono fun dy s7 q7 c7 H7 yv hs7 p7 r7 => ?_⟩
      have q7 : okR ((lcLoop (lcTurn vs tg (evs call ifs) (ev call e)) (xs.drop (i + 1)) s7).bind fun (ys, s2) => Res.ok (dy :: ys, s2)) fun ys s2 => Fin (acc ++ ys) s2 := q7
      rw [okR_bind] at q7
      obtain ⟨mk7, h7⟩ := mk.back hw hs7 (p6.trans p7)
      have hl : acc.length + 1 ≤ line := by
        obtain ⟨ys, s2, _, f⟩ := okR_ex q7
        have := finl (show Fin (acc ++ dy :: ys) s2 from f)
        simp at this
        omega
      refine ⟨ws, h7, by rw [rw_.length]; exact Nat.lt_of_lt_of_le (by omega) line_le, ?_⟩
      obtain ⟨ws', hw', rws'⟩ := mk7.own.cell
      rw [h7] at hw'; cases hw'
      have mk8 := (mk7.put (o := .lst (ws ++ [yv])) (cl' := .lst (acc ++ [dy])) ⟨_, upd_same, (rws'.append (.cons r7 .nil)).step (.wr mk7.own.A)⟩).wipe vs
      rw [ew] at mk8
      refine ⟨c7, s7, acc ++ [dy], mk8, q7.mono fun ys s2 f => ?_⟩
      rw [List.append_assoc]
      exact f
  · have e : i = xs.length := by omega
    subst e
    refine .inl ⟨jr.stop c' Hh mk.stp, ?_⟩
    rw [List.drop_length] at q2
    have q2 : Fin (acc ++ []) st' := q2
    rw [List.append_nil] at q2
    have hl := finl q2
    have q2 : okR (if acc.length ≤ line then .ok (.lst acc, { st' with ρ := backS s1.ρ st'.ρ vs }) else .err : Res (D × St)) _ := q2
    rw [if_pos hl] at q2
    obtain ⟨cl, ecl, q3⟩ := q2
    cases ecl
    have hlen : s1.ρ.length = st'.ρ.length := by
      have h1 := mk.sr.len
      have h2 := hs1.len
      have h1 : (L2.wipe σ vs).length = (wipeS st'.ρ vs).length := h1
      rw [wipe_length, wipeS_length] at h1
      omega
    have sb := StR.back mk.sr hs1 mk.stp ho hlen
    refine q3 c' Hh p sb (p1.trans mk.stp) ⟨mk.own.A, mk.own.nf, fun j x ej => ?_, mk.own.cell, mk.own.n0⟩
    have hj : j ∉ vs := fun hj => by
      have := backS_in hj ej
      unfold hasOwn at ho
      have h2 := List.any_eq_false.mp ho j hj
      cases e1 : s1.ρ[j]? with
      | none => rw [e1] at this; cases this
      | some sl => rw [e1] at this h2; cases this; exact h2 rfl
    have ej : (backS s1.ρ st'.ρ vs)[j]? = some (.own x) := ej
    rw [backS_out hj] at ej
    have := mk.own.ns j x (by show (wipeS st'.ρ vs)[j]? = _; rw [wipeS_out hj]; exact ej)
    rw [wipe_out hj] at this
    exact this
end
end NW
set_option autoImplicit false
set_option linter.all false
set_option maxRecDepth 100000
/-! NwLc2: list comprehensions with two clauses. -/
namespace NW
open PySem PyProof.Rows L2

section
variable {X : Cx} {fi : Fi} {call : Call} {c : Cn} {σ : L2.St} {H : Hp} {st : St} {Q : VK}
theorem wipeS_wipeS {ρ : List Slot} {ws vs : List Nat} (hs : ∀ i ∈ ws, i ∈ vs) : wipeS (wipeS ρ ws) vs = wipeS ρ vs := by
  apply List.ext_getElem?
  intro i
  by_cases hi : i ∈ vs
  · have l1 : (wipeS (wipeS ρ ws) vs).length = (wipeS ρ vs).length := by rw [wipeS_length, wipeS_length, wipeS_length]
    by_cases hl : i < (wipeS ρ vs).length
    · have h1 : (wipeS ρ vs)[i]? = some ((wipeS ρ vs)[i]) := List.getElem?_eq_getElem hl
      have h2 : (wipeS (wipeS ρ ws) vs)[i]? = some ((wipeS (wipeS ρ ws) vs)[i]'(by rw [l1]; exact hl)) := List.getElem?_eq_getElem _
      rw [h1, h2, wipeS_in hi h1, wipeS_in hi h2]
    · rw [List.getElem?_eq_none (by omega), List.getElem?_eq_none (by omega)]
  · rw [wipeS_out hi, wipeS_out hi, wipeS_out fun z => hi (hs i z)]
/-- the end of a comprehension: the slots take back what they held -/
theorem MkS.fin {c1 : Cn} {H1 : Hp} {s1 : St} {p : Addr} {vs : List Nat} {cl : Cell} (mk : MkS X fi c1 H1 p c H (L2.wipe σ vs) { st with ρ := wipeS st.ρ vs } cl) (hs1 : SR X fi c1 σ H1 s1) (ho : hasOwn s1.ρ vs = false) :
    SR X fi c σ H { st with ρ := backS s1.ρ st.ρ vs } ∧ OwnAt X.prog X.w X.K fi c σ H { st with ρ := backS s1.ρ st.ρ vs } p cl := by
  have hlen : s1.ρ.length = st.ρ.length := by
    have h1 := mk.sr.len
    have h2 := hs1.len
    have h1 : (L2.wipe σ vs).length = (wipeS st.ρ vs).length := h1
    rw [wipe_length, wipeS_length] at h1
    omega
  refine ⟨StR.back mk.sr hs1 mk.stp ho hlen, mk.own.A, mk.own.nf, fun j x ej => ?_, mk.own.cell, mk.own.n0⟩
  have hj : j ∉ vs := fun hj => by
    have := backS_in hj ej
    unfold hasOwn at ho
    have h2 := List.any_eq_false.mp ho j hj
    cases e1 : s1.ρ[j]? with
    | none => rw [e1] at this; cases this
    | some sl => rw [e1] at this h2; cases this; exact h2 rfl
  have ej : (backS s1.ρ st.ρ vs)[j]? = some (.own x) := ej
  rw [backS_out hj] at ej
  have := mk.own.ns j x (by show (wipeS st.ρ vs)[j]? = _; rw [wipeS_out hj]; exact ej)
  rw [wipe_out hj] at this
  exact this
theorem red_lc2 {vs vs1 : List Nat} {e : E} {tg tg1 : Tg} {it it1 : I} {ifs ifs1 : List E} {Q : VK} (hv : ∀ i ∈ tg.vs, i ∈ vs) (hv1 : ∀ i ∈ tg1.vs, i ∈ vs1) (hvv : ∀ i ∈ vs1, i ∈ vs) (q : tOD X fi call (.lc2 vs e tg it ifs vs1 tg1 it1 ifs1) σ H Q) :
    tLc2 (tIv X fi call it) (gX X tg) (tXT X call ifs) (tXI X call it1) (gX X tg1) (tXT X call ifs1) (tXD X call e) vs vs1 σ H Q := by
  obtain ⟨c, st, hs, q⟩ := q
  unfold ev at q
  rw [okR_bind] at q
  refine ⟨c, st, hs, q.mono fun xs s1 q1 c1 H1 J hs1 p1 jr => ?_⟩
  intro p hp
  dsimp only at q1
  split at q1
  · exact q1.elim
  rename_i ho
  have ho : hasOwn s1.ρ vs = false := by simpa using ho
  rw [okR_bind] at q1
  let Fin : List D → St → Prop := fun ys s2 => okR (if ys.length ≤ line then .ok (.lst ys, { s2 with ρ := backS s1.ρ s2.ρ vs }) else .err : Res (D × St)) fun d st' => ∃ cl, cellOf d = some cl ∧ ∀ c' H' a, SR X fi c' σ H' st' → Stp c H c' H' → OwnAt X.prog X.w X.K fi c' σ H' st' a cl → Q (.ref a) H'
  generalize hf1 : lcTurn vs1 tg1 (evs call ifs1) (ev call e) = f1 at q1
  generalize hF : lc2Turn vs tg (evs call ifs) (evI call it1) f1 = F at q1
  have q1 : okR (lcLoops F xs s1) Fin := q1
  have finl : ∀ {ys s2}, Fin ys s2 → ys.length ≤ line := fun {ys s2} h => by
    by_cases hl : ys.length ≤ line
    · exact hl
    · have h : okR (if ys.length ≤ line then .ok (.lst ys, { s2 with ρ := backS s1.ρ s2.ρ vs }) else .err : Res (D × St)) _ := h
      rw [if_neg hl] at h
      exact h.elim
  refine ⟨fun i m Hh => m = xs.length - i ∧ i ≤ xs.length ∧ ∃ c' st' acc, MkS X fi c1 H1 p c' Hh (L2.wipe σ vs) { st' with ρ := wipeS st'.ρ vs } (.lst acc) ∧ okR (lcLoops F (xs.drop i) st') fun ys s2 => Fin (acc ++ ys) s2,
    ⟨xs.length, by simp, Nat.zero_le _, c1.plus p, s1, [], (MkS.start (o := .lst []) (cl := .lst []) hs1 hp ⟨[], upd_same, .nil⟩).wipe vs, by simpa using q1⟩, ?_⟩
  rintro i m Hh ⟨rfl, hi, c', st', acc, mk, q2⟩
  by_cases hlt : i < xs.length
  · refine .inr ⟨jr.go i c' Hh mk.stp hlt, fun H' => ∃ c' st' acc, MkS X fi c1 H1 p c' H' (L2.wipe σ vs) { st' with ρ := wipeS st'.ρ vs } (.lst acc) ∧ okR (lcLoops F (xs.drop (i + 1)) st') fun ys s2 => Fin (acc ++ ys) s2,
      fun H' w => ⟨xs.length - (i + 1), by omega, rfl, hlt, w⟩, fun x H' y => ?_⟩
    have ed : xs[i]? = some xs[i] := List.getElem?_eq_getElem hlt
    obtain ⟨mk, rx⟩ := mk.item (jr.yld i _ c' Hh x H' mk.stp ed y)
    obtain ⟨ws, hw, rw_⟩ := mk.own.cell
    rw [List.drop_eq_getElem_cons hlt] at q2
    simp only [lcLoops] at q2
    rw [okR_bind] at q2
    rw [← hF] at q2
    unfold lc2Turn at q2
    rw [okR_of] at q2
    obtain ⟨ρ, eρ, q3⟩ := q2
    rw [okR_bind] at q3
    have hF' : lc2Turn vs tg (evs call ifs) (evI call it1) f1 = F := hF
    refine ⟨fi.plus p (.lst ws), c', _, _, ρ, mk.into hw, rx, eρ, fun σ2 s4 same => ?_⟩
    have ew : L2.wipe σ2 vs = L2.wipe σ vs := (wipe_congr same hv).trans (wipe_wipe σ vs)
    refine ⟨ew, fi.plus p (.lst ws), c', _, s4, q3.mono fun bs s5 q5 => ?_⟩
    obtain ⟨b, hb, q5⟩ := okR_guard q5
    refine ⟨b, hb, fun c6 H6 s6 p6 => ?_⟩
    cases b with
    | false =>
      obtain ⟨mk6, _⟩ := mk.back hw s6 p6
      have mk6 := mk6.wipe vs
      rw [ew] at mk6
      refine ⟨c6, s5, acc, mk6, ?_⟩
      have q5 : okR ((lcLoops (lc2Turn vs tg (evs call ifs) (evI call it1) f1) (xs.drop (i + 1)) s5).bind fun (ys, s2) => Res.ok ([] ++ ys, s2)) fun ys s2 => Fin (acc ++ ys) s2 := q5
      rw [okR_bind, hF'] at q5
      exact q5
    | true =>
      let Fin1 : List D → St → Prop := fun acc' s => okR (lcLoops F (xs.drop (i + 1)) s) fun ys s2 => Fin (acc' ++ ys) s2
      have q5 : okR ((evI call it1 s5).bind fun (zs, s) => lcLoop f1 zs s) fun o s1' => okR ((lcLoops (lc2Turn vs tg (evs call ifs) (evI call it1) f1) (xs.drop (i + 1)) s1').bind fun (ys, s2) => Res.ok (o ++ ys, s2)) fun ys s2 => Fin (acc ++ ys) s2 := q5
      rw [okR_bind, hF'] at q5
      refine ⟨fi.plus p (.lst ws), c6, s5, s6, q5.mono fun zs s7 q7 c7 H7 J1 hs7 p7 jr1 => ?_⟩
      have q7 : okR (lcLoop f1 zs s7) fun o s => Fin1 (acc ++ o) s := okR.mono q7 fun o s z => by
        rw [okR_bind] at z
        refine okR.mono z fun ys s2 f => ?_
        have f : Fin (acc ++ (o ++ ys)) s2 := f
        rw [← List.append_assoc] at f
        exact f
      have fin1l : ∀ {a s}, Fin1 a s → a.length ≤ line := fun {a s} h => by
        obtain ⟨ys, s2, _, f⟩ := okR_ex h
        have := finl (show Fin (a ++ ys) s2 from f)
        simp at this
        omega
      obtain ⟨mk7, h7⟩ := mk.back hw hs7 (p6.trans p7)
      have mk7' : MkS X fi c7 H7 p c7 H7 σ2 s7 (.lst acc) := ⟨mk7.sr, .refl _ _, mk7.own⟩
      refine ⟨fun j k Hh => k = zs.length - j ∧ j ≤ zs.length ∧ ∃ c' st' acc, MkS X fi c7 H7 p c' Hh (L2.wipe σ2 vs1) { st' with ρ := wipeS st'.ρ vs1 } (.lst acc) ∧ okR (lcLoop f1 (zs.drop j) st') fun o s => Fin1 (acc ++ o) s,
        ⟨zs.length, by simp, Nat.zero_le _, c7, s7, acc, mk7'.wipe vs1, by simpa using q7⟩, ?_⟩
      rintro j k Hk ⟨rfl, hj, d', t', acc', mj, q8⟩
      by_cases hjt : j < zs.length
      · refine .inr ⟨jr1.go j d' Hk mj.stp hjt, fun H' => ∃ c' st' acc, MkS X fi c7 H7 p c' H' (L2.wipe σ2 vs1) { st' with ρ := wipeS st'.ρ vs1 } (.lst acc) ∧ okR (lcLoop f1 (zs.drop (j + 1)) st') fun o s => Fin1 (acc ++ o) s,
          fun H' w => ⟨zs.length - (j + 1), by omega, rfl, hjt, w⟩, fun x H' y => ?_⟩
        have ed : zs[j]? = some zs[j] := List.getElem?_eq_getElem hjt
        obtain ⟨mj, rx⟩ := mj.item (jr1.yld j _ d' Hk x H' mj.stp ed y)
        obtain ⟨us, hu, ru_⟩ := mj.own.cell
        rw [List.drop_eq_getElem_cons hjt] at q8
        simp only [lcLoop] at q8
        rw [okR_bind] at q8
        rw [← hf1] at q8
        unfold lcTurn at q8
        rw [okR_of] at q8
        obtain ⟨ρ1, eρ1, q9⟩ := q8
        rw [okR_bind] at q9
        have hf' : lcTurn vs1 tg1 (evs call ifs1) (ev call e) = f1 := hf1
        refine ⟨fi.plus p (.lst us), d', _, _, ρ1, mj.into hu, rx, eρ1, fun σ3 s10 same1 => ?_⟩
        have ew1 : L2.wipe σ3 vs1 = L2.wipe σ2 vs1 := (wipe_congr same1 hv1).trans (wipe_wipe σ2 vs1)
        refine ⟨ew1, fi.plus p (.lst us), d', _, s10, q9.mono fun bs s11 q11 => ?_⟩
        obtain ⟨b, hb, q11⟩ := okR_guard q11
        refine ⟨b, hb, fun c12 H12 s12 p12 => ?_⟩
        cases b with
        | false =>
          obtain ⟨mk12, _⟩ := mj.back hu s12 p12
          have mk12 := mk12.wipe vs1
          rw [ew1] at mk12
          refine ⟨c12, s11, acc', mk12, ?_⟩
          have q11 : okR ((lcLoop (lcTurn vs1 tg1 (evs call ifs1) (ev call e)) (zs.drop (j + 1)) s11).bind fun (ys, s2) => Res.ok (ys, s2)) fun o s => Fin1 (acc' ++ o) s := q11
          rw [okR_bind, hf'] at q11
          exact q11
        | true =>
          have q11 : okR ((ev call e s11).bind fun (y, s) => (Res.ok (some y, s) : Res (Option D × St))) fun o s1' => okR ((lcLoop (lcTurn vs1 tg1 (evs call ifs1) (ev call e)) (zs.drop (j + 1)) s1').bind fun (ys, s2) => Res.ok (match o with | some y => y :: ys | none => ys, s2)) fun o s => Fin1 (acc' ++ o) s := q11
          rw [okR_bind, hf'] at q11
          refine ⟨fi.plus p (.lst us), c12, s11, s12, q11.mono fun dy s13 q13 c13 H13 yv hs13 p13 r13 => ?_⟩
          have q13 : okR ((lcLoop f1 (zs.drop (j + 1)) s13).bind fun (ys, s2) => Res.ok (dy :: ys, s2)) fun o s => Fin1 (acc' ++ o) s := q13
          rw [okR_bind] at q13
          obtain ⟨mk13, h13⟩ := mj.back hu hs13 (p12.trans p13)
          have hl : acc'.length + 1 ≤ line := by
            obtain ⟨ys, s2, _, f⟩ := okR_ex q13
            have := fin1l (show Fin1 (acc' ++ dy :: ys) s2 from f)
            simp at this
            omega
          refine ⟨us, h13, by rw [ru_.length]; exact Nat.lt_of_lt_of_le (by omega) line_le, ?_⟩
          obtain ⟨us', hu', rus'⟩ := mk13.own.cell
          rw [h13] at hu'; cases hu'
          have mk14 := (mk13.put (o := .lst (us ++ [yv])) (cl' := .lst (acc' ++ [dy])) ⟨_, upd_same, (rus'.append (.cons r13 .nil)).step (.wr mk13.own.A)⟩).wipe vs1
          rw [ew1] at mk14
          refine ⟨c13, s13, acc' ++ [dy], mk14, q13.mono fun ys s2 f => ?_⟩
          rw [List.append_assoc]
          exact f
      · have ej : j = zs.length := by omega
        subst ej
        refine .inl ⟨jr1.stop d' Hk mj.stp, ?_⟩
        rw [List.drop_length] at q8
        have q8 : Fin1 (acc' ++ []) t' := q8
        rw [List.append_nil] at q8
        have m2 := mj.wipe vs
        have e1 : L2.wipe (L2.wipe σ2 vs1) vs = L2.wipe σ vs := by rw [wipe_congr (same_wipe σ2 vs1) hvv, ew]
        have e2 : wipeS (wipeS t'.ρ vs1) vs = wipeS t'.ρ vs := wipeS_wipeS hvv
        refine ⟨d', t', acc', ?_, q8⟩
        have m2 : MkS X fi c7 H7 p d' Hk (L2.wipe (L2.wipe σ2 vs1) vs) { t' with ρ := wipeS (wipeS t'.ρ vs1) vs } (.lst acc') := m2
        rw [e1, e2] at m2
        exact ⟨m2.sr, mk7.stp.trans m2.stp, m2.own⟩
  · have e : i = xs.length := by omega
    subst e
    refine .inl ⟨jr.stop c' Hh mk.stp, ?_⟩
    rw [List.drop_length] at q2
    have q2 : Fin (acc ++ []) st' := q2
    rw [List.append_nil] at q2
    have hl := finl q2
    have q2 : okR (if acc.length ≤ line then .ok (.lst acc, { st' with ρ := backS s1.ρ st'.ρ vs }) else .err : Res (D × St)) _ := q2
    rw [if_pos hl] at q2
    obtain ⟨cl, ecl, q3⟩ := q2
    cases ecl
    obtain ⟨f1', f2'⟩ := mk.fin hs1 ho
    exact q3 c' Hh p f1' (p1.trans mk.stp) f2'
end
end NW
set_option autoImplicit false
set_option linter.all false
set_option maxRecDepth 100000
/-! NwDct: dicts whose keys are tuples of ints: made, stored into. -/
namespace NW
open PySem PyProof.Rows L2

def putE (es : List Ent) (k : D) (a : Addr) (v : V) : List Ent := if k ∈ es.map (·.1) then es.map (fun e => if e.1 = k then (e.1, e.2.1, v) else e) else es ++ [(k, a, v)]
theorem putE_keys (es : List Ent) (vs : List D) (k : D) (a : Addr) (v : V) (d : D) (hl : vs.length = es.length) : (putE es k a v).map (·.1) = (putT (es.map (·.1)) vs k d).1 := by
  unfold putE putT
  by_cases h : k ∈ es.map (·.1)
  · rw [if_pos h, if_pos h, List.map_map]
    apply List.map_congr_left
    intro e _
    show (if e.1 = k then (e.1, e.2.1, v) else e).1 = e.1
    split <;> rfl
  · rw [if_neg h, if_neg h, List.map_append]
    rfl
theorem putE_len (es : List Ent) (k : D) (a : Addr) (v : V) : (putE es k a v).length ≤ es.length + 1 := by
  unfold putE
  split <;> simp
theorem putE_key (es : List Ent) (k : D) (a : Addr) (v : V) : ∀ x ∈ (putE es k a v).map (·.1), x ∈ es.map (·.1) ∨ x = k := by
  intro x hx
  unfold putE at hx
  split at hx
  · rw [List.map_map] at hx
    obtain ⟨e, he, hx⟩ := List.mem_map.mp hx
    refine .inl (List.mem_map.mpr ⟨e, he, ?_⟩)
    rw [← hx]
    show e.1 = (if e.1 = k then (e.1, e.2.1, v) else e).1
    split <;> rfl
  · rw [List.map_append] at hx
    rcases List.mem_append.mp hx with h | h
    · exact .inl h
    · exact .inr (by simpa using h)
section
variable {P : Program} {w : World} {K : PySem.W.Frag} {c : Cn} {H : Hp}
theorem putE_addr {k : D} {a : Addr} {v : V} (ra : Rp P w K c H (.ref a) k) : ∀ {es : List Ent} {ks : List D}, es.map (·.1) = ks → Rps P w K c H (es.map fun e => .ref e.2.1) ks → Rps P w K c H ((putE es k a v).map fun e => .ref e.2.1) ((putE es k a v).map (·.1)) := by
  intro es ks hk r
  subst hk
  unfold putE
  split
  · rename_i h
    clear h
    induction es with
    | nil => exact .nil
    | cons e es ih =>
      cases r with
      | cons r1 r2 =>
        refine .cons ?_ (ih r2)
        by_cases he : e.1 = k
        · simp only [he, if_true]; have r1 : Rp P w K c H (.ref e.2.1) e.1 := r1; rw [he] at r1; exact r1
        · simp only [he, if_false]; exact r1
  · rw [List.map_append, List.map_append]
    exact r.append (.cons ra .nil)
theorem putE_vals {k : D} {a : Addr} {v : V} {d : D} (rv : Rp P w K c H v d) : ∀ {es : List Ent} {vs : List D}, Rps P w K c H (es.map (·.2.2)) vs → Rps P w K c H ((putE es k a v).map (·.2.2)) (putT (es.map (·.1)) vs k d).2 := by
  intro es vs r
  unfold putE putT
  split
  · rename_i h
    clear h
    show Rps P w K c H _ (((es.map (·.1)).zip vs).map fun p => if p.1 = k then d else p.2)
    induction es generalizing vs with
    | nil => exact .nil
    | cons e es ih =>
      cases vs with
      | nil => cases r
      | cons u vs =>
        cases r with
        | cons r1 r2 =>
          refine .cons ?_ (ih r2)
          by_cases he : e.1 = k
          · simp only [he, if_true]; exact rv
          · simp only [he, if_false]; exact r1
  · rw [List.map_append]
    exact r.append (.cons rv .nil)
theorem keyT_pl {d : D} (h : keyT d = true) : D.pl 8 d = true := by
  unfold keyT at h
  cases d <;> simp at h ⊢
  exact h
theorem putE_stored {k : D} {a : Addr} {v : V} {u : Value} (hk : keyT k = true) (ru : RelV v u) {es : List Ent} {xs : List (NestedKey × Addr × Value)} (r : Paired EntR es xs) (hks : ∀ e ∈ es, keyT e.1 = true) : Paired EntR (putE es k a v) (storedH xs k.nk a u) := by
  have put : ∀ {es : List Ent} {xs : List (NestedKey × Addr × Value)}, Paired EntR es xs → (∀ e ∈ es, keyT e.1 = true) → Paired EntR (es.map fun e => if e.1 = k then (e.1, e.2.1, v) else e) (xs.map (putAt k.nk u)) := by
    intro es xs r
    induction r with
    | nil => intro _; exact .nil
    | cons q t ih =>
      rename_i e x es xs
      intro hks
      obtain ⟨q1, q2, q3⟩ := q
      refine .cons ?_ (ih fun e he => hks e (List.mem_cons_of_mem _ he))
      have hke := hks e List.mem_cons_self
      show EntR (if e.1 = k then (e.1, e.2.1, v) else e) (if x.1 = k.nk then (x.1, x.2.1, u) else x)
      by_cases he : e.1 = k
      · have : x.1 = k.nk := by rw [q1, he]
        rw [if_pos he, if_pos this]
        exact ⟨q1, q2, ru⟩
      · have : ¬ x.1 = k.nk := fun z => he (D.nk_inj 8 e.1 k (keyT_pl hke) (keyT_pl hk) (q1.symm.trans z))
        rw [if_neg he, if_neg this]
        exact ⟨q1, q2, q3⟩
  unfold putE storedH
  rcases atKey_get hk r hks with ⟨h1, h2, h3⟩ | ⟨j, e, x, h1, h2, h3, _, _⟩
  · rw [if_neg h3, h1]
    simp only [Option.isSome_none, Bool.false_eq_true, if_false]
    have app : ∀ {es : List Ent} {xs : List (NestedKey × Addr × Value)}, Paired EntR es xs → Paired EntR (es ++ [(k, a, v)]) (xs ++ [(k.nk, a, u)]) := by
      intro es xs r
      induction r with
      | nil => exact .cons ⟨rfl, rfl, ru⟩ .nil
      | cons q t ih => exact .cons q ih
    exact app r
  · have hm : k ∈ es.map (·.1) := List.mem_map.mpr ⟨e, List.mem_of_getElem? h1, h2⟩
    rw [if_pos hm, h3]
    simp only [Option.isSome_some, if_true]
    exact put r hks
theorem rawT_obj {a : Addr} {es : List Ent} {h : Heap} {xs : List (NestedKey × Addr × Value)} {H' : Hp} (hd : (a == sysModules) = false) (hl : es.length ≤ sizeLine) (r : Paired EntR es xs) (m : h.DictOfH (nestedKind P w) a xs) : ObjOk P w H' h a (rawT P w a es) := by
  obtain ⟨o, ent, ep, h1, h2, h3, h4, h5, h6⟩ := m
  refine ⟨⟨o, ent, ep, xs, h1, h2, h3, hd, hl, r, h4, h6⟩, ⟨o, h1⟩, fun g1 g2 ⟨o, ent, ep, xs, e1, e2⟩ k => ⟨o, ent, ep, xs, k o e1, e2⟩⟩
end
section
variable {X : Cx} {pins : List (Addr × Obj)} {σ : L2.St} {H : Hp} {s : Shared} {c : Cn}
/-- an entry is stored: what both roads (a statement, a comprehension) need -/
theorem raw_store (I : Inv X pins σ H s) {a b : Addr} {es : List Ent} {ks : List D} {k : D} {v : V} {u : Value} (h : H a = some (rawT X.prog X.w a es)) (hk : es.map (·.1) = ks) (kt : ∀ k ∈ ks, keyT k = true) (r : Rps X.prog X.w X.K c H (es.map fun e => .ref e.2.1) ks)
    (kk : keyT k = true) (ru : RelV v u) (hl : es.length < sizeLine) : ∃ xs, s.heap.DictOfH (nestedKind X.prog X.w) a xs ∧ xs.length ≤ sizeLine ∧
      ∀ h' tk, h'.DictOfH (nestedKind X.prog X.w) a (storedH xs k.nk b u) → Heap.SameBut a s.heap h' → Inv X pins σ (upd H a (rawT X.prog X.w a (putE es k b v))) { s with heap := h', toks := tk } := by
  obtain ⟨xs, p, dd, hs, hz⟩ := rawT_dict I h hk kt r
  refine ⟨xs, dd, by rw [← p.length]; exact hz, fun h' tk dd' sb => ?_⟩
  have hks : ∀ e ∈ es, keyT e.1 = true := fun e he => kt e.1 (by rw [← hk]; exact List.mem_map.mpr ⟨e, he, rfl⟩)
  have he : ∃ q, h'.get? a = some q := let ⟨q, _, _, hq, _⟩ := dd'; ⟨q, hq⟩
  have hl2 := putE_len es k b v
  exact d_write I (by rw [h]; exact True.intro) sb he (rawT_obj hs (by omega) (putE_stored kk ru p hks) dd')
theorem dictSet_T {E : Value → Shared → Prop} {A : Around} (hu : A.units + 64 < cLine) (I : Inv X pins σ H s) {a : Addr} {es : List Ent} {ks : List D} {k : D} {v vk : V} {u uk : Value} {Q : Unit → Shared → Prop} (h : H a = some (rawT X.prog X.w a es)) (hk : es.map (·.1) = ks) (kt : ∀ k ∈ ks, keyT k = true) (r : Rps X.prog X.w X.K c H (es.map fun e => .ref e.2.1) ks)
    (kk : keyT k = true) (rk : Rp X.prog X.w X.K c H vk k) (ruk : RelV vk uk) (ru : RelV v u) (hl : es.length < sizeLine) (hq : ∀ b s', vk = .ref b → Inv X pins σ (upd H a (rawT X.prog X.w a (putE es k b v))) s' → Q () s') : wpAny (model X.prog X.w) A (dictSet a uk u) Q E s := by
  obtain ⟨b, rfl, rfl, hkey⟩ := key_is I kk rk ruk
  obtain ⟨xs, dd, hz, go⟩ := raw_store (b := b) I h hk kt r kk ru hl
  refine wpAny_dictSet_heap (hsz := hz) (by show A.units + 8 < cLine; omega) hkey dd fun h' dd' sb => ?_
  exact hq b _ rfl (go h' _ dd' sb)
theorem setItem_T {E : Value → Shared → Prop} {A : Around} (hu : A.units + 64 < cLine) (I : Inv X pins σ H s) {a : Addr} {es : List Ent} {ks : List D} {k : D} {v vk : V} {u uk : Value} {Q : Unit → Shared → Prop} (h : H a = some (rawT X.prog X.w a es)) (hk : es.map (·.1) = ks) (kt : ∀ k ∈ ks, keyT k = true) (r : Rps X.prog X.w X.K c H (es.map fun e => .ref e.2.1) ks)
    (kk : keyT k = true) (rk : Rp X.prog X.w X.K c H vk k) (ruk : RelV vk uk) (ru : RelV v u) (hl : es.length < sizeLine) (hq : ∀ b s', vk = .ref b → Inv X pins σ (upd H a (rawT X.prog X.w a (putE es k b v))) s' → Q () s') : wpAny (model X.prog X.w) A (setItem (.ref a) uk u) Q E s := by
  obtain ⟨b, rfl, rfl, hkey⟩ := key_is I kk rk ruk
  obtain ⟨xs, dd, hz, go⟩ := raw_store (b := b) I h hk kt r kk ru hl
  refine wpAny_setItem_heap (hsz := hz) (room8 hu) hkey dd fun h' dd' sb => ?_
  exact hq b _ rfl (go h' _ dd' sb)
theorem raw_empty {P : Program} {w : World} {H' : Hp} (h : Heap) (hb : sysModules < h.objs.size) : ObjOk P w H' (h.push { cls := .type "dict", data := .dict #[] }) h.objs.size (rawT P w h.objs.size []) :=
  rawT_obj (beq_eq_false_iff_ne.mpr (Ne.symm (Nat.ne_of_lt hb))) (Nat.zero_le _) .nil (Heap.DictOfH.new h)
/-- {}, for keys that are tuples -/
theorem pe_dnewR {pos : Pos} : PE X (.Dict [] [] pos) (fun _ H Q => ∀ p, H p = none → Q (.ref p) (upd H p (rawT X.prog X.w p []))) := ⟨fun pins s σ H Q I h =>
  wpAny_Dict_empty ⟨.ref s.heap.objs.size, _, I.laid (a := s.heap.objs.size) (o := rawT X.prog X.w s.heap.objs.size []) (t' := s.toks) (fun _ _ q => Heap.get?_push_of_some _ q) (Nat.le_refl _) (raw_empty s.heap I.big), rfl, h _ (I.hok.fresh (Nat.le_refl _))⟩⟩
end
end NW
set_option autoImplicit false
set_option linter.all false
set_option maxRecDepth 100000
/-! NwDct2: dict comprehensions whose keys are tuples. -/
namespace NW
open PySem PyProof.Rows L2

section
variable {X : Cx}
/-- the reading: p the new dict -/
def tDcT (X : Cx) (wi : TI) (g : TG) (tt : TT) (tk tv : TE) (vs : List Nat) : TE := fun σ H Q => wi σ H fun J H1 => ∀ p, H1 p = none → ∃ W : Nat → Nat → Hp → Prop, (∃ m, W 0 m (upd H1 p (rawT X.prog X.w p []))) ∧ ∀ i m H, W i m H →
  (J.stop i H ∧ Q (.ref p) H) ∨ (J.go i H ∧ ∃ Nx : Hp → Prop, (∀ H', Nx H' → ∃ m', m' < m ∧ W (i + 1) m' H') ∧ ∀ x H', J.yld i H x H' → g x (L2.wipe σ vs) H' fun σ2 H2 => L2.wipe σ2 vs = L2.wipe σ vs ∧ tt σ2 H2 fun b H3 =>
    if b = true then tk σ2 H3 fun y H4 => tv σ2 H4 fun z H5 => ∃ c es ks k, RP X c H5 y k ∧ keyT k = true ∧ H5 p = some (rawT X.prog X.w p es) ∧ es.map (·.1) = ks ∧ (∀ k ∈ ks, keyT k = true) ∧ RPs X c H5 (es.map fun e => .ref e.2.1) ks ∧ es.length < sizeLine ∧
      ∀ b, y = .ref b → Nx (upd H5 p (rawT X.prog X.w p (putE es k b z))) else Nx H3)
/-- the block of such a comprehension -/
abbrev Cx.bl (X : Cx) (s : Shared) (H : Hp) (scope : Scope) (C : Addr) (cl : List (Str × Addr)) (fp : List Addr) : Cx := X.blk s H scope (compEnvC scope cl C X.env) fp
theorem dcT_core {pins : List (Addr × Obj)} {s : Shared} {σ : L2.St} {H : Hp} {Q : VK} {kx vx tg iter : Expr} {ifs : List Expr} {scope : Scope} {own : List (Str × Nat)} {pos pos' : Pos} {wi : TI} {g : TG} {tt : TT} {tk tv : TE} {use : Option (Value → Sem Unit)} {Qf : Value → Shared → Prop}
    (hc : X.calm = true) (hu : X.A.units + 64 < cLine) (hN : X.N.Nodup) (I : Inv X pins σ H s) (hi : PI X tg iter wi) (ok : BlkOk X.N X.env.scope scope own)
    (hg : ∀ s H C cl fp, PG (Cx.bl X s H scope C cl fp) tg g) (ht : ∀ s H C cl fp, PTs (Cx.bl X s H scope C cl fp) ifs tt) (hk : ∀ s H C cl fp, PE (Cx.bl X s H scope C cl fp) kx tk) (he : ∀ s H C cl fp, PE (Cx.bl X s H scope C cl fp) vx tv) (hs : ∀ x, foldedSetIterable iter X.env x = pure x)
    (h : tDcT X wi g tt tk tv (own.map (·.2)) σ H Q)
    (hE : ∀ p C s' m H', Inv X pins σ H' s' → Q (.ref p) H' → s'.heap.Ns C m → FpOk X pins H' C → compPost (model X.prog X.w) X.A X.xe use Qf (.ref p) C (.ok .next) s') :
    wpAny (model X.prog X.w) X.A (comprehension (.DictComp kx vx [⟨tg, iter, ifs, 0⟩] scope pos) scope X.env pos' newDict false (eval iter X.env) use) Qf X.xe s := by
  have hf : ∀ y ∈ scope.names, y.2 = .free → ∃ c, X.env.cells.lookup y.1 = some c := fun y hy e => (ok.free y hy e).elim (fun k => I.ok.has _ (.inl k)) fun k => I.ok.has _ (.inr k)
  refine wpAny_comprehension_free (use := use) rfl hs (closure_ok hf) ok.kind (fun y hy e => by rw [ok.uniq y hy, e]) (thn (hi.run pins s σ H _ I h) fun xv s1 hx => thn hx fun itv s2 h2 => ?_)
  obtain ⟨it, fp, tn, J, H2, e, I2, T, st2, f2, q⟩ := h2; subst e; refine wpAny_newObj_type (newEnv_comp ?_)
  -- the new dict at p
  generalize hp : s2.heap.objs.size = p; have hpn : H2 p = none := I2.hok.fresh (Nat.le_of_eq hp); obtain ⟨W, ⟨m0, w0⟩, turn⟩ := q p hpn
  generalize hs3 : ({ s2 with heap := s2.heap.push { cls := .type "dict", data := .dict #[] } } : Shared) = s3
  have h3 : s3.heap = s2.heap.push { cls := .type "dict", data := .dict #[] } := by rw [← hs3]
  have I3 : Inv X pins σ (upd H2 p (rawT X.prog X.w p [])) s3 := by
    rw [← hs3]; refine I2.laid (t' := s2.toks) (fun b o e => Heap.get?_push_of_some _ e) (Nat.le_of_eq hp) ?_; rw [← hp]; exact raw_empty s2.heap I2.big
  have f3 : ∀ b ∈ fp, FpOk X pins (upd H2 p (rawT X.prog X.w p [])) b ∧ b < s3.heap.objs.size := fun b hb => by
    have hlt : b < s2.heap.objs.size := by obtain ⟨o, e, _⟩ := T.obj _ _ st2 b hb; exact Heap.lt_size e
    exact ⟨⟨by rw [upd_ne (by rw [← hp]; exact Nat.ne_of_lt hlt)]; exact (f2 b hb).1, (f2 b hb).2⟩, by rw [h3, Heap.size_push]; exact Nat.lt_succ_of_lt hlt⟩
  generalize hH3 : upd H2 p (rawT X.prog X.w p []) = H3 at I3 f3 w0
  have I4 := block_start I3 ok hN f3
  generalize hcl : cellsFrom (s3.heap.objs.size + 1) scope.names (cloFrom X.env.cells scope.names []) = cl at I4
  have pg := hg s3 H3 s3.heap.objs.size cl fp; have pt := ht s3 H3 s3.heap.objs.size cl fp; have pk := hk s3 H3 s3.heap.objs.size cl fp; have pe := he s3 H3 s3.heap.objs.size cl fp; unfold Cx.bl at pg pt pk pe
  generalize hs4 : ({ s3 with heap := pushCells (s3.heap.push { cls := .type "dict", data := .dict #[] }) scope.names } : Shared) = s4 at I4
  have goal : codeAny (model X.prog X.w) X.A (.compStart (.DictComp kx vx [⟨tg, iter, ifs, 0⟩] scope pos) 0 (.ref it) (.ref p) (compEnvC scope cl s3.heap.objs.size X.env)) (compPost (model X.prog X.w) X.A X.xe use Qf (.ref p) s3.heap.objs.size) s4 := by
    have cL : (compEnvC scope cl s3.heap.objs.size X.env).locals = s3.heap.objs.size := rfl
    generalize hce : compEnvC scope cl s3.heap.objs.size X.env = ce at I4 cL pg pt pk pe ⊢
    have st4 : tn 0 s4.heap := by
      refine T.keep _ _ _ st2 fun b _ o e => ?_
      rw [← hs4]; refine pushCells_keeps _ _ _ _ (Heap.get?_push_of_some _ ?_); rw [h3]; exact Heap.get?_push_of_some _ e
    have stat : ∀ {σ' : L2.St} {H' : Hp} {s' : Shared}, Inv (X.blk s3 H3 scope ce fp) [] σ' H' s' → (∀ b ∈ fp, H' b = none) → ∀ b ∈ fp, FpOk (X.blk s3 H3 scope ce fp) [] H' b := fun I' hn b hb =>
      ⟨hn b hb, (I'.ok.exf b hb).1, I'.ok.exfs b hb, .inl hb, fun x c e => (I'.ok.exf b hb).2 x c e, fun p hp => by cases hp⟩
    have loop : codeAny (model X.prog X.w) X.A (.compLoop (.DictComp kx vx [⟨tg, iter, ifs, 0⟩] scope pos) 0 (.ref it) (.ref p) ce) (compPost (model X.prog X.w) X.A X.xe use Qf (.ref p) s3.heap.objs.size) s4 := by
      refine compLoop_anyD (fun n s' => ∃ i H', Inv (X.blk s3 H3 scope ce fp) [] (L2.wipe σ (own.map (·.2))) H' s' ∧ tn i s'.heap ∧ (∀ b ∈ fp, H' b = none) ∧ W i n H') ?_ m0 ⟨0, H3, I4, st4, fun b hb => (f3 b hb).1.1, w0⟩
      rintro n s5 ⟨i, H5, I5, st5, n5, w5⟩; rcases turn i n H5 w5 with ⟨stop, qq⟩ | ⟨go, Nx, hNx, step⟩
      · -- the end: back in the def's context
        refine thnF (T.done (X.blk s3 H3 scope ce fp) rfl rfl rfl hc i [] s5 _ H5 (fun _ _ => False) I5 (stat I5 n5) st5 stop) fun r s6 ⟨hr, I6⟩ => ?_; subst hr
        have I7 : Inv X pins σ H5 s6 := I3.call' (ch := fp) I6.os I6.base I6.hok I6.bare fun b hb => let z := (f3 b hb).1.2; ⟨z.2.2.1, z.1, z.2.2.2.1, z.2.2.2.2⟩
        have nC : H5 s3.heap.objs.size = none := cL ▸ (show H5 ce.locals = none from I6.free)
        obtain ⟨m, hn, _⟩ := I6.loc; have hn : s6.heap.Ns s3.heap.objs.size m := cL ▸ (show s6.heap.Ns ce.locals m from hn)
        exact hE p s3.heap.objs.size s6 m H5 I7 qq hn (I3.fpOk (Nat.le_refl _) nC)
      · refine thnF (T.item (X.blk s3 H3 scope ce fp) rfl rfl rfl hc i [] s5 _ H5 (fun _ _ => False) I5 (stat I5 n5) st5 go) fun r s6 ⟨u, hr, h6⟩ => ?_; subst hr
        refine thnF h6 fun _ s7 ⟨x, H7, I7, r7, y7, st7, n7⟩ => ?_
        refine thnF (pg.run _ s7 _ H7 x u _ (I7.pinned (stat I7 n7) (T.obj _ _ st7)) r7 (step x H7 y7)) fun _ s8 ⟨σ8, H8, I8, hw8, q8⟩ => ?_
        refine thnF (pt.run _ s8 σ8 H8 _ I8 q8) fun b s9 ⟨H9, I9, q9⟩ => ?_
        have fin : ∀ {s' : Shared} {H' : Hp}, Inv (X.blk s3 H3 scope ce fp) ([] ++ pinsAt fp s7.heap) σ8 H' s' → Nx H' → ∃ m, m < n ∧ ∃ i H', Inv (X.blk s3 H3 scope ce fp) [] (L2.wipe σ (own.map (·.2))) H' s' ∧ tn i s'.heap ∧ (∀ b ∈ fp, H' b = none) ∧ W i m H' := fun {s' H'} I' nx => by
          obtain ⟨m', hm, w'⟩ := hNx H' nx
          have pin' : ∀ b ∈ fp, ∀ o, s7.heap.get? b = some o → s'.heap.get? b = some o ∧ H' b = none := fun b hb o e => let z := I'.pin (b, o) (List.mem_append_right _ (List.mem_append_right _ (mem_pinsAt hb e))); ⟨z.1, z.2.1⟩
          refine ⟨m', hm, i + 1, H', (I'.unpinned (pins := [])).weak (by rw [← hw8, wipe_length]) (fun j v e => by rw [← hw8] at e; exact (wipe_some e).1), T.keep _ _ _ st7 fun b hb o e => (pin' b hb o e).1, fun b hb => ?_, w'⟩
          obtain ⟨o, e, _⟩ := T.obj _ _ st7 b hb; exact (pin' b hb o e).2
        cases b with
        | false => simp only [Bool.false_eq_true, if_false] at q9 ⊢; exact fin I9 q9
        | true =>
          simp only [if_true] at q9 ⊢; refine thnF (pk.run _ s9 σ8 H9 _ I9 q9) fun uk s10 ⟨yk, H10, I10, r10, q10⟩ => ?_
          refine thnF (pe.run _ s10 σ8 H10 _ I10 q10) fun uv s11 ⟨yv, H11, I11, r11, c, es, ks, k, rk, kk, hD, ek, kt, rks, hl, nx⟩ => ?_
          -- the key's reference: what it held ahead of the value
          exact dictSet_T (X := X.blk s3 H3 scope ce fp) hu I11 hD ek kt rks kk rk r10 r11 hl fun b s12 eb I12 => fin I12 (nx b eb)
    exact codeAny_compStart_dict loop (T.self X.A 0 _ _ _ st4 loop)
  exact goal
theorem pe_dcT {kx vx tg iter : Expr} {ifs : List Expr} {scope : Scope} {own : List (Str × Nat)} {pos : Pos} {wi : TI} {g : TG} {tt : TT} {tk tv : TE} (hc : X.calm = true) (hu : X.A.units + 64 < cLine) (hN : X.N.Nodup) (hi : PI X tg iter wi) (ok : BlkOk X.N X.env.scope scope own)
    (hg : ∀ s H C cl fp, PG (Cx.bl X s H scope C cl fp) tg g) (ht : ∀ s H C cl fp, PTs (Cx.bl X s H scope C cl fp) ifs tt) (hk : ∀ s H C cl fp, PE (Cx.bl X s H scope C cl fp) kx tk) (he : ∀ s H C cl fp, PE (Cx.bl X s H scope C cl fp) vx tv) (hs : ∀ x, foldedSetIterable iter X.env x = pure x) :
    PE X (.DictComp kx vx [⟨tg, iter, ifs, 0⟩] scope pos) (tDcT X wi g tt tk tv (own.map (·.2))) := by
  refine ⟨fun pins s σ H Q I h => ?_⟩; rw [arm_eval_DictComp]
  refine dcT_core hc hu hN I hi ok hg ht hk he hs h fun p C s' m H' I' q hn f => ⟨m, hn, fun h'' sb => ?_⟩
  obtain ⟨f0, f1, g2, g3, g4, g5⟩ := f
  exact ⟨.ref p, H', I'.turned (t' := s'.toks) (fun b o hb e => (sb.2 b hb).trans e) f0 f1 g3 g4 g5, rfl, q⟩
/-- the new object is stored at a name, within the comprehension -/
theorem comp_store {pins : List (Addr × Obj)} {s' : Shared} {σ : L2.St} {H' : Hp} {i : Nat} {y : Str} {py : Pos} {D : Ends} {C p : Addr} {m : Str → Option Value} (hN : X.N.Nodup) (hy : X.N[i]? = some y) (hyl : X.env.scope.names.lookup y = some .local)
    (I' : Inv X pins σ H' s') (q : D.nx (σ.set i (some (.ref p))) H') (hn : s'.heap.Ns C m) (f : FpOk X pins H' C) : compPost (model X.prog X.w) X.A X.xe (some (assign (.Name y py) X.env)) (fun _ s' => SP X pins D .next s') (.ref p) C (.ok .next) s' := by
  show wpAny _ _ (assign (.Name y py) X.env (.ref p)) _ _ _
  refine wpAny_assign_Name (store_ok2 (v := V.ref p) I' hN hy (.inl hyl) rfl (fun s2 I2 ⟨a, sb, ha⟩ => ?_) (.inr hyl))
  obtain ⟨f0, f1, g2, g3, g4, g5⟩ := f
  have haC : C ≠ a := ha.elim (fun z => by rw [z]; exact f1) fun z e => g4 y a z e.symm
  exact ⟨m, hn.sameBut sb haC, fun h3 sb3 => ⟨_, H', I2.turned (t' := s2.toks) (fun b o hb e => (sb3.2 b hb).trans e) f0 f1 g3 g4 g5, q⟩⟩
theorem ps_setDcT {i : Nat} {y : Str} {py : Pos} {kx vx tg iter : Expr} {ifs : List Expr} {scope : Scope} {own : List (Str × Nat)} {pos spos : Pos} {wi : TI} {g : TG} {tt : TT} {tk tv : TE} (hc : X.calm = true) (hu : X.A.units + 64 < cLine) (hN : X.N.Nodup) (hy : X.N[i]? = some y) (hyl : X.env.scope.names.lookup y = some .local)
    (hsw : swapsWith (.DictComp kx vx [⟨tg, iter, ifs, 0⟩] scope pos) (some (.Name y py)) spos.line X.env = pure true) (hi : PI X tg iter wi) (ok : BlkOk X.N X.env.scope scope own)
    (hg : ∀ s H C cl fp, PG (Cx.bl X s H scope C cl fp) tg g) (ht : ∀ s H C cl fp, PTs (Cx.bl X s H scope C cl fp) ifs tt) (hk : ∀ s H C cl fp, PE (Cx.bl X s H scope C cl fp) kx tk) (he : ∀ s H C cl fp, PE (Cx.bl X s H scope C cl fp) vx tv) (hs : ∀ x, foldedSetIterable iter X.env x = pure x) :
    PS X (.Assign [.Name y py] (.DictComp kx vx [⟨tg, iter, ifs, 0⟩] scope pos) spos) (tAsg (tDcT X wi g tt tk tv (own.map (·.2))) (gName i)) := by
  refine ⟨fun pins s σ H D I h => ?_⟩; rw [exec_Assign_Name_used _ _ _ _ hsw]; refine wpAny_bind (wpAny_standAt (wpAny_bind ?_))
  show wpAny _ X.A (do let _ ← comprehension (.DictComp kx vx [⟨tg, iter, ifs, 0⟩] scope pos) scope X.env (firstIterPos [⟨tg, iter, ifs, 0⟩] pos) newDict false (eval iter X.env) (some (assign (.Name y py) X.env))) _ _ s
  have h : tDcT X wi g tt tk tv (own.map (·.2)) σ H (fun x H1 => gName i x σ H1 D.nx) := h
  exact wpAny_bind (thn (dcT_core (Qf := fun _ s' => SP X pins D .next s') hc hu hN I hi ok hg ht hk he hs h fun p C s' m H' I' q hn f => comp_store hN hy hyl I' q hn f) fun _ s' hq => wpAny_pure (wpAny_pure hq))
theorem ps_setDc {i : Nat} {y : Str} {py : Pos} {kx vx tg iter : Expr} {ifs : List Expr} {scope : Scope} {own : List (Str × Nat)} {pos spos : Pos} {wi : TI} {g : TG} {tt : TT} {tk tv : TE} (hc : X.calm = true) (hN : X.N.Nodup) (hy : X.N[i]? = some y) (hyl : X.env.scope.names.lookup y = some .local)
    (hsw : swapsWith (.DictComp kx vx [⟨tg, iter, ifs, 0⟩] scope pos) (some (.Name y py)) spos.line X.env = pure true) (hi : PI X tg iter wi) (ok : BlkOk X.N X.env.scope scope own)
    (hg : ∀ s H C cl fp, PG (Cx.bl X s H scope C cl fp) tg g) (ht : ∀ s H C cl fp, PTs (Cx.bl X s H scope C cl fp) ifs tt) (hk : ∀ s H C cl fp, PE (Cx.bl X s H scope C cl fp) kx tk) (he : ∀ s H C cl fp, PE (Cx.bl X s H scope C cl fp) vx tv) (hs : ∀ x, foldedSetIterable iter X.env x = pure x) :
    PS X (.Assign [.Name y py] (.DictComp kx vx [⟨tg, iter, ifs, 0⟩] scope pos) spos) (tAsg (tDc wi g tt tk tv (own.map (·.2))) (gName i)) := by
  refine ⟨fun pins s σ H D I h => ?_⟩; rw [exec_Assign_Name_used _ _ _ _ hsw]; refine wpAny_bind (wpAny_standAt (wpAny_bind ?_))
  show wpAny _ X.A (do let _ ← comprehension (.DictComp kx vx [⟨tg, iter, ifs, 0⟩] scope pos) scope X.env (firstIterPos [⟨tg, iter, ifs, 0⟩] pos) newDict false (eval iter X.env) (some (assign (.Name y py) X.env))) _ _ s
  have h : tDc wi g tt tk tv (own.map (·.2)) σ H (fun x H1 => gName i x σ H1 D.nx) := h
  exact wpAny_bind (thn (dc_core (Qf := fun _ s' => SP X pins D .next s') hc hN I hi ok hg ht hk he hs h fun p C s' m H' I' q hn f => comp_store hN hy hyl I' q hn f) fun _ s' hq => wpAny_pure (wpAny_pure hq))
end
end NW
set_option autoImplicit false
set_option linter.all false
set_option maxRecDepth 100000
/-! NwDc: what dict comprehensions give. -/
namespace NW
open PySem PyProof.Rows L2

theorem putI_len (ks : List Int) (vs : List D) (k : Int) (d : D) : (putI ks vs k d).1.length ≤ ks.length + 1 := by
  unfold putI; split <;> simp
theorem putT_len (ks : List D) (vs : List D) (k : D) (d : D) : (putT ks vs k d).1.length ≤ ks.length + 1 := by
  unfold putT; split <;> simp
section
variable {P : Program} {w : World} {K : PySem.W.Frag} {c : Cn} {H : Hp}
theorem putI_rel {k : Int} {z : V} {d : D} (rz : Rp P w K c H z d) {kvs : List (Key × V)} {ks : List Int} {ds : List D} (e : kvs.map (·.1) = ks.map Sum.inl) (r : Rps P w K c H (kvs.map (·.2)) ds) :
    (putK kvs (.inl k) z).map (·.1) = (putI ks ds k d).1.map Sum.inl ∧ Rps P w K c H ((putK kvs (.inl k) z).map (·.2)) (putI ks ds k d).2 := by
  have hk : (kvs.any fun kv => decide (kv.1 = Sum.inl k)) = true ↔ k ∈ ks := by
    rw [List.any_eq_true]
    constructor
    · rintro ⟨x, hx, h⟩
      have : x.1 ∈ kvs.map (·.1) := List.mem_map.mpr ⟨x, hx, rfl⟩
      rw [e, of_decide_eq_true h] at this
      obtain ⟨y, hy, e2⟩ := List.mem_map.mp this
      cases e2
      exact hy
    · intro h
      have : (Sum.inl k : Key) ∈ kvs.map (·.1) := by rw [e]; exact List.mem_map.mpr ⟨k, h, rfl⟩
      obtain ⟨x, hx, e2⟩ := List.mem_map.mp this
      exact ⟨x, hx, decide_eq_true e2⟩
  unfold putK putI
  by_cases h : k ∈ ks
  · rw [if_pos (hk.mpr h), if_pos h]
    refine ⟨?_, ?_⟩
    · rw [List.map_map, ← e]
      apply List.map_congr_left
      intro x _
      show (if x.1 = Sum.inl k then (x.1, z) else x).1 = x.1
      split <;> rfl
    · show Rps P w K c H _ ((ks.zip ds).map fun p => if p.1 = k then d else p.2)
      clear hk h
      induction kvs generalizing ks ds with
      | nil =>
        cases ks with
        | nil => exact .nil
        | cons _ _ => simp at e
      | cons x kvs ih =>
        cases ks with
        | nil => simp at e
        | cons k0 ks =>
          simp only [List.map_cons, List.cons.injEq] at e
          cases r with
          | cons r1 r2 =>
            refine .cons ?_ (ih e.2 r2)
            show Rp P w K c H (if x.1 = Sum.inl k then (x.1, z) else x).2 (if k0 = k then d else _)
            by_cases hx : k0 = k
            · have : x.1 = Sum.inl k := by rw [e.1, hx]
              rw [if_pos this, if_pos hx]
              exact rz
            · have : ¬ x.1 = Sum.inl k := fun q => hx (by rw [e.1] at q; cases q; rfl)
              rw [if_neg this, if_neg hx]
              exact r1
  · rw [if_neg (fun q => h (hk.mp q)), if_neg h, List.map_append, List.map_append, e]
    refine ⟨by simp, ?_⟩
    have h2 := r.append (.cons rz .nil)
    first | exact h2 | (rw [List.map_append]; exact h2)
end
section
variable {X : Cx} {fi : Fi} {call : Call} {c : Cn} {σ : L2.St} {H : Hp} {st : St} {Q : VK}
theorem red_dci {vs : List Nat} {k e : E} {tg : Tg} {it : I} {ifs : List E} {Q : VK} (hv : ∀ i ∈ tg.vs, i ∈ vs) (q : tOD X fi call (.dci vs k e tg it ifs) σ H Q) : tDc (tIv X fi call it) (gX X tg) (tXT X call ifs) (tXD X call k) (tXD X call e) vs σ H Q := by
  obtain ⟨c, st, hs, q⟩ := q
  unfold ev at q
  rw [okR_bind] at q
  refine ⟨c, st, hs, q.mono fun xs s1 q1 c1 H1 J hs1 p1 jr => ?_⟩
  intro p hp
  dsimp only at q1
  split at q1
  · exact q1.elim
  rename_i hg
  have hg : hasOwn s1.ρ vs = false ∧ ¬ line < xs.length := by simpa using hg
  obtain ⟨ho, hx⟩ := hg
  rw [okR_bind] at q1
  generalize hF : dcTurn intK vs tg (evs call ifs) (ev call k) (ev call e) = F at q1
  let Fin : List Int × List D → St → Prop := fun a s2 => okR (.ok (.dci a.1 a.2, { s2 with ρ := backS s1.ρ s2.ρ vs }) : Res (D × St)) fun d st' => ∃ cl, cellOf d = some cl ∧ ∀ c' H' a, SR X fi c' σ H' st' → Stp c H c' H' → OwnAt X.prog X.w X.K fi c' σ H' st' a cl → Q (.ref a) H'
  have q1 : okR (dcLoop putI F xs ([], []) s1) Fin := q1
  refine ⟨fun i m Hh => m = xs.length - i ∧ i ≤ xs.length ∧ ∃ c' st' acc, MkS X fi c1 H1 p c' Hh (L2.wipe σ vs) { st' with ρ := wipeS st'.ρ vs } (.dci acc.1 acc.2) ∧ acc.1.length ≤ i ∧ okR (dcLoop putI F (xs.drop i) acc st') Fin,
    ⟨xs.length, by simp, Nat.zero_le _, c1.plus p, s1, ([], []), (MkS.start (o := .dK []) (cl := .dci [] []) hs1 hp ⟨[], upd_same, rfl, .nil⟩).wipe vs, Nat.zero_le _, by simpa using q1⟩, ?_⟩
  rintro i m Hh ⟨rfl, hi, c', st', acc, mk, hal, q2⟩
  by_cases hlt : i < xs.length
  · refine .inr ⟨jr.go i c' Hh mk.stp hlt, fun H' => ∃ c' st' acc, MkS X fi c1 H1 p c' H' (L2.wipe σ vs) { st' with ρ := wipeS st'.ρ vs } (.dci acc.1 acc.2) ∧ acc.1.length ≤ i + 1 ∧ okR (dcLoop putI F (xs.drop (i + 1)) acc st') Fin,
      fun H' w => ⟨xs.length - (i + 1), by omega, rfl, hlt, w⟩, fun x H' y => ?_⟩
    have ed : xs[i]? = some xs[i] := List.getElem?_eq_getElem hlt
    obtain ⟨mk, rx⟩ := mk.item (jr.yld i _ c' Hh x H' mk.stp ed y)
    obtain ⟨ws, hw, ew0, rw_⟩ := mk.own.cell
    rw [List.drop_eq_getElem_cons hlt] at q2
    simp only [dcLoop] at q2
    rw [okR_bind] at q2
    have hFx : F xs[i] st' = (Res.of (assignTg tg xs[i] (wipeS st'.ρ vs))).bind fun ρ => (evs call ifs { st' with ρ := ρ }).bind fun (bs, s) =>
      guardB bs ((ev call k s).bind fun (y, s) => (ev call e s).bind fun (z, s) => (Res.of (intK y)).bind fun k => .ok (some (k, z), s)) (.ok (none, s)) := by rw [← hF]; rfl
    rw [hFx, okR_of] at q2
    obtain ⟨ρ, eρ, q3⟩ := q2
    rw [okR_bind] at q3
    refine ⟨fi.plus p (.dK ws), c', _, _, ρ, mk.into hw, rx, eρ, fun σ2 s4 same => ?_⟩
    have ew : L2.wipe σ2 vs = L2.wipe σ vs := (wipe_congr same hv).trans (wipe_wipe σ vs)
    refine ⟨ew, fi.plus p (.dK ws), c', _, s4, q3.mono fun bs s5 q5 => ?_⟩
    obtain ⟨b, hb, q5⟩ := okR_guard q5
    refine ⟨b, hb, fun c6 H6 s6 p6 => ?_⟩
    cases b with
    | false =>
      obtain ⟨mk6, _⟩ := mk.back hw s6 p6
      have mk6 := mk6.wipe vs
      rw [ew] at mk6
      refine ⟨c6, s5, acc, mk6, by omega, ?_⟩
      exact q5
    | true =>
      simp only [if_true] at q5
      rw [okR_bind] at q5
      refine ⟨fi.plus p (.dK ws), c6, s5, s6, q5.mono fun dy s7 q7 c7 H7 yv hs7 p7 r7 => ?_⟩
      rw [okR_bind] at q7
      refine ⟨fi.plus p (.dK ws), c7, s7, hs7, q7.mono fun dz s8 q8 c8 H8 zv hs8 p8 r8 => ?_⟩
      rw [okR_of] at q8
      obtain ⟨k0, hk0, q9⟩ := q8
      have q9 : okR (dcLoop putI F (xs.drop (i + 1)) (putI acc.1 acc.2 k0 dz) s8) Fin := q9
      cases dy with
      | int k1 =>
        cases hk0
        cases r7
        obtain ⟨mk8, h8⟩ := mk.back hw hs8 ((p6.trans p7).trans p8)
        have hl : ws.length ≤ i := by
          have := congrArg List.length ew0
          simp at this
          omega
        refine ⟨ws, .inl k0, rfl, h8, Nat.lt_of_lt_of_le (show ws.length < line by omega) line_le, ?_⟩
        obtain ⟨ws', hw', ew', rws'⟩ := mk8.own.cell
        rw [h8] at hw'; cases hw'
        obtain ⟨g1, g2⟩ := putI_rel (k := k0) r8 ew' rws'
        have mk9 := (mk8.put (o := .dK (putK ws (.inl k0) zv)) (cl' := .dci (putI acc.1 acc.2 k0 dz).1 (putI acc.1 acc.2 k0 dz).2) ⟨_, upd_same, g1, g2.step (.wr mk8.own.A)⟩).wipe vs
        rw [ew] at mk9
        have := putI_len acc.1 acc.2 k0 dz
        exact ⟨c8, s8, putI acc.1 acc.2 k0 dz, mk9, by omega, q9⟩
      | _ => cases hk0
  · have e : i = xs.length := by omega
    subst e
    refine .inl ⟨jr.stop c' Hh mk.stp, ?_⟩
    rw [List.drop_length] at q2
    have q2 : Fin acc st' := q2
    have q2 : okR (.ok (.dci acc.1 acc.2, { st' with ρ := backS s1.ρ st'.ρ vs }) : Res (D × St)) _ := q2
    obtain ⟨cl, ecl, q3⟩ := q2
    cases ecl
    obtain ⟨f1', f2'⟩ := mk.fin hs1 ho
    exact q3 c' Hh p f1' (p1.trans mk.stp) f2'
theorem red_dct {vs : List Nat} {k e : E} {tg : Tg} {it : I} {ifs : List E} {Q : VK} (hv : ∀ i ∈ tg.vs, i ∈ vs) (q : tOD X fi call (.dct vs k e tg it ifs) σ H Q) : tDcT X (tIv X fi call it) (gX X tg) (tXT X call ifs) (tXD X call k) (tXD X call e) vs σ H Q := by
  obtain ⟨c, st, hs, q⟩ := q
  unfold ev at q
  rw [okR_bind] at q
  refine ⟨c, st, hs, q.mono fun xs s1 q1 c1 H1 J hs1 p1 jr => ?_⟩
  intro p hp
  dsimp only at q1
  split at q1
  · exact q1.elim
  rename_i hg
  have hg : hasOwn s1.ρ vs = false ∧ ¬ line < xs.length := by simpa using hg
  obtain ⟨ho, hx⟩ := hg
  rw [okR_bind] at q1
  generalize hF : dcTurn tupK vs tg (evs call ifs) (ev call k) (ev call e) = F at q1
  let Fin : List D × List D → St → Prop := fun a s2 => okR (.ok (.dct a.1 a.2, { s2 with ρ := backS s1.ρ s2.ρ vs }) : Res (D × St)) fun d st' => ∃ cl, cellOf d = some cl ∧ ∀ c' H' a, SR X fi c' σ H' st' → Stp c H c' H' → OwnAt X.prog X.w X.K fi c' σ H' st' a cl → Q (.ref a) H'
  have q1 : okR (dcLoop putT F xs ([], []) s1) Fin := q1
  refine ⟨fun i m Hh => m = xs.length - i ∧ i ≤ xs.length ∧ ∃ c' st' acc, MkS X fi c1 H1 p c' Hh (L2.wipe σ vs) { st' with ρ := wipeS st'.ρ vs } (.dct acc.1 acc.2) ∧ acc.1.length ≤ i ∧ okR (dcLoop putT F (xs.drop i) acc st') Fin,
    ⟨xs.length, by simp, Nat.zero_le _, c1.plus p, s1, ([], []), (MkS.start (o := rawT X.prog X.w p []) (cl := .dct [] []) hs1 hp ⟨[], upd_same, rfl, by simp, .nil, .nil⟩).wipe vs, Nat.zero_le _, by simpa using q1⟩, ?_⟩
  rintro i m Hh ⟨rfl, hi, c', st', acc, mk, hal, q2⟩
  by_cases hlt : i < xs.length
  · refine .inr ⟨jr.go i c' Hh mk.stp hlt, fun H' => ∃ c' st' acc, MkS X fi c1 H1 p c' H' (L2.wipe σ vs) { st' with ρ := wipeS st'.ρ vs } (.dct acc.1 acc.2) ∧ acc.1.length ≤ i + 1 ∧ okR (dcLoop putT F (xs.drop (i + 1)) acc st') Fin,
      fun H' w => ⟨xs.length - (i + 1), by omega, rfl, hlt, w⟩, fun x H' y => ?_⟩
    have ed : xs[i]? = some xs[i] := List.getElem?_eq_getElem hlt
    obtain ⟨mk, rx⟩ := mk.item (jr.yld i _ c' Hh x H' mk.stp ed y)
    obtain ⟨ws, hw, ew0, kt0, ra0, rw_⟩ := mk.own.cell
    rw [List.drop_eq_getElem_cons hlt] at q2
    simp only [dcLoop] at q2
    rw [okR_bind] at q2
    have hFx : F xs[i] st' = (Res.of (assignTg tg xs[i] (wipeS st'.ρ vs))).bind fun ρ => (evs call ifs { st' with ρ := ρ }).bind fun (bs, s) =>
      guardB bs ((ev call k s).bind fun (y, s) => (ev call e s).bind fun (z, s) => (Res.of (tupK y)).bind fun k => .ok (some (k, z), s)) (.ok (none, s)) := by rw [← hF]; rfl
    rw [hFx, okR_of] at q2
    obtain ⟨ρ, eρ, q3⟩ := q2
    rw [okR_bind] at q3
    refine ⟨fi.plus p (rawT X.prog X.w p ws), c', _, _, ρ, mk.into hw, rx, eρ, fun σ2 s4 same => ?_⟩
    have ew : L2.wipe σ2 vs = L2.wipe σ vs := (wipe_congr same hv).trans (wipe_wipe σ vs)
    refine ⟨ew, fi.plus p (rawT X.prog X.w p ws), c', _, s4, q3.mono fun bs s5 q5 => ?_⟩
    obtain ⟨b, hb, q5⟩ := okR_guard q5
    refine ⟨b, hb, fun c6 H6 s6 p6 => ?_⟩
    cases b with
    | false =>
      obtain ⟨mk6, _⟩ := mk.back hw s6 p6
      have mk6 := mk6.wipe vs
      rw [ew] at mk6
      refine ⟨c6, s5, acc, mk6, by omega, ?_⟩
      exact q5
    | true =>
      simp only [if_true] at q5
      rw [okR_bind] at q5
      refine ⟨fi.plus p (rawT X.prog X.w p ws), c6, s5, s6, q5.mono fun dy s7 q7 c7 H7 yv hs7 p7 r7 => ?_⟩
      rw [okR_bind] at q7
      refine ⟨fi.plus p (rawT X.prog X.w p ws), c7, s7, hs7, q7.mono fun dz s8 q8 c8 H8 zv hs8 p8 r8 => ?_⟩
      rw [okR_of] at q8
      obtain ⟨k0, hk0, q9⟩ := q8
      have q9 : okR (dcLoop putT F (xs.drop (i + 1)) (putT acc.1 acc.2 k0 dz) s8) Fin := q9
      unfold tupK at hk0
      split at hk0
      · rename_i hkt
        cases hk0
        obtain ⟨mk8, h8⟩ := mk.back hw hs8 ((p6.trans p7).trans p8)
        have hl : ws.length ≤ i := by
          have := congrArg List.length ew0
          simp at this
          omega
        obtain ⟨ws', hw', ew', kt', ra', rws'⟩ := mk8.own.cell
        have e0 : rawT X.prog X.w p ws = rawT X.prog X.w p ws' := Option.some.inj (h8.symm.trans hw')
        have hl' : ws'.length ≤ i := by
          have := congrArg List.length ew'
          simp at this
          omega
        refine ⟨c8, ws', acc.1, dy, r7.step p8, hkt, hw', ew', kt', ra', Nat.lt_of_lt_of_le (show ws'.length < line by omega) line_le, fun b eb => ?_⟩
        subst eb
        have hlen : acc.2.length = ws'.length := by rw [← rws'.length, List.length_map]
        have g1 := putE_keys ws' acc.2 dy b zv dz hlen
        rw [ew'] at g1
        have g2 := putE_addr (v := zv) (r7.step p8) ew' ra'
        have g3 := putE_vals (k := dy) (a := b) r8 (es := ws') rws'
        rw [ew'] at g3
        have mk9 := (mk8.put (o := rawT X.prog X.w p (putE ws' dy b zv)) (cl' := .dct (putT acc.1 acc.2 dy dz).1 (putT acc.1 acc.2 dy dz).2) ⟨_, upd_same, g1, fun x hx => ?_, by
          rw [← g1]; exact g2.step (.wr mk8.own.A), g3.step (.wr mk8.own.A)⟩).wipe vs
        · rw [ew] at mk9
          have := putT_len acc.1 acc.2 dy dz
          exact ⟨c8, s8, putT acc.1 acc.2 dy dz, mk9, by omega, q9⟩
        · rw [← g1] at hx
          rcases putE_key ws' dy b zv x hx with z | z
          · rw [ew'] at z; exact kt' x z
          · rw [z]; exact hkt
      · cases hk0
  · have e : i = xs.length := by omega
    subst e
    refine .inl ⟨jr.stop c' Hh mk.stp, ?_⟩
    rw [List.drop_length] at q2
    have q2 : Fin acc st' := q2
    have q2 : okR (.ok (.dct acc.1 acc.2, { st' with ρ := backS s1.ρ st'.ρ vs }) : Res (D × St)) _ := q2
    obtain ⟨cl, ecl, q3⟩ := q2
    cases ecl
    obtain ⟨f1', f2'⟩ := mk.fin hs1 ho
    exact q3 c' Hh p f1' (p1.trans mk.stp) f2'
end
end NW
set_option autoImplicit false
set_option linter.all false
set_option maxRecDepth 100000
/-! NwExp5: instances: their fields, their methods, their making; shared lists and dicts. -/
namespace NW
open PySem PyProof.Rows L2

def baseB : Expr → Bool
  | .Call _ [] [] _ => false
  | _ => true
theorem base_ok {o : Expr} {f : Str} {env : Env} {whole : Sem Value} (h : baseB o = true) : attributeBase o f env whole = whole := by
  cases o <;> first | rfl | skip
  rename_i fn args kws pos
  cases args with
  | cons _ _ => cases fn <;> rfl
  | nil =>
    cases kws with
    | cons _ _ => cases fn <;> rfl
    | nil => exact absurd (show false = true from h) Bool.false_ne_true
theorem allOne {env : Env} {pos : Pos} : ∀ {es : List Expr}, es.all notStar = true → (backTo pos (starEach es env)).all (fun x => !x.1) = true
  | [], _ => rfl
  | e :: es, h => by
    simp only [List.all_cons, Bool.and_eq_true] at h
    rw [starN h.1]
    exact allOne (es := es) h.2
theorem meth_eq {env : Env} {o : Expr} {m : Str} {apos pos : Pos} {es : List Expr} (hb : baseB o = true) (hl : (apos.endLine == pos.line) = true) (hs : es.all notStar = true) (hn : es.length < 29) :
    eval (.Call (.Attribute o m apos) es [] pos) env = (do
      let ov ← eval o env
      standAt apos.atName
      let (f, first) ← holding [ov] (getMethod ov m (do return (← importBound o env).getD true))
      callWith pos f first (backTo pos (starEach es env)) (backToKw pos (keywordEach [] env))) := by
  have hform : methodCallForm (es.length + ([] : List Keyword).length) (backTo pos (starEach es env)) (backToKw pos (keywordEach [] env)) = true := by
    unfold methodCallForm
    rw [allOne hs]
    simp [keywordEach, backToKw]
    omega
  have hpos : methodCallPos true o env apos pos = pure pos := by unfold methodCallPos; simp [hl]
  rw [arm_eval_Call, base_ok hb]
  unfold methodCall
  rw [hform, hpos]
  simp [calleeOf]

section
variable {P : Program} {w : World} {K : PySem.W.Frag} {c : Cn} {H : Hp}
theorem getF_rel : ∀ {vs : List (Str × V)} {fs : List (Str × D)} {f : Str}, vs.map (·.1) = fs.map (·.1) → Rps P w K c H (vs.map (·.2)) (fs.map (·.2)) → (∀ d, getF fs f = some d → ∃ v, vs.lookup f = some v ∧ Rp P w K c H v d) ∧ (getF fs f = none → vs.lookup f = none)
  | [], [], f, _, _ => ⟨fun d h => (by cases h), fun _ => rfl⟩
  | (g, v) :: vs, (g', d) :: fs, f, h, r => by
    simp only [List.map_cons, List.cons.injEq] at h
    obtain ⟨rfl, h⟩ := h
    cases r with
    | cons r1 r2 =>
      obtain ⟨i1, i2⟩ := getF_rel (f := f) h r2
      by_cases hg : g = f
      · subst hg
        have e1 : getF ((g, d) :: fs) g = some d := by simp [getF]
        have e2 : ((g, v) :: vs).lookup g = some v := by simp [List.lookup]
        rw [e1, e2]
        exact ⟨fun d' h' => ⟨v, rfl, by cases h'; exact r1⟩, fun z => by cases z⟩
      · have e1 : getF ((g, d) :: fs) f = getF fs f := by simp [getF, hg]
        have e2 : ((g, v) :: vs).lookup f = vs.lookup f := by
          have : (f == g) = false := by simpa using Ne.symm hg
          simp [List.lookup, this]
        rw [e1, e2]
        exact ⟨i1, i2⟩
  | [], _ :: _, _, h, _ => by simp at h
  | _ :: _, [], _, h, _ => by simp at h
theorem setF_rel {f : Str} {y : V} {d : D} (ry : Rp P w K c H y d) : ∀ {vs : List (Str × V)} {fs : List (Str × D)}, vs.map (·.1) = fs.map (·.1) → Rps P w K c H (vs.map (·.2)) (fs.map (·.2)) → (putF f y vs).map (·.1) = (setF fs f d).map (·.1) ∧ Rps P w K c H ((putF f y vs).map (·.2)) ((setF fs f d).map (·.2))
  | [], [], _, _ => ⟨rfl, .cons ry .nil⟩
  | (g, v) :: vs, (g', e) :: fs, h, r => by
    simp only [List.map_cons, List.cons.injEq] at h
    obtain ⟨rfl, h⟩ := h
    cases r with
    | cons r1 r2 =>
      obtain ⟨i1, i2⟩ := setF_rel ry h r2
      by_cases hg : g = f
      · simp only [putF, setF, if_pos hg]
        subst hg
        exact ⟨by simp [h], .cons ry r2⟩
      · simp only [putF, setF, if_neg hg]
        exact ⟨by simp [i1], .cons r1 i2⟩
  | [], _ :: _, h, _ => by simp at h
  | _ :: _, [], h, _ => by simp at h
theorem setF_len (f : Str) (d : D) : ∀ fs : List (Str × D), (setF fs f d).length ≤ fs.length + 1
  | [] => by simp [setF]
  | p :: fs => by
    unfold setF
    split
    · simp
    · have := setF_len f d fs; simp; omega
/-- the instance that a value names, in the heap -/
theorem ins_rel {F : List Cell} {d : D} {v : V} {n : Nat} {cn : Str} {fs : List (Str × D)} (ct : CtR P w K c H F) (r : Rp P w K c H v d) (h : insOf F d = some (n, cn, fs)) :
    ∃ a dx vs, v = .ref a ∧ d = .mref n ∧ c.φ[n]? = some a ∧ H a = some (.ins (He.ga K cn) dx vs) ∧ vs.map (·.1) = fs.map (·.1) ∧ Rps P w K c H (vs.map (·.2)) (fs.map (·.2)) := by
  cases d with
  | mref m =>
    simp only [insOf] at h
    cases e : F[m]? with
    | none => rw [e] at h; cases h
    | some cl =>
      rw [e] at h
      cases cl with
      | ins cn' fs' =>
        cases h
        cases r with
        | mref hn =>
          obtain ⟨a, e1, dx, vs, e2, e3, e4⟩ := ct.cell _ _ e
          rw [hn] at e1; cases e1
          exact ⟨_, dx, vs, rfl, rfl, hn, e2, e3, e4⟩
      | _ => cases h
  | _ => simp [insOf] at h
/-- the shared cell that a value names -/
theorem cell_rel {F : List Cell} {d : D} {v : V} {cl : Cell} (ct : CtR P w K c H F) (r : Rp P w K c H v d) (h : cellAt F d = some cl) :
    ∃ a n, v = .ref a ∧ d = .mref n ∧ c.φ[n]? = some a ∧ F[n]? = some cl ∧ CellR P w K c H a cl := by
  cases d with
  | mref m =>
    simp only [cellAt] at h
    cases e : F[m]? with
    | none => rw [e] at h; cases h
    | some cl' =>
      rw [e] at h
      cases r with
      | mref hn =>
        obtain ⟨a, e1, e2⟩ := ct.cell _ _ e
        rw [hn] at e1; cases e1
        cases cl' with
        | ins _ _ => cases h
        | _ => cases h; exact ⟨_, m, rfl, rfl, hn, e, e2.toR rfl⟩
  | _ => simp [cellAt] at h
end

section
variable {X : Cx} {fi : Fi} {call : Call} {c : Cn} {σ : L2.St} {H : Hp} {st : St} {Q : VK}
/-! ### fields -/
theorem red_attr {a : E} {cn f : Str} {Q : VK} (hc : Cls X.K (He.ga X.K cn)) (hn : NoAttr X.K (He.ga X.K cn) f) (q : tD X fi call (.attr a cn f) σ H Q) : tFld X.K (tD X fi call a) f σ H Q := by
  obtain ⟨c, st, hs, q⟩ := q
  unfold ev at q
  rw [okR_bind] at q
  refine ⟨c, st, hs, q.mono fun d st1 q1 c1 H1 x s1 p1 r1 => ?_⟩
  dsimp only at q1
  cases e : insOf st1.F d with
  | none => rw [e] at q1; exact q1.elim
  | some t =>
    obtain ⟨n, cn', fs⟩ := t
    rw [e] at q1
    dsimp only at q1
    split at q1
    · rename_i ec
      subst ec
      have q1 := okR_of.mp q1
      obtain ⟨z, hz, q2⟩ := q1
      obtain ⟨b, dx, vs, rfl, rfl, e1, e2, e3, e4⟩ := ins_rel s1.ct r1 e
      obtain ⟨v, h1, h2⟩ := (getF_rel (f := f) e3 e4).1 z hz
      exact ⟨b, _, dx, vs, v, rfl, e2, hc, hn, h1, q2 c1 H1 v s1 p1 h2⟩
    · exact q1.elim
/-! ### methods -/
def tMethS (C : Addr) (m : Str) (sp : Sp) (E : L2.St → XK) (ta : TE) (t : TA) : TE := fun σ H Q => ta σ H fun x H1 => ∃ a dx fs, x = .ref a ∧ H1 a = some (.ins C dx fs) ∧ fs.lookup m = none ∧ t σ H1 fun vs H2 => sp (x :: vs) H2 Q (E σ)
theorem pe_methS {o : Expr} {m : Str} {apos pos : Pos} {es : List Expr} {ta : TE} {t : TA} {C f : Addr} {fd : FuncData} {ps : List Str} {sp : Sp} {CX : CXT} {k : Nat} {E : L2.St → XK} (he : PE X o ta) (c : Cls X.K C) (hm : Meth X.K C m f) (F : FnOk X.prog X.w X.K X.mg X.base CX k f fd ps sp) (hr : Room k X.A) (hb : Binds X.K fd ps [])
    (hx : ∀ σ, PassesAt CX X σ (E σ)) (ha : PA X es t) (h0 : es = [] → ∀ σ H R, t σ H R → R [] H) (hbase : baseB o = true) (hl : (apos.endLine == pos.line) = true) (hs : es.all notStar = true) (hn : es.length < 29) :
    PE X (.Call (.Attribute o m apos) es [] pos) (tMethS C m sp E ta t) := by
  refine ⟨fun pins s σ H Q I h => ?_⟩
  refine PySem.W.methodCall_KW (pl := do return (← importBound o X.env).getD true) (thn (he.run pins s σ H _ I h) fun u s1 ⟨x, H1, I1, rx, a, dx, fs, ex, ea, l, q⟩ => ?_) (meth_eq hbase hl hs hn)
  subst ex
  obtain rfl : u = Value.ref a := rx
  refine getmeth_ok I1 ea c hm l ?_
  cases es with
  | nil =>
    have q := h0 rfl _ _ _ q
    exact PySem.W.callWith_K0 (first := [.ref a]) I1.kIn hm.kp (run_fnS (us := [.ref a]) (vs := [.ref a]) F hr hb (hx σ) I1 (.cons rfl .nil) q)
  | cons e es =>
    simp only [List.all_cons, Bool.and_eq_true] at hs
    refine PySem.W.callWith_K (first := [.ref a]) (h₀ := X.base) I.ok.mod.kin hm.kp (thn (ha.run pos pins s1 σ H1 _ I1 q) fun us s2 ⟨vs, H2, I2, r, q2⟩ => ⟨I2.kIn, ?_⟩) (starN hs.1) (backOne (e := e) hs.2)
    exact run_fnS (us := .ref a :: us) (vs := .ref a :: vs) F hr hb (hx σ) I2 (.cons rfl r) q2
/-! ### making -/
def tMakeS (C : Addr) (sp : Sp) (E : L2.St → XK) (t : TA) : TE := fun σ H Q => t σ H fun vs H1 => ∀ x dx, H1 x = none → H1 dx = none → dx ≠ x → sp (.ref x :: vs) (upd (upd H1 dx (.own x)) x (.ins C dx [])) (fun v H2 => v = .non ∧ Q (.ref x) H2) (E σ)
theorem run_makeS {C f : Addr} {fd : FuncData} {ps : List Str} {sp : Sp} {CX : CXT} {k : Nat} {E : L2.St → XK} {pins : List (Addr × Obj)} {s : Shared} {us : List Value} {vs : List V} (M : Mk X.K C f) (F : FnOk X.prog X.w X.K X.mg X.base CX k f fd ps sp) (hr : Room (k + 1) X.A) (hb : Binds X.K fd ps [])
    (hx : PassesAt CX X σ (E σ)) (I : Inv X pins σ H s) (r : Vals vs us)
    (h : ∀ x dx, H x = none → H dx = none → dx ≠ x → sp (.ref x :: vs) (upd (upd H dx (.own x)) x (.ins C dx [])) (fun v H2 => v = .non ∧ Q (.ref x) H2) (E σ)) :
    wpAny (model X.prog X.w) X.A (PySem.call (.ref C) us) (EP X pins σ Q) X.xe s := by
  have hq := h (s.heap.objs.size + 1) s.heap.objs.size (I.hok.fresh (Nat.le_succ _)) (I.hok.fresh (Nat.le_refl _)) (Nat.ne_of_lt (Nat.lt_succ_self _))
  have I2 := Inv.made (C := C) I
  have r2 : Vals (V.ref (s.heap.objs.size + 1) :: vs) (Value.ref (s.heap.objs.size + 1) :: us) := .cons rfl r
  have hl : ((Value.ref (s.heap.objs.size + 1) :: us) ++ []).length = ps.length := by
    have e := r2.length
    rw [F.len _ _ _ _ hq] at e
    rw [List.append_nil]
    exact e.symm
  have b := hb _ (Value.ref (s.heap.objs.size + 1) :: us) I2.kIn hl
  rw [List.append_nil] at b
  refine wpAny_call (make_map (f := f) I.kIn M.makes M.init (beq_iff_eq.mp M.fn) (codeAny_mono (F.run _ X.stack _ _ ⟨Value.ref (s.heap.objs.size + 1) :: us, []⟩ (Value.ref (s.heap.objs.size + 1) :: us) _ _ (E σ) (hr.make C us [])
    (I2.env0.make C us []) b r2 hq) fun r s' hq' => ?_))
  cases r with
  | error e => exact hx pins _ _ e s' I2 hq'
  | ok fl =>
    cases fl with
    | ret u =>
      obtain ⟨v, H', I3, rv, ev, q3⟩ := I2.after hq'
      subst ev
      exact ⟨rv, ⟨V.ref (s.heap.objs.size + 1), H', I3, rfl, q3⟩⟩
    | next => exact False.elim hq'
    | brk => exact False.elim hq'
    | cont => exact False.elim hq'
theorem pe_makeS {C f : Addr} {fd : FuncData} {ps : List Str} {sp : Sp} {CX : CXT} {k : Nat} {E : L2.St → XK} {x : Str} {p pos : Pos} {es : List Expr} {t : TA} (M : Mk X.K C f) (F : FnOk X.prog X.w X.K X.mg X.base CX k f fd ps sp) (hr : Room (k + 1) X.A) (hg : Gl X x) (hm : X.mg x = some (.ref C)) (hb : Binds X.K fd ps []) (hx : ∀ σ, PassesAt CX X σ (E σ))
    (ha : PA X es t) (h0 : es = [] → ∀ σ H R, t σ H R → R [] H) (hdb : (x == ("__debug__" : Str)) = false) (hs : es.all notStar = true) : PE X (.Call (.Name x p) es [] pos) (tMakeS C sp E t) := by
  refine ⟨fun pins s σ H Q I h => ?_⟩
  refine wpAny_Call_Name_kw (ld_glob I hg hm ?_ hdb)
  cases es with
  | nil =>
    have h := h0 rfl _ _ _ h
    exact PySem.W.callWith_K0 I.kIn M.kp (run_makeS (us := []) M F hr hb (hx σ) I .nil h)
  | cons e es =>
    simp only [List.all_cons, Bool.and_eq_true] at hs
    refine PySem.W.callWith_K (h₀ := X.base) I.ok.mod.kin M.kp (thn (ha.run pos pins s σ H _ I h) fun us s1 ⟨vs, H1, I1, r, q⟩ => ⟨I1.kIn, ?_⟩) (starN hs.1) (backOne (e := e) hs.2)
    exact run_makeS M F hr hb (hx σ) I1 r q
theorem tDs_nil {R : List V → Hp → Prop} (h : tDs X fi call [] σ H R) : R [] H := by
  obtain ⟨c, st, hs, q⟩ := h
  unfold evs at q
  exact q c H [] hs (.refl c H) .nil
/-- a method's call -/
theorem red_meth {a : E} {cn m : Str} {f : Nat} {es : List E} {Q : VK} (q : tD X fi call (.meth a cn m f es) σ H Q) : tMethS (He.ga X.K cn) m (fun vs H Q E => SpF X.prog X.w X.K call f vs H Q E) (fun _ _ _ _ => False) (tD X fi call a) (tDs X fi call es) σ H Q := by
  obtain ⟨c, st, hs, q⟩ := q
  unfold ev at q
  rw [okR_bind] at q
  refine ⟨c, st, hs, q.mono fun d st1 q1 c1 H1 x s1 p1 r1 => ?_⟩
  dsimp only at q1
  cases e : insOf st1.F d with
  | none => rw [e] at q1; exact q1.elim
  | some t =>
    obtain ⟨n, cn', fs⟩ := t
    rw [e] at q1
    dsimp only at q1
    split at q1
    · rename_i ec
      obtain ⟨rfl, hg⟩ := ec
      obtain ⟨b, dx, vs, rfl, rfl, e1, e2, e3, e4⟩ := ins_rel s1.ct r1 e
      refine ⟨b, dx, vs, rfl, e2, (getF_rel (f := m) e3 e4).2 hg, c1, st1, s1, ?_⟩
      rw [okR_bind] at q1
      exact q1.mono fun ds st2 q2 c2 H2 ws s2 p2 r2 => spf_fin s2 (.cons (r1.step p2) r2) (p1.trans p2) q2
    · exact q1.elim
/-- a new instance -/
theorem spf_new {cn : Str} {f : Nat} {ds : List D} {vs : List V} {c0 : Cn} {H0 : Hp} {Q : VK} {E : XK} (hs : SR X fi c σ H st) (r : RPs X c H vs ds) (p0 : Stp c0 H0 c H)
    (q : match newR call cn f ds st with
      | .ok a => ∀ c' H' v, SR X fi c' σ H' a.2 → Stp c0 H0 c' H' → RP X c' H' v a.1 → Q v H'
      | .exc x s' => ∀ c' H', SR X fi c' σ H' s' → E (.ref (He.ga X.K x)) none H'
      | .err => False) (x dx : Addr) (hx : H x = none) (hdx : H dx = none) (ne : dx ≠ x) :
    SpF X.prog X.w X.K call f (.ref x :: vs) (upd (upd H dx (.own x)) x (.ins (He.ga X.K cn) dx [])) (fun v H2 => v = .non ∧ Q (.ref x) H2) E := by
  have s1 : SR X fi c σ (upd H dx (.own x)) st := hs.new hdx
  have hx' : (upd H dx (.own x)) x = none := by rw [upd_ne (Ne.symm ne)]; exact hx
  have s2 : SR X fi ((c.plus x).share x) σ (upd (upd H dx (.own x)) x (.ins (He.ga X.K cn) dx [])) { st with F := st.F ++ [.ins cn []] } := StR.newIns s1 hx'
  have p2 : Stp c H ((c.plus x).share x) (upd (upd H dx (.own x)) x (.ins (He.ga X.K cn) dx [])) := ((Stp.new hdx).trans (.newP hx')).trans (.share x)
  have hφ : ((c.plus x).share x).φ[st.F.length]? = some x := by
    show (c.φ ++ [x])[st.F.length]? = _
    rw [← hs.ct.flen]
    simp
  refine ⟨_, .mref st.F.length :: ds, st.F ++ [.ins cn []], .cons (.mref hφ) (r.step p2), s2.ct, ?_⟩
  unfold newR at q
  cases e : call f (.mref st.F.length :: ds) (st.F ++ [.ins cn []]) with
  | ok d fr F' =>
    rw [e] at q
    dsimp only at q
    cases d with
    | non =>
      intro c' H' v ct cs rt
      have hv : v = .non := by
        cases fr with
        | false => cases (show Rp X.prog X.w X.K c' H' v .non from rt); rfl
        | true => obtain ⟨_, _, _, z, _⟩ := rt; cases z
      subst hv
      refine ⟨rfl, q c' H' (.ref x) (s2.afterCall ct cs) ((p0.trans p2).trans (cs.stp s2.ct)) (.mref ?_)⟩
      obtain ⟨t, et⟩ := cs.pre
      rw [← et, List.getElem?_append_left (List.getElem?_eq_some_iff.mp hφ).1]
      exact hφ
    | _ => exact q.elim
  | exc y F' =>
    rw [e] at q
    exact fun c' H' ct cs => q c' H' (s2.afterCall ct cs)
  | err => rw [e] at q; exact q.elim
theorem red_new {cn : Str} {f : Nat} {es : List E} {Q : VK} (q : tD X fi call (.new cn f es) σ H Q) : tMakeS (He.ga X.K cn) (fun vs H Q E => SpF X.prog X.w X.K call f vs H Q E) (fun _ _ _ _ => False) (tDs X fi call es) σ H Q := by
  obtain ⟨c, st, hs, q⟩ := q
  unfold ev at q
  rw [okR_bind] at q
  refine ⟨c, st, hs, q.mono fun ds st1 q1 c1 H1 xs s1 p1 r1 x dx hx hdx ne => ?_⟩
  refine spf_new s1 r1 p1 ?_ x dx hx hdx ne
  dsimp only at q1
  cases e : newR call cn f ds st1 with
  | ok a => rw [e] at q1; exact q1
  | exc _ _ => rw [e] at q1; exact q1.elim
  | err => rw [e] at q1; exact q1.elim

/-! ### shared lists and dicts -/
theorem red_inM {n : Bool} {a b : E} {Q : VK} (q : tD X fi call (.inM n a b) σ H Q) : tOp (rCmp X (bIn n)) (tD X fi call a) (tD X fi call b) σ H Q := by
  obtain ⟨c, st, hs, q⟩ := q
  unfold ev at q
  rw [okR_bind] at q
  refine ⟨c, st, hs, q.mono fun d st1 q1 c1 H1 x s1 p1 r1 => ⟨c1, st1, s1, ?_⟩⟩
  rw [okR_bind] at q1
  refine q1.mono fun e st2 q2 c2 H2 y s2 p2 r2 => ?_
  dsimp only at q2
  cases ec : cellAt st2.F e with
  | none => rw [ec] at q2; exact q2.elim
  | some cl =>
    rw [ec] at q2
    obtain ⟨r, hr, q3⟩ := okR_of.mp q2
    obtain ⟨o, m, rfl, rfl, _, _, hc⟩ := cell_rel s2.ct r2 ec
    obtain ⟨c3, p3, r3⟩ := held_rp (X := X) (.inr ⟨o, cl, rfl, hc, rfl⟩)
    exact ⟨c3, d, cl.d, r, (r1.step p2).step p3, r3, hr, q3 c2 H2 _ s2 (p1.trans p2) (.bl r)⟩
theorem red_eqM {n : Bool} {a b : E} {Q : VK} (q : tD X fi call (.eqM n a b) σ H Q) : tOp (rCmp X (bEq n)) (tD X fi call a) (tD X fi call b) σ H Q := by
  obtain ⟨c, st, hs, q⟩ := q
  unfold ev at q
  rw [okR_bind] at q
  refine ⟨c, st, hs, q.mono fun d st1 q1 c1 H1 x s1 p1 r1 => ⟨c1, st1, s1, ?_⟩⟩
  rw [okR_bind] at q1
  refine q1.mono fun e st2 q2 c2 H2 y s2 p2 r2 => ?_
  dsimp only at q2
  cases ec : cellAt st2.F d with
  | none => rw [ec] at q2; exact q2.elim
  | some cl =>
    rw [ec] at q2
    obtain ⟨r, hr, q3⟩ := okR_of.mp q2
    obtain ⟨o, m, rfl, rfl, _, _, hc⟩ := cell_rel s2.ct (r1.step p2) ec
    obtain ⟨c3, p3, r3⟩ := held_rp (X := X) (.inr ⟨o, cl, rfl, hc, rfl⟩)
    exact ⟨c3, cl.d, e, r, r3, r2.step p3, hr, q3 c2 H2 _ s2 (p1.trans p2) (.bl r)⟩
theorem red_lenM {a : E} {Q : VK} (q : tD X fi call (.lenM a) σ H Q) : tCB (rBi X .len) (tCons (tD X fi call a) tNil) σ H Q := by
  obtain ⟨c, st, hs, q⟩ := q
  unfold ev at q
  rw [okR_bind] at q
  refine ⟨c, st, hs, q.mono fun d st1 q1 c1 H1 x s1 p1 r1 => ?_⟩
  dsimp only at q1
  cases ec : cellAt st1.F d with
  | none => rw [ec] at q1; exact q1.elim
  | some cl =>
    rw [ec] at q1
    obtain ⟨n, hn, q3⟩ := okR_of.mp q1
    obtain ⟨o, m, rfl, rfl, _, _, hc⟩ := cell_rel s1.ct r1 ec
    exact ⟨c1, [cl.d], .int n, .inl ⟨_, _, rfl, rfl, .inr ⟨o, cl, rfl, hc, rfl⟩⟩, by show (lenD cl.d).map _ = _; rw [hn]; rfl, fun z H' u => u.fin s1 p1 q3⟩
theorem red_cpM {b : Bi} {a : E} {Q : VK} (q : tD X fi call (.cpM b a) σ H Q) : tCB (rBi X b) (tCons (tD X fi call a) tNil) σ H Q := by
  obtain ⟨c, st, hs, q⟩ := q
  unfold ev at q
  rw [okR_bind] at q
  refine ⟨c, st, hs, q.mono fun d st1 q1 c1 H1 x s1 p1 r1 => ?_⟩
  dsimp only at q1
  cases ec : cellAt st1.F d with
  | none => rw [ec] at q1; exact q1.elim
  | some cl =>
    rw [ec] at q1
    obtain ⟨n, hn, q3⟩ := okR_of.mp q1
    obtain ⟨o, m, rfl, rfl, _, _, hc⟩ := cell_rel s1.ct r1 ec
    exact ⟨c1, [cl.d], n, .inl ⟨_, _, rfl, rfl, .inr ⟨o, cl, rfl, hc, rfl⟩⟩, hn, fun z H' u => u.fin s1 p1 q3⟩
theorem ownM {F : List Cell} {n : Nat} (h : ¬ ownL ((F[n]?).map Slot.own) = false) : ∃ xs, F[n]? = some (.lst xs) := by
  cases e : F[n]? with
  | none => rw [e] at h; exact absurd rfl h
  | some cl =>
    rw [e] at h
    cases cl with
    | lst xs => exact ⟨xs, rfl⟩
    | _ => exact absurd rfl h
theorem red_appM {a e : E} {Q : VK} (q : tD X fi call (.appM a e) σ H Q) : tBM X.K "list" rAppend (tD X fi call a) (tDs X fi call [e]) σ H Q := by
  obtain ⟨c, st, hs, q⟩ := q
  unfold ev at q
  rw [okR_bind] at q
  refine ⟨c, st, hs, q.mono fun d st1 q1 c1 H1 x s1 p1 r1 => ?_⟩
  dsimp only at q1
  cases d with
  | mref n =>
    dsimp only at q1
    split at q1
    · exact q1.elim
    rename_i ho
    obtain ⟨ys, ey⟩ := ownM ho
    cases r1 with
    | @mref ob _ hn =>
      obtain ⟨b, f1, f2⟩ := s1.ct.cell n _ ey
      rw [hn] at f1; cases f1
      obtain ⟨us, f3, f4⟩ := f2.toR rfl
      rw [okR_bind] at q1
      refine ⟨.inl ⟨rfl, us, SqL.of f3⟩, c1, st1, s1, okR_evs1.mpr (q1.mono fun y st2 q2 c2 H2 vs s2 p2 r2 => ?_)⟩
      cases r2 with
      | cons r2 r0 =>
        cases r0
        dsimp only at q2
        cases e : st2.F[n]? with
        | none => rw [e] at q2; exact q2.elim
        | some cl =>
          rw [e] at q2
          cases cl with
          | lst xs =>
            dsimp only at q2
            split at q2
            · rename_i hl
              have hn2 : c2.φ[n]? = some ob := by
                obtain ⟨t, et⟩ := p2.pre
                rw [← et, List.getElem?_append_left (List.getElem?_eq_some_iff.mp hn).1]
                exact hn
              obtain ⟨b2, g1, g2⟩ := s2.ct.cell n _ e
              rw [hn2] at g1; cases g1
              obtain ⟨ws, g3, g4⟩ := g2.toR rfl
              have hA := s2.ct.fA _ (List.mem_of_getElem? hn2)
              refine ⟨_, ws, _, rfl, rfl, g3, by rw [g4.length]; exact Nat.lt_of_lt_of_le hl line_le, ?_⟩
              exact q2 c2 _ .non (s2.chgF hn2 ⟨_, upd_same, (g4.append (.cons r2 .nil)).step (.wr hA)⟩) ((p1.trans p2).trans (.wr hA)) .non
            · exact q2.elim
          | _ => exact q2.elim
  | _ => exact q1.elim
theorem red_popM {a e : E} {Q : VK} (q : tD X fi call (.popM a e) σ H Q) : tBM X.K "list" rPopAt (tD X fi call a) (tDs X fi call [e]) σ H Q := by
  obtain ⟨c, st, hs, q⟩ := q
  unfold ev at q
  rw [okR_bind] at q
  refine ⟨c, st, hs, q.mono fun d st1 q1 c1 H1 x s1 p1 r1 => ?_⟩
  dsimp only at q1
  cases d with
  | mref n =>
    dsimp only at q1
    split at q1
    · exact q1.elim
    rename_i ho
    obtain ⟨ys, ey⟩ := ownM ho
    cases r1 with
    | @mref ob _ hn =>
      obtain ⟨b, f1, f2⟩ := s1.ct.cell n _ ey
      rw [hn] at f1; cases f1
      obtain ⟨us, f3, f4⟩ := f2.toR rfl
      rw [okR_bind] at q1
      refine ⟨.inl ⟨rfl, us, SqL.of f3⟩, c1, st1, s1, okR_evs1.mpr (q1.mono fun y st2 q2 c2 H2 vs s2 p2 r2 => ?_)⟩
      cases r2 with
      | cons r2 r0 =>
        cases r0
        dsimp only at q2
        cases e : st2.F[n]? with
        | none => rw [e] at q2; exact q2.elim
        | some cl =>
          rw [e] at q2
          cases cl with
          | lst xs =>
            cases y with
            | int k =>
              cases r2
              dsimp only at q2
              split at q2
              · exact q2.elim
              rename_i hl
              have hn2 : c2.φ[n]? = some ob := by
                obtain ⟨t, et⟩ := p2.pre
                rw [← et, List.getElem?_append_left (List.getElem?_eq_some_iff.mp hn).1]
                exact hn
              obtain ⟨b2, g1, g2⟩ := s2.ct.cell n _ e
              rw [hn2] at g1; cases g1
              obtain ⟨ws, g3, g4⟩ := g2.toR rfl
              have hA := s2.ct.fA _ (List.mem_of_getElem? hn2)
              cases ej : ixD xs.length k with
              | none => rw [ej] at q2; exact q2.elim
              | some j =>
                rw [ej] at q2
                dsimp only at q2
                cases ez : xs[j]? with
                | none => rw [ez] at q2; exact q2.elim
                | some z =>
                  rw [ez] at q2
                  obtain ⟨v, hv, rv⟩ := g4.get ez
                  rw [ixD_eq] at ej
                  obtain ⟨k1, k2, k3, k4⟩ := ixN_seq ej
                  have hl : xs.length ≤ 1000000 := by unfold line at hl; omega
                  refine ⟨_, ws, k, j, v, rfl, rfl, g3, by omega, by omega, by rw [g4.length]; exact k1, hv, ?_⟩
                  exact q2 c2 _ v (s2.chgF hn2 ⟨_, upd_same, (g4.eraseIdx j).step (.wr hA)⟩) ((p1.trans p2).trans (.wr hA)) (rv.step (.wr hA))
            | _ => exact q2.elim
          | _ => cases y <;> exact q2.elim
  | _ => exact q1.elim
/-! ### the first place -/
theorem okR_ex' {α : Type} {r : Res (α × St)} {Q : α → St → Prop} (h : okR r Q) : ∃ a s, r = .ok (a, s) ∧ Q a s := by
  cases r with
  | ok a => exact ⟨a.1, a.2, rfl, h⟩
  | exc _ _ => exact h.elim
  | err => exact h.elim
theorem intsOf_inv : ∀ {xs : List D} {ns : List Int}, intsOf xs = some ns → xs = ns.map D.int
  | [], ns, h => by cases h; rfl
  | x :: xs, ns, h => by
    cases x with
    | int i =>
      simp only [intsOf, Option.map_eq_some_iff] at h
      obtain ⟨l, h1, rfl⟩ := h
      rw [intsOf_inv h1]; rfl
    | _ => cases h
theorem red_idxL {a e : E} {Q : VK} (q : tD X fi call (.idx false a e) σ H Q) : tBM X.K "list" (rIndexD X.K) (tD X fi call a) (tDs X fi call [e]) σ H Q := by
  obtain ⟨c, st, hs, q⟩ := q
  unfold ev at q
  rw [okR_bind] at q
  obtain ⟨d, st1, e1, qq⟩ := okR_ex' q
  refine ⟨c, st, hs, ?_⟩
  rw [e1]
  intro c1 H1 x s1 p1 r1
  have qq := okR_bind.mp qq
  obtain ⟨y, st2, e2, q2⟩ := okR_ex' qq
  obtain ⟨j, hj, q3⟩ := okR_of.mp q2
  cases d with
  | lst xs =>
    simp only [idxD, Bool.false_eq_true, if_false] at hj
    split at hj
    · rename_i hd
      rw [Bool.and_eq_true] at hd
      cases r1 with
      | @lst b us _ g1 g2 g3 =>
        refine ⟨.inl ⟨rfl, _, SqL.of g1⟩, c1, st1, s1, okR_evs1.mpr ?_⟩
        rw [e2]
        intro c2 H2 vs s2 p2 r2
        cases r2 with
        | cons r2 r0 =>
          cases r0
          have g1' := p2.keep _ _ g1 g2
          have rl : RP X c2 H2 (.ref b) (.lst xs) := .lst g1' (p2.notA g1 g2) (g3.step p2)
          have dl := Rp.dp 61 (.lst xs) _ hd.2 rl
          have dy := Rp.dp 60 y _ hd.1 r2
          obtain ⟨h1, h2, h3⟩ := List.findIdx?_eq_some_iff_getElem.mp hj
          have das : D.das 60 xs = true := by simpa [D.da] using hd.2
          have dax : ∀ (i : Nat) (h : i < xs.length), D.da 60 xs[i] = true := fun i h => by
            have main : ∀ l : List D, D.das 60 l = true → ∀ z ∈ l, D.da 60 z = true := fun l => by
              induction l with
              | nil => intro _ z hz; cases hz
              | cons a l ih =>
                intro hl z hz
                simp only [D.das, Bool.and_eq_true] at hl
                rcases List.mem_cons.mp hz with rfl | hz
                · exact hl.1
                · exact ih hl.2 z hz
            exact main xs das _ (List.getElem_mem h)
          refine ⟨b, _, y.pd, D.pds xs, j, (xs[j]).pd, rfl, rfl, dl, dy, D.shaped hd.2 (by omega), D.shaped hd.1 (by omega), ?_, ?_, fun m z' hm hz => ?_, q3 c2 H2 _ s2 (p1.trans p2) (.int _)⟩
          · rw [D.pds_map, List.getElem?_map, List.getElem?_eq_getElem h1]; rfl
          · rw [D.eqv_pd 60 60 _ _ (dax j h1) hd.1]; exact h2
          · have hml : m < xs.length := by omega
            rw [D.pds_map, List.getElem?_map, List.getElem?_eq_getElem hml] at hz
            cases hz
            rw [D.eqv_pd 60 60 _ _ (dax m hml) hd.1]
            simpa using h3 m hm
    · cases hj
  | tup xs => simp [idxD] at hj
  | _ => simp [idxD] at hj
end
end NW
set_option autoImplicit false
set_option linter.all false
set_option maxRecDepth 100000
/-! NwChk: is an expression of the program the one that is evaluated? -/
namespace NW
open PySem PyProof.Rows L2

structure Tab where
  fns : List (Str × Nat × List Str × List (Nat × List Str × List Nat))
  gls : List (Str × Int)
  mts : List (Str × Str × Nat × List Str) := []
  cls : List Str := []
  nat : List (Str × Str) := []
  exs : List Str := []
  exn : List (Str × Str) := []

def COp.is : COp → CmpOp → Bool
  | .lt, .Lt | .le, .LtE | .gt, .Gt | .ge, .GtE | .eq, .Eq | .ne, .NotEq | .inn, .In | .nin, .NotIn => true
  | _, _ => false
theorem COp.is_eq {a : COp} {o : CmpOp} (h : a.is o = true) : o = a.py := by
  cases a <;> cases o <;> first | rfl | exact absurd (show false = true from h) Bool.false_ne_true
def BOp.is : BOp → Operator → Bool
  | .add, .Add | .sub, .Sub | .mul, .Mult | .fdiv, .FloorDiv | .mod, .Mod | .pow, .Pow => true
  | _, _ => false
theorem BOp.is_eq {a : BOp} {o : Operator} (h : a.is o = true) : o = a.py := by
  cases a <;> cases o <;> first | rfl | exact absurd (show false = true from h) Bool.false_ne_true
def isOp (n : Bool) : CmpOp → Bool
  | .Is => !n
  | .IsNot => n
  | _ => false

def visB (sc : Scope) (x : Str) : Bool := (match sc.names.lookup x with | some .local => true | some .cell => true | some .free => true | _ => false) && decide ((x == ("__debug__" : Str)) = false) && decide ((x == ("__classdict__" : Str)) = false)
def glB (sc : Scope) (x : Str) : Bool := (match sc.names.lookup x with | some .globalImplicit => true | _ => false) && decide ((x == ("__debug__" : Str)) = false)
def stB (sc : Scope) (x : Str) : Bool := match sc.names.lookup x with | some .local => true | some .cell => true | _ => false
def nmB (N : List Str) (sc : Scope) (i : Nat) (x : Str) : Bool := decide (N[i]? = some x) && visB sc x
def conB : D → Const → Bool
  | .non, .none => true
  | .bl b, .bool c => b == c
  | .int i, .int j => decide (i = j)
  | .str x, .str y => decide (x = y)
  | _, _ => false
def noSetB : Expr → Bool
  | .Set .. => false
  | _ => true
def ixB : Expr → Bool
  | .Slice .. => false
  | .Tuple .. => false
  | _ => true
def isTupB : Expr → Bool
  | .Tuple .. => true
  | _ => false
/-- what is always a new list or dict -/
def isOwn : E → Bool
  | .lst _ | .rngL _ | .lc .. | .lc2 .. | .dci .. | .dct .. | .emp _ | .callo .. => true
  | .bin op _ _ => match op with | .add | .mul => true | _ => false
  | .bi b _ => match b with | .list | .sorted => true | _ => false
  | .cpO b _ => match b with | .list | .sorted => true | _ => false
  | _ => false
def tyB (sc : Scope) (ts : List Ty) : Expr → Bool
  | .Name x _ => match ts with
    | [t] => t.plain && decide (x = t.nm) && glB sc x
    | _ => false
  | .Tuple es _ _ => ts.all Ty.plain && tyNames ts es && decide (ts.length ≤ line) && ts.all fun t => glB sc t.nm && decide (t.nm ∈ bltNames)
  | _ => false
/-- the own names of a block -/
def ownN (N : List Str) (vs : List Nat) : List (Str × Nat) := vs.map fun v => (N.getD v "", v)

mutual
def trE (T : Tab) (N : List Str) : E → Scope → Expr → Bool
  | .var i, sc, e => match e with
    | .Name x _ => nmB N sc i x
    | _ => false
  | .con d, sc, e => match e with
    | .Constant c _ _ => conB d c
    | _ => false
  | .glo x i, sc, e => match e with
    | .Name y _ => decide (y = x) && glB sc x && decide ((x, i) ∈ T.gls)
    | _ => false
  | .tup es, sc, e => match e with
    | .Tuple xs _ _ => decide (xs.length ≤ line) && trEs T N es sc xs
    | _ => false
  | .lst es, sc, e => match e with
    | .List xs _ => decide (xs.length ≤ line) && trEs T N es sc xs
    | _ => false
  | .bin op a b, sc, e => match e with
    | .BinOp x o y _ => op.is o && trE T N a sc x && trE T N b sc y
    | _ => false
  | .neg a, sc, e => match e with
    | .UnaryOp .USub x _ => trE T N a sc x
    | _ => false
  | .cmp op a b, sc, e => match e with
    | .Compare x [o] [y] _ => op.is o && !(behindInMarks o y) && trE T N a sc x && trE T N b sc y
    | _ => false
  | .chn op op' a b c, sc, e => match e with
    | .Compare x [o, o'] [y, z] _ => op.is o && op'.is o' && !(lastMarks [o, o'] [y, z]) && trE T N a sc x && trE T N b sc y && trE T N c sc z
    | _ => false
  | .isn n a, sc, e => match e with
    | .Compare x [o] [.Constant .none _ _] _ => isOp n o && trE T N a sc x
    | _ => false
  | .isb n a b, sc, e => match e with
    | .Compare x [o] [y] _ => isOp n o && !(behindInMarks o y) && trE T N a sc x && trE T N b sc y
    | _ => false
  | .and a b, sc, e => match e with
    | .BoolOp .And (x :: y :: r) pos => trE T N a sc x && (match r with | [] => trE T N b sc y | _ => trE T N b sc (.BoolOp .And (y :: r) pos))
    | _ => false
  | .or a b, sc, e => match e with
    | .BoolOp .Or (x :: y :: r) pos => trE T N a sc x && (match r with | [] => trE T N b sc y | _ => trE T N b sc (.BoolOp .Or (y :: r) pos))
    | _ => false
  | .not a, sc, e => match e with
    | .UnaryOp .Not x _ => trE T N a sc x
    | _ => false
  | .ife c a b, sc, e => match e with
    | .IfExp z x y _ => trE T N c sc z && trE T N a sc x && trE T N b sc y
    | _ => false
  | .call f es, sc, e => match e with
    | .Call (.Name x _) xs [] _ => glB sc x && (T.fns.any fun p => decide (p.1 = x) && decide (p.2.1 = f)) && trEs T N es sc xs
    | _ => false
  | .callo f es, sc, e => match e with
    | .Call (.Name x _) xs [] _ => glB sc x && (T.fns.any fun p => decide (p.1 = x) && decide (p.2.1 = f)) && trEs T N es sc xs
    | _ => false
  | .callk f pre ix es, sc, e => match e with
    | .Call (.Name x _) xs kws _ => glB sc x && (kwNames kws).all Option.isSome && (T.fns.any fun p => decide (p.1 = x) && decide (p.2.1 = f) && kwOk p.2.2.1 xs.length (kwKs kws) ix && decide ((xs.length, kwKs kws, ix) ∈ p.2.2.2)) && trEs T N pre sc xs && trEs T N es sc (kwExprs kws)
    | _ => false
  | .bi b es, sc, e => match e with
    | .Call (.Name x _) (y :: xs) [] _ => decide (x = b.nm) && glB sc x && trEs T N es sc (y :: xs)
    | _ => false
  | .isi a ts, sc, e => match e with
    | .Call (.Name x _) [y, z] [] _ => decide (x = "isinstance") && glB sc x && notStar y && trE T N a sc y && tyB sc ts z
    | _ => false
  | .sub a i, sc, e => match e with
    | .Subscript x y _ => ixB y && trE T N a sc x && trE T N i sc y
    | _ => false
  | .slc a lo hi, sc, e => match e with
    | .Subscript x (.Slice l h none _) _ => trE T N a sc x && trEs T N lo sc l.toList && trEs T N hi sc h.toList
    | _ => false
  | .rngT a, sc, e => match e with
    | .Call (.Name x _) [.Call (.Name y _) [z] [] _] [] _ => decide (x = "tuple") && glB sc x && decide (y = "range") && glB sc y && notStar z && trE T N a sc z
    | _ => false
  | .rngL a, sc, e => match e with
    | .Call (.Name x _) [.Call (.Name y _) [z] [] _] [] _ => decide (x = "list") && glB sc x && decide (y = "range") && glB sc y && notStar z && trE T N a sc z
    | _ => false
  | .lenO i, sc, e => match e with
    | .Call (.Name x _) [.Name y _] [] _ => decide (x = "len") && glB sc x && nmB N sc i y
    | _ => false
  | .subO n i, sc, e => match e with
    | .Subscript (.Name x _) y _ => ixB y && nmB N sc n x && trE T N i sc y
    | _ => false
  | .inO n a i, sc, e => match e with
    | .Compare x [o] [.Name y _] _ => (bIn n).is o && trE T N a sc x && nmB N sc i y
    | _ => false
  | .eqO n i a, sc, e => match e with
    | .Compare (.Name x _) [o] [y] _ => (bEq n).is o && !(behindInMarks o y) && nmB N sc i x && trE T N a sc y
    | _ => false
  | .cpO b i, sc, e => match e with
    | .Call (.Name x _) [.Name y _] [] _ => decide (x = b.nm) && glB sc x && nmB N sc i y
    | _ => false
  | .app i a, sc, e => match e with
    | .Call (.Attribute (.Name x _) m ap) [y] [] cp => decide (m = "append") && nmB N sc i x && (ap.endLine == cp.line) && notStar y && trE T N a sc y
    | _ => false
  | .ext i a, sc, e => match e with
    | .Call (.Attribute (.Name x _) m ap) [y] [] cp => decide (m = "extend") && nmB N sc i x && (ap.endLine == cp.line) && notStar y && trE T N a sc y
    | _ => false
  | .pop i, sc, e => match e with
    | .Call (.Attribute (.Name x _) m ap) [] [] cp => decide (m = "pop") && nmB N sc i x && (ap.endLine == cp.line)
    | _ => false
  | .popA i a, sc, e => match e with
    | .Call (.Attribute (.Name x _) m ap) [y] [] cp => decide (m = "pop") && nmB N sc i x && (ap.endLine == cp.line) && notStar y && trE T N a sc y
    | _ => false
  | .idx t a b, sc, e => match e with
    | .Call (.Attribute x m ap) [y] [] cp => !t && decide (m = "index") && baseB x && (ap.endLine == cp.line) && notStar y && trE T N a sc x && trE T N b sc y
    | _ => false
  | .lc vs a tg it ifs, sc, e => match e with
    | .ListComp elt [⟨t, i, fs, 0⟩] scope _ => blkC N sc scope (ownN N vs) && noSetB i && trI T N it sc t i && tgOk N (stB scope) tg t && decide (∀ i ∈ tg.vs, i ∈ vs) && decide (ifs.length ≤ 1) && trEs T N ifs (relS scope sc) fs && trE T N a (relS scope sc) elt
    | _ => false
  | .lc2 vs a tg it ifs vs1 tg1 it1 ifs1, sc, e => match e with
    | .ListComp elt [⟨t, i, fs, 0⟩, ⟨t1, i1, fs1, 0⟩] scope _ => blkC N sc scope (ownN N vs) && noSetB i && noSetB i1 && trI T N it sc t i && tgOk N (stB scope) tg t && tgOk N (stB scope) tg1 t1 && decide (∀ i ∈ tg.vs, i ∈ vs) && decide (∀ i ∈ tg1.vs, i ∈ vs1) && decide (∀ i ∈ vs1, i ∈ vs) &&
      decide (ifs.length ≤ 1) && decide (ifs1.length ≤ 1) && trEs T N ifs (relS scope sc) fs && trEs T N ifs1 (relS scope sc) fs1 && trI T N it1 (relS scope sc) t1 i1 && trE T N a (relS scope sc) elt
    | _ => false
  | .dci vs k a tg it ifs, sc, e => match e with
    | .DictComp ky elt [⟨t, i, fs, 0⟩] scope _ => blkC N sc scope (ownN N vs) && noSetB i && trI T N it sc t i && tgOk N (stB scope) tg t && decide (∀ i ∈ tg.vs, i ∈ vs) && decide (ifs.length ≤ 1) && trEs T N ifs (relS scope sc) fs && trE T N k (relS scope sc) ky && trE T N a (relS scope sc) elt
    | _ => false
  | .dct vs k a tg it ifs, sc, e => match e with
    | .DictComp ky elt [⟨t, i, fs, 0⟩] scope _ => blkC N sc scope (ownN N vs) && noSetB i && trI T N it sc t i && tgOk N (stB scope) tg t && decide (∀ i ∈ tg.vs, i ∈ vs) && decide (ifs.length ≤ 1) && trEs T N ifs (relS scope sc) fs && trE T N k (relS scope sc) ky && trE T N a (relS scope sc) elt
    | _ => false
  | .emp _, _, e => match e with
    | .Dict [] [] _ => true
    | _ => false
  | .cell a, sc, e => isOwn a && trE T N a sc e
  | .attr a c f, sc, e => match e with
    | .Attribute x m _ => decide (m = f) && baseB x && decide (c ∈ T.cls) && decide ((c, f) ∈ T.nat) && trE T N a sc x
    | _ => false
  | .meth a c m f es, sc, e => match e with
    | .Call (.Attribute x m' ap) xs [] cp => decide (m' = m) && baseB x && (ap.endLine == cp.line) && decide (xs.length < 29) && decide (c ∈ T.cls) && (T.mts.any fun p => decide (p.1 = c) && decide (p.2.1 = m) && decide (p.2.2.1 = f)) && trE T N a sc x && trEs T N es sc xs
    | _ => false
  | .new c f es, sc, e => match e with
    | .Call (.Name x _) xs [] _ => decide (x = c) && glB sc c && decide (c ∈ T.cls) && (T.mts.any fun p => decide (p.1 = c) && decide (p.2.1 = "__init__") && decide (p.2.2.1 = f)) && trEs T N es sc xs
    | _ => false
  | .inM n a b, sc, e => match e with
    | .Compare x [o] [y] _ => (bIn n).is o && !(behindInMarks o y) && trE T N a sc x && trE T N b sc y
    | _ => false
  | .lenM a, sc, e => match e with
    | .Call (.Name x _) [y] [] _ => decide (x = "len") && glB sc x && notStar y && trE T N a sc y
    | _ => false
  | .appM a b, sc, e => match e with
    | .Call (.Attribute x m ap) [y] [] cp => decide (m = "append") && baseB x && (ap.endLine == cp.line) && notStar y && trE T N a sc x && trE T N b sc y
    | _ => false
  | .popM a b, sc, e => match e with
    | .Call (.Attribute x m ap) [y] [] cp => decide (m = "pop") && baseB x && (ap.endLine == cp.line) && notStar y && trE T N a sc x && trE T N b sc y
    | _ => false
  | .cpM b a, sc, e => match e with
    | .Call (.Name x _) [y] [] _ => decide (x = b.nm) && glB sc x && notStar y && trE T N a sc y
    | _ => false
  | .eqM n a b, sc, e => match e with
    | .Compare x [o] [y] _ => (bEq n).is o && !(behindInMarks o y) && trE T N a sc x && trE T N b sc y
    | _ => false
def trEs (T : Tab) (N : List Str) : List E → Scope → List Expr → Bool
  | [], _, es => match es with
    | [] => true
    | _ => false
  | a :: as, sc, es => match es with
    | [] => false
    | e :: es => notStar e && trE T N a sc e && trEs T N as sc es
def trI (T : Tab) (N : List Str) : I → Scope → Expr → Expr → Bool
  | .it a, sc, _, e => trE T N a sc e
  | .rng a, sc, _, e => match e with
    | .Call (.Name x _) [y] [] _ => decide (x = "range") && glB sc x && notStar y && trE T N a sc y
    | _ => false
  | .rng2 a b, sc, _, e => match e with
    | .Call (.Name x _) [y, z] [] _ => decide (x = "range") && glB sc x && notStar y && notStar z && trE T N a sc y && trE T N b sc z
    | _ => false
  | .enum a, sc, t, e => match e with
    | .Call (.Name x _) [y] [] _ => isTupB t && decide (x = "enumerate") && glB sc x && notStar y && trE T N a sc y
    | _ => false
  | .zip a b, sc, t, e => match e with
    | .Call (.Name x _) [y, z] [] _ => isTupB t && decide (x = "zip") && glB sc x && notStar y && notStar z && trE T N a sc y && trE T N b sc z
    | _ => false
end

/-- a method that may be called -/
def MtI (X : Cx) (call : Call) (c m : Str) (f : Nat) (ps : List Str) : Prop := ∃ a fd k, Meth X.K (He.ga X.K c) m a ∧ (m = "__init__" → Mk X.K (He.ga X.K c) a) ∧ FnAt X call f a fd ps [] k
/-- an error's class -/
structure ExcI (X : Cx) (c : Str) : Prop where
  mg : X.mg c = some (.ref (He.ga X.K c))
  exc : PySem.W.excIn X.K (He.ga X.K c) He.veBase "ValueError.__new__" = true
  keep : PySem.W.keepIn X.K (.ref (He.ga X.K c)) = true
  sub : PySem.W.subIn X.K (.ref (He.ga X.K c)) (.type "BaseException") = some true
  ty : PySem.W.typeIn X.K (.ref (He.ga X.K c)) = some (.type "type")
  self : PySem.W.exmOne X.K (.ref (He.ga X.K c)) (.ref (He.ga X.K c)) = some true
/-- what the checks lean on in the context -/
structure Ok (T : Tab) (call : Call) (X : Cx) (sc : Scope) : Prop where
  sc : X.env.scope = sc
  nd : X.N.Nodup
  calm : X.calm = true
  un : X.A.units + 66 < cLine
  bl : ∀ x ∈ bltNames, X.mg x = none
  gl : ∀ p ∈ T.gls, ∃ t, X.mg p.1 = some (.int p.2 t)
  fn : ∀ p ∈ T.fns, FnI X call p.1 p.2.1 p.2.2.1 p.2.2.2
  mt : ∀ p ∈ T.mts, MtI X call p.1 p.2.1 p.2.2.1 p.2.2.2
  cl : ∀ c ∈ T.cls, X.mg c = some (.ref (He.ga X.K c)) ∧ Cls X.K (He.ga X.K c)
  na : ∀ p ∈ T.nat, NoAttr X.K (He.ga X.K p.1) p.2
  ex : ∀ c ∈ T.exs, ExcI X c
  xn : ∀ p ∈ T.exn, PySem.W.exmOne X.K (.ref (He.ga X.K p.1)) (.ref (He.ga X.K p.2)) = some false
theorem Ok.blk {T : Tab} {call : Call} {X : Cx} {sc : Scope} (ok : Ok T call X sc) (scope : Scope) (s : Shared) (H : Hp) (C : Addr) (cl : List (Str × Addr)) (fp : List Addr) : Ok T call (X.blk s H scope (compEnvC scope cl C X.env) fp) (relS scope sc) := by
  refine ⟨by rw [← ok.sc]; rfl, ok.nd, ok.calm, ok.un, ok.bl, ok.gl, fun p hp => ?_, fun p hp => ?_, ok.cl, ok.na, fun c hc => ?_, ok.xn⟩
  · obtain ⟨a, fd, k, h1, h2⟩ := ok.fn p hp
    exact ⟨a, fd, k, h1, ⟨h2.keep, h2.ok, h2.room, h2.pos, h2.kw⟩⟩
  · obtain ⟨a, fd, k, h0, h1, h2⟩ := ok.mt p hp
    exact ⟨a, fd, k, h0, h1, ⟨h2.keep, h2.ok, h2.room, h2.pos, h2.kw⟩⟩
  · have := ok.ex c hc
    exact ⟨this.mg, this.exc, this.keep, this.sub, this.ty, this.self⟩
theorem stB_blk {X : Cx} {scope : Scope} {s : Shared} {H : Hp} {C : Addr} {cl : List (Str × Addr)} {fp : List Addr} : StOk (X.blk s H scope (compEnvC scope cl C X.env) fp) (stB scope) := by
  intro x hx
  have e : (compEnvC scope cl C X.env).scope.names = (relS scope X.env.scope).names := rfl
  unfold stB at hx
  unfold L2.Loc
  show ((compEnvC scope cl C X.env).scope.names.lookup x = _ ∨ (compEnvC scope cl C X.env).scope.names.lookup x = _) ∧ ((scope.names.lookup x == some .cell) = true ∨ (compEnvC scope cl C X.env).scope.names.lookup x = _)
  rw [e]
  split at hx
  · rename_i h
    have := lookup_relS_keep (sc := X.env.scope) (k := .local) (by decide) h
    exact ⟨.inl this, .inr this⟩
  · rename_i h
    have := lookup_relS_keep (sc := X.env.scope) (k := .cell) (by decide) h
    exact ⟨.inr this, .inl (by rw [h]; rfl)⟩
  · cases hx
section
variable {T : Tab} {call : Call} {X : Cx} {sc : Scope} {fi : Fi}
theorem nmB_ok (ok : Ok T call X sc) {i : Nat} {x : Str} (h : nmB X.N sc i x = true) : X.N[i]? = some x ∧ Vis X.env.scope x ∧ (x == ("__debug__" : Str)) = false ∧ (x == ("__classdict__" : Str)) = false := by
  unfold nmB visB at h
  simp only [Bool.and_eq_true, decide_eq_true_eq] at h
  obtain ⟨h1, ⟨h2, h3⟩, h4⟩ := h
  refine ⟨h1, ?_, h3, h4⟩
  rw [ok.sc]
  split at h2 <;> first | exact .inl (by assumption) | exact .inr (.inl (by assumption)) | exact .inr (.inr (by assumption)) | cases h2
theorem glB_ok (ok : Ok T call X sc) {x : Str} (h : glB sc x = true) : Gl X x ∧ (x == ("__debug__" : Str)) = false := by
  unfold glB at h
  simp only [Bool.and_eq_true, decide_eq_true_eq] at h
  obtain ⟨h1, h2⟩ := h
  refine ⟨?_, h2⟩
  show X.env.scope.names.lookup x = _
  rw [ok.sc]
  split at h1
  · assumption
  · cases h1
theorem glB_blt (ok : Ok T call X sc) {x : Str} (h : glB sc x = true) (hx : x ∈ bltNames) : Gl X x ∧ X.mg x = none := ⟨(glB_ok ok h).1, ok.bl x hx⟩
theorem Bi.blt (b : Bi) : b.nm ∈ bltNames := by cases b <;> decide
theorem Ty.blt (t : Ty) (h : t.plain = true) : t.nm ∈ bltNames := by cases t <;> first | exact absurd (show false = true from h) Bool.false_ne_true | decide
theorem mt_any (ok : Ok T call X sc) {c m : Str} {f : Nat} (h : (T.mts.any fun p => decide (p.1 = c) && decide (p.2.1 = m) && decide (p.2.2.1 = f)) = true) : ∃ ps, MtI X call c m f ps := by
  obtain ⟨p, hp, h⟩ := List.any_eq_true.mp h
  simp only [Bool.and_eq_true, decide_eq_true_eq] at h
  obtain ⟨⟨rfl, rfl⟩, rfl⟩ := h
  exact ⟨_, ok.mt p hp⟩
theorem fn_any (ok : Ok T call X sc) {x : Str} {f : Nat} (h : (T.fns.any fun p => decide (p.1 = x) && decide (p.2.1 = f)) = true) : ∃ ps kt, FnI X call x f ps kt := by
  obtain ⟨p, hp, h⟩ := List.any_eq_true.mp h
  simp only [Bool.and_eq_true, decide_eq_true_eq] at h
  obtain ⟨rfl, rfl⟩ := h
  exact ⟨_, _, ok.fn p hp⟩
end
end NW
set_option autoImplicit false
set_option linter.all false
set_option maxRecDepth 100000
set_option maxHeartbeats 1000000
/-! NwSnd: what is checked is sound: expressions. -/
namespace NW
open PySem PyProof.Rows L2

structure Snd (X : Cx) (call : Call) (e' : Expr) (e : E) : Prop where
  pe : ∀ fi, PE X e' (tD X fi call e)
  pt : ∀ fi, PT X e' (tB (tD X fi call e))
  pw : ∀ fi op xs pos, e' = .BoolOp op xs pos → PW X e' (tB (tD X fi call e))
  po : isOwn e = true → ∀ fi, PE X e' (tOD X fi call e)

def plainT : Expr → Bool
  | .UnaryOp op _ _ => (match op with | .Not => false | _ => true)
  | .BoolOp .. => false
  | .IfExp .. => false
  | .Compare .. => false
  | _ => true
theorem plainT_ok {e : Expr} (h : plainT e = true) (env : Env) : ∀ whole, isTrue e env whole = (do let v ← whole; standAt e.pos; holding [v] (truthy v)) := by
  intro whole
  cases e <;> first
    | rfl
    | exact absurd (show false = true from h) Bool.false_ne_true
    | (rename_i op x p; cases op <;> first | rfl | exact absurd (show false = true from h) Bool.false_ne_true)
def noBool : Expr → Bool
  | .BoolOp .. => false
  | _ => true
section
variable {T : Tab} {call : Call} {X : Cx} {sc : Scope} {fi : Fi} {e : E} {e' : Expr}
theorem Snd.val (pe : ∀ fi, PE X e' (tD X fi call e)) (hp : plainT e' = true) (ho : isOwn e = false) : Snd X call e' e :=
  ⟨pe, fun fi => pt_val (pe fi) (plainT_ok hp X.env), fun fi op xs pos z => (by rw [z] at hp; cases hp), fun z => by rw [ho] at z; cases z⟩
theorem Snd.cmp (pe : ∀ fi, PE X e' (tD X fi call e)) (pt : ∀ fi, PT X e' (tB (tD X fi call e))) (hp : noBool e' = true) (ho : isOwn e = false) : Snd X call e' e :=
  ⟨pe, pt, fun fi op xs pos z => (by subst z; cases hp), fun z => by rw [ho] at z; cases z⟩
theorem Snd.own (po : ∀ fi, PE X e' (tOD X fi call e)) (hp : plainT e' = true) (hc : ∀ s, okR (ev call e s) (fun d _ => (cellOf d).isSome) ∨ ev call e s = .err ∨ ∃ c s', ev call e s = .exc c s') : Snd X call e' e :=
  ⟨fun fi => pe_own (po fi) hc, fun fi => pt_val (pe_own (po fi) hc) (plainT_ok hp X.env), fun fi op xs pos z => (by rw [z] at hp; cases hp), fun _ => po⟩
theorem Snd.both (pe : ∀ fi, PE X e' (tD X fi call e)) (po : ∀ fi, PE X e' (tOD X fi call e)) (hp : plainT e' = true) : Snd X call e' e :=
  ⟨pe, fun fi => pt_val (pe fi) (plainT_ok hp X.env), fun fi op xs pos z => (by rw [z] at hp; cases hp), fun _ => po⟩
/-- a result that is .. when it comes -/
theorem always {α : Type} {r : Res (α × St)} {P : α → Prop} (h : ∀ a s, r = .ok (a, s) → P a) : okR r (fun d _ => P d) ∨ r = .err ∨ ∃ c s', r = .exc c s' := by
  cases r with
  | ok a => exact .inl (h a.1 a.2 rfl)
  | exc c s => exact .inr (.inr ⟨c, s, rfl⟩)
  | err => exact .inr (.inl rfl)
theorem bind_ok_inv {α β : Type} {r : Res α} {k : α → Res β} {b : β} (h : r.bind k = .ok b) : ∃ a, r = .ok a ∧ k a = .ok b := by
  cases r with
  | ok a => exact ⟨a, rfl, h⟩
  | exc _ _ => cases h
  | err => cases h
theorem ixB_ok {b : Expr} (h : ixB b = true) : PlainIx b := by
  intro o i
  cases b <;> first | rfl | exact absurd (show false = true from h) Bool.false_ne_true
theorem trEs_len {N : List Str} : ∀ {es : List E} {sc : Scope} {es' : List Expr}, trEs T N es sc es' = true → es.length = es'.length ∧ es'.all notStar = true
  | [], sc, [], _ => ⟨rfl, rfl⟩
  | e :: es, sc, e' :: es', h => by
    simp only [trEs, Bool.and_eq_true] at h
    obtain ⟨h1, h2⟩ := trEs_len h.2
    exact ⟨by simp [h1], by simp [h.1.1, h2]⟩
  | [], sc, _ :: _, h => by simp [trEs] at h
  | _ :: _, sc, [], h => by simp [trEs] at h
theorem pa_of : ∀ {es : List E} {es' : List Expr}, (∀ (i : Nat) (e : E) (e' : Expr), es[i]? = some e → es'[i]? = some e' → Snd X call e' e) → es.length = es'.length → es'.all notStar = true → PA X es' (tDs X fi call es)
  | [], [], _, _, _ => pa_nilD
  | e :: es, e' :: es', h, hl, hs => by
    simp only [List.all_cons, Bool.and_eq_true] at hs
    exact pa_consD ((h 0 e e' rfl rfl).pe fi) (pa_of (fun i a b e1 e2 => h (i + 1) a b e1 e2) (by simpa using hl) hs.2) hs.1
  | [], _ :: _, _, hl, _ => by simp at hl
  | _ :: _, [], _, hl, _ => by simp at hl
theorem ownN_map (N : List Str) (vs : List Nat) : (ownN N vs).map (·.2) = vs := by
  unfold ownN
  rw [List.map_map]
  show vs.map (fun v => v) = vs
  simp
theorem pt_ifE {c a b : Expr} {tc ta tb : TT} {pos : Pos} (hc : PT X c tc) (ha : PT X a ta) (hb : PT X b tb) : PT X (.IfExp c a b pos) (fun σ H Q => tc σ H fun k H1 => if k = true then ta σ H1 Q else tb σ H1 Q) := by
  refine ⟨fun pins s σ H Q I h => ?_⟩
  show wpAny _ _ (do if ← isTrue c X.env (eval c X.env) then isTrue a X.env (eval a X.env) else isTrue b X.env (eval b X.env)) _ _ s
  refine wpAny_bind (thn (hc.run pins s σ H _ I h) fun d s1 ⟨H1, I1, q1⟩ => ?_)
  cases d with
  | true => exact ha.run pins s1 σ H1 Q I1 q1
  | false => exact hb.run pins s1 σ H1 Q I1 q1
theorem redT_ife {a b c : E} {σ : L2.St} {H : Hp} {Q : Bool → Hp → Prop} (q : tB (tD X fi call (.ife c a b)) σ H Q) : (tB (tD X fi call c)) σ H fun k H1 => if k = true then (tB (tD X fi call a)) σ H1 Q else (tB (tD X fi call b)) σ H1 Q := by
  have := red_ife q
  exact this
/-- tests of a clause -/
theorem pts_of {ifs : List E} {fs : List Expr} (h : ∀ (i : Nat) (e : E) (e' : Expr), ifs[i]? = some e → fs[i]? = some e' → Snd X call e' e) (hl : ifs.length = fs.length) (h1 : ifs.length ≤ 1) : PTs X fs (tXT X call ifs) := by
  match ifs, fs, hl with
  | [], [], _ => exact pts_x0
  | [e], [e'], _ => exact pts_x1 (h 0 e e' rfl rfl).pt
  | _ :: _ :: _, _, _ => simp at h1
end
end NW
set_option autoImplicit false
set_option linter.all false
set_option maxRecDepth 100000
set_option maxHeartbeats 4000000
/-! NwSnd2: the induction over expressions. -/
namespace NW
open PySem PyProof.Rows L2

section
variable {T : Tab} {call : Call} {X : Cx} {sc : Scope} {fi : Fi} {e : E} {e' : Expr}
theorem cell_lst {es : List E} : ∀ s, okR (ev call (.lst es) s) (fun d _ => (cellOf d).isSome) ∨ ev call (.lst es) s = .err ∨ ∃ c s', ev call (.lst es) s = .exc c s' := fun s => always fun a s' h => by
  unfold ev at h
  obtain ⟨b, _, h⟩ := bind_ok_inv h
  cases h; rfl
theorem cell_rngL {a : E} : ∀ s, okR (ev call (.rngL a) s) (fun d _ => (cellOf d).isSome) ∨ ev call (.rngL a) s = .err ∨ ∃ c s', ev call (.rngL a) s = .exc c s' := fun s => always fun d s' h => by
  unfold ev at h
  obtain ⟨⟨x, s1⟩, _, h⟩ := bind_ok_inv h
  cases x <;> first | (dsimp only at h; split at h <;> first | (cases h; rfl) | cases h) | cases h
theorem cell_lc {vs : List Nat} {a : E} {tg : Tg} {it : I} {ifs : List E} : ∀ s, okR (ev call (.lc vs a tg it ifs) s) (fun d _ => (cellOf d).isSome) ∨ ev call (.lc vs a tg it ifs) s = .err ∨ ∃ c s', ev call (.lc vs a tg it ifs) s = .exc c s' := fun s => always fun d s' h => by
  unfold ev at h
  obtain ⟨⟨x, s1⟩, _, h⟩ := bind_ok_inv h
  dsimp only at h
  split at h
  · cases h
  · obtain ⟨⟨y, s2⟩, _, h⟩ := bind_ok_inv h
    dsimp only at h
    split at h
    · cases h; rfl
    · cases h
theorem cell_lc2 {vs vs1 : List Nat} {a : E} {tg tg1 : Tg} {it it1 : I} {ifs ifs1 : List E} : ∀ s, okR (ev call (.lc2 vs a tg it ifs vs1 tg1 it1 ifs1) s) (fun d _ => (cellOf d).isSome) ∨ ev call (.lc2 vs a tg it ifs vs1 tg1 it1 ifs1) s = .err ∨ ∃ c s', ev call (.lc2 vs a tg it ifs vs1 tg1 it1 ifs1) s = .exc c s' := fun s => always fun d s' h => by
  unfold ev at h
  obtain ⟨⟨x, s1⟩, _, h⟩ := bind_ok_inv h
  dsimp only at h
  split at h
  · cases h
  · obtain ⟨⟨y, s2⟩, _, h⟩ := bind_ok_inv h
    dsimp only at h
    split at h
    · cases h; rfl
    · cases h
theorem cell_dci {vs : List Nat} {k a : E} {tg : Tg} {it : I} {ifs : List E} : ∀ s, okR (ev call (.dci vs k a tg it ifs) s) (fun d _ => (cellOf d).isSome) ∨ ev call (.dci vs k a tg it ifs) s = .err ∨ ∃ c s', ev call (.dci vs k a tg it ifs) s = .exc c s' := fun s => always fun d s' h => by
  unfold ev at h
  obtain ⟨⟨x, s1⟩, _, h⟩ := bind_ok_inv h
  dsimp only at h
  split at h
  · cases h
  · obtain ⟨⟨y, s2⟩, _, h⟩ := bind_ok_inv h
    cases h; rfl
theorem cell_dct {vs : List Nat} {k a : E} {tg : Tg} {it : I} {ifs : List E} : ∀ s, okR (ev call (.dct vs k a tg it ifs) s) (fun d _ => (cellOf d).isSome) ∨ ev call (.dct vs k a tg it ifs) s = .err ∨ ∃ c s', ev call (.dct vs k a tg it ifs) s = .exc c s' := fun s => always fun d s' h => by
  unfold ev at h
  obtain ⟨⟨x, s1⟩, _, h⟩ := bind_ok_inv h
  dsimp only at h
  split at h
  · cases h
  · obtain ⟨⟨y, s2⟩, _, h⟩ := bind_ok_inv h
    cases h; rfl
theorem cell_emp {t : Bool} : ∀ s, okR (ev call (.emp t) s) (fun d _ => (cellOf d).isSome) ∨ ev call (.emp t) s = .err ∨ ∃ c s', ev call (.emp t) s = .exc c s' := fun s => always fun d s' h => by
  unfold ev at h
  cases h
  cases t <;> rfl
theorem cell_callo {f : Nat} {es : List E} : ∀ s, okR (ev call (.callo f es) s) (fun d _ => (cellOf d).isSome) ∨ ev call (.callo f es) s = .err ∨ ∃ c s', ev call (.callo f es) s = .exc c s' := fun s => always fun d s' h => by
  unfold ev at h
  obtain ⟨⟨x, s1⟩, _, h⟩ := bind_ok_inv h
  dsimp only at h
  unfold callO at h
  split at h
  · split at h
    · rename_i z; cases h; exact z
    · cases h
  · cases h
  · cases h
  · cases h
theorem red_emp {t : Bool} {σ : L2.St} {H : Hp} {Q : VK} (q : tOD X fi call (.emp t) σ H Q) : ∀ p, H p = none → Q (.ref p) (upd H p (if t then rawT X.prog X.w p [] else .dK [])) := by
  obtain ⟨c, st, hs, q⟩ := q
  unfold ev at q
  obtain ⟨cl, e, q⟩ := q
  intro p hp
  cases t with
  | true =>
    cases e
    obtain ⟨s1, s2, s3⟩ := SR.newOwn (o := rawT X.prog X.w p []) (cl := .dct [] []) hs hp ⟨[], upd_same, rfl, by simp, .nil, .nil⟩
    exact q _ _ _ s1 s2 s3
  | false =>
    cases e
    obtain ⟨s1, s2, s3⟩ := SR.newOwn (o := .dK []) (cl := .dci [] []) hs hp ⟨[], upd_same, rfl, .nil⟩
    exact q _ _ _ s1 s2 s3
theorem pe_cell {a : E} (h : PE X e' (tOD X fi call a)) : PE X e' (tD X fi call (.cell a)) := by
  refine PE.imp h fun σ H Q ⟨c, st, hs, q⟩ => ?_
  unfold ev at q
  rw [okR_bind] at q
  refine ⟨c, st, hs, q.mono fun d s1 q1 => ?_⟩
  dsimp only at q1
  cases e : cellOf d with
  | none => rw [e] at q1; exact q1.elim
  | some cl =>
    rw [e] at q1
    refine ⟨cl, rfl, fun c' H' a s' p o => ?_⟩
    have q1 : ∀ c' H' v, SR X fi c' σ H' { s1 with F := s1.F ++ [cl] } → Stp c H c' H' → RP X c' H' v (.mref s1.F.length) → Q v H' := q1
    refine q1 (c'.share a) H' _ (s'.shared o) (p.trans (.share a)) (.mref ?_)
    show (c'.φ ++ [a])[s1.F.length]? = some a
    rw [← s'.ct.flen]
    simp
theorem passA (σ : L2.St) : PassesAt (L2.CX X.prog X.w) X σ (fun _ _ _ => False) := fun pins H s e s' I h => passN pins σ H s e s' I h
theorem nil_of {es : List E} {es' : List Expr} (l : es.length = es'.length) : es' = [] → ∀ σ H (R : List V → Hp → Prop), tDs X fi call es σ H R → R [] H := fun e σ H R q => by
  subst e
  cases es with
  | nil => exact tDs_nil q
  | cons _ _ => simp at l
theorem own_plain {N : List Str} {a : E} (h1 : isOwn a = true) (h : trE T N a sc e' = true) : plainT e' = true := by
  cases a <;> first
    | exact absurd (show false = true from h1) Bool.false_ne_true
    | (unfold trE at h; split at h <;> first | rfl | cases h)

mutual
theorem sndE : ∀ (e : E) (sc : Scope) (X : Cx) (e' : Expr), Ok T call X sc → trE T X.N e sc e' = true → Snd X call e' e
  | .var i, sc, X, e', ok, h => by
    unfold trE at h; split at h
    · obtain ⟨h1, h2, h3, h4⟩ := nmB_ok ok h
      exact .val (fun fi => pd_var h1 h2 h3 h4) rfl rfl
    · cases h
  | .con d, sc, X, e', ok, h => by
    unfold trE at h; split at h
    · rename_i c k p
      refine .val (fun fi => ?_) rfl rfl
      have e : ev call (.con d) = fun s => .ok (d, s) := by funext s; unfold ev; rfl
      show PE X _ (tR X fi (ev call (.con d)))
      rw [e]
      cases d <;> cases c <;> first
        | exact absurd (show false = true from h) Bool.false_ne_true
        | exact pd_con pe_non fun _ _ => .non
        | (have h := eq_of_beq h; subst h; exact pd_con pe_bl fun _ _ => .bl _)
        | (have h := of_decide_eq_true h; subst h; exact pd_con pe_int fun _ _ => .int _)
        | (have h := of_decide_eq_true h; subst h; exact pd_con pe_str fun _ _ => .str _)
    · cases h
  | .glo x i, sc, X, e', ok, h => by
    unfold trE at h; split at h
    · rename_i y p
      simp only [Bool.and_eq_true, decide_eq_true_eq] at h
      obtain ⟨⟨rfl, h2⟩, h3⟩ := h
      obtain ⟨t, ht⟩ := ok.gl _ h3
      refine .val (fun fi => ?_) rfl rfl
      have e : ev call (.glo y i) = fun s => .ok (.int i, s) := by funext s; unfold ev; rfl
      show PE X _ (tR X fi (ev call (.glo y i)))
      rw [e]
      exact pd_con (pe_glob (v := .int i) (glB_ok ok h2).1 ht ⟨t, rfl⟩ (glB_ok ok h2).2) fun _ _ => .int _
    · cases h
  | .tup es, sc, X, e', ok, h => by
    unfold trE at h; split at h
    · simp only [Bool.and_eq_true, decide_eq_true_eq] at h
      obtain ⟨h1, h2⟩ := trEs_len h.2
      exact .val (fun fi => pd_tup (pa_of (sndEs es sc X _ ok h.2) h1 h2) h.1 (evs_len es) h1) rfl rfl
    · cases h
  | .lst es, sc, X, e', ok, h => by
    unfold trE at h; split at h
    · simp only [Bool.and_eq_true, decide_eq_true_eq] at h
      obtain ⟨h1, h2⟩ := trEs_len h.2
      exact .own (fun fi => pe_tO (pa_of (sndEs es sc X _ ok h.2) h1 h2) h.1 (evs_len es) h1) rfl cell_lst
    · cases h
  | .bin op a b, sc, X, e', ok, h => by
    unfold trE at h; split at h
    · simp only [Bool.and_eq_true] at h
      obtain ⟨⟨h1, h2⟩, h3⟩ := h
      have ho := BOp.is_eq h1
      subst ho
      have ia := sndE a sc X _ ok h2
      have ib := sndE b sc X _ ok h3
      exact .both (fun fi => PE.imp (pe_op (opr_bin op) (ia.pe fi) (ib.pe fi)) fun σ H Q q => red_bin q) (fun fi => PE.imp (pe_op (opr_bin op) (ia.pe fi) (ib.pe fi)) fun σ H Q q => red_binO q) rfl
    · cases h
  | .neg a, sc, X, e', ok, h => by
    unfold trE at h; split at h
    · have ia := sndE a sc X _ ok h
      exact .val (fun fi => PE.imp (pe_un un_neg (ia.pe fi)) fun σ H Q q => red_neg q) rfl rfl
    · cases h
  | .cmp op a b, sc, X, e', ok, h => by
    unfold trE at h; split at h
    · simp only [Bool.and_eq_true, Bool.not_eq_true'] at h
      obtain ⟨⟨⟨h1, h0⟩, h2⟩, h3⟩ := h
      have ho := COp.is_eq h1
      subst ho
      have ia := sndE a sc X _ ok h2
      have ib := sndE b sc X _ ok h3
      have hu : X.A.units + 65 < cLine := by have := ok.un; omega
      exact .cmp (fun fi => PE.imp (pe_cmpR (opr_cmp hu op) (ia.pe fi) (ib.pe fi) h0) fun σ H Q q => red_cmp q) (fun fi => PT.imp (pt_cmpR (opr_cmp hu op) (ia.pe fi) (ib.pe fi) h0) (tB.imp fun σ H Q q => red_cmp q)) rfl rfl
    · cases h
  | .chn op op' a b c, sc, X, e', ok, h => by
    unfold trE at h; split at h
    · simp only [Bool.and_eq_true, Bool.not_eq_true'] at h
      obtain ⟨⟨⟨⟨⟨h1, h1'⟩, h0⟩, h2⟩, h3⟩, h4⟩ := h
      have ho := COp.is_eq h1
      have ho' := COp.is_eq h1'
      subst ho ho'
      have ia := sndE a sc X _ ok h2
      have ib := sndE b sc X _ ok h3
      have ic := sndE c sc X _ ok h4
      have hu : X.A.units + 65 < cLine := by have := ok.un; omega
      exact .cmp (fun fi => PE.imp (pe_chain (opr_cmp hu op) (opr_cmp hu op') (ia.pe fi) (ib.pe fi) (ic.pe fi) h0) fun σ H Q q => red_chn q) (fun fi => PT.imp (pt_chain (opr_cmp hu op) (opr_cmp hu op') (ia.pe fi) (ib.pe fi) (ic.pe fi) h0) (tB.imp fun σ H Q q => red_chn q)) rfl rfl
    · cases h
  | .isn n a, sc, X, e', ok, h => by
    unfold trE at h; split at h
    · rename_i x o p1 p2 p3
      simp only [Bool.and_eq_true] at h
      obtain ⟨h1, h2⟩ := h
      have ia := sndE a sc X _ ok h2
      have w0 : ∀ fi σ H Q, tD X fi call (.isn false a) σ H Q → tIsN (tD X fi call a) σ H Q := fun fi σ H Q q => by
        have := red_isn q
        show tD X fi call a σ H fun x H1 => Q (V.bl (decide (x = V.non))) H1
        simpa using this
      have w1 : ∀ fi σ H Q, tD X fi call (.isn true a) σ H Q → tNotN (tD X fi call a) σ H Q := fun fi σ H Q q => by
        have := red_isn q
        show tD X fi call a σ H fun x H1 => Q (V.bl (!decide (x = V.non))) H1
        simpa using this
      cases n with
      | false =>
        cases o <;> first | exact absurd (show false = true from h1) Bool.false_ne_true | skip
        exact .cmp (fun fi => PE.imp (pe_cmp (pc_isN (ia.pe fi))) (w0 fi)) (fun fi => PT.imp (pt_cmp (pc_isN (ia.pe fi))) (tB.imp (w0 fi))) rfl rfl
      | true =>
        cases o <;> first | exact absurd (show false = true from h1) Bool.false_ne_true | skip
        exact .cmp (fun fi => PE.imp (pe_cmp (pc_notN (ia.pe fi))) (w1 fi)) (fun fi => PT.imp (pt_cmp (pc_notN (ia.pe fi))) (tB.imp (w1 fi))) rfl rfl
    · cases h
  | .isb n a b, sc, X, e', ok, h => by
    unfold trE at h; split at h
    · rename_i x o y p
      simp only [Bool.and_eq_true, Bool.not_eq_true'] at h
      obtain ⟨⟨⟨h1, h0⟩, h2⟩, h3⟩ := h
      have ia := sndE a sc X _ ok h2
      have ib := sndE b sc X _ ok h3
      have ho : o = (if n then .IsNot else .Is) := by cases n <;> cases o <;> first | rfl | exact absurd (show false = true from h1) Bool.false_ne_true
      subst ho
      exact .cmp (fun fi => PE.imp (pe_cmpR (opr_isb n) (ia.pe fi) (ib.pe fi) h0) fun σ H Q q => red_isb q) (fun fi => PT.imp (pt_cmpR (opr_isb n) (ia.pe fi) (ib.pe fi) h0) (tB.imp fun σ H Q q => red_isb q)) rfl rfl
    · cases h
  | .and a b, sc, X, e', ok, h => by
    unfold trE at h; split at h
    · rename_i x y r pos
      simp only [Bool.and_eq_true] at h
      have ia := sndE a sc X _ ok h.1
      cases r with
      | nil =>
        have ib := sndE b sc X _ ok h.2
        have pw : ∀ fi, PW X (.BoolOp .And [x, y] pos) (tB (tD X fi call (.and a b))) := fun fi => PW.imp (pw_and (ia.pt fi) (pw_and1 (ib.pt fi))) fun σ H Q q => redT_and q
        exact ⟨fun fi => PE.imp (pe_and (ia.pe fi) (pe_one (ib.pe fi))) fun σ H Q q => red_and q, fun fi => (pw fi).pt, fun fi op xs p z => by cases z; exact pw fi, fun z => by cases z⟩
      | cons y2 r =>
        have ib := sndE b sc X _ ok h.2
        have pw : ∀ fi, PW X (.BoolOp .And (x :: y :: y2 :: r) pos) (tB (tD X fi call (.and a b))) := fun fi => PW.imp (pw_and (ia.pt fi) (ib.pw fi _ _ _ rfl)) fun σ H Q q => redT_and q
        exact ⟨fun fi => PE.imp (pe_and (ia.pe fi) (ib.pe fi)) fun σ H Q q => red_and q, fun fi => (pw fi).pt, fun fi op xs p z => by cases z; exact pw fi, fun z => by cases z⟩
    · cases h
  | .or a b, sc, X, e', ok, h => by
    unfold trE at h; split at h
    · rename_i x y r pos
      simp only [Bool.and_eq_true] at h
      have ia := sndE a sc X _ ok h.1
      cases r with
      | nil =>
        have ib := sndE b sc X _ ok h.2
        have pw : ∀ fi, PW X (.BoolOp .Or [x, y] pos) (tB (tD X fi call (.or a b))) := fun fi => PW.imp (pw_or (ia.pt fi) (pw_or1 (ib.pt fi))) fun σ H Q q => redT_or q
        exact ⟨fun fi => PE.imp (pe_or (ia.pe fi) (pe_one (ib.pe fi))) fun σ H Q q => red_or q, fun fi => (pw fi).pt, fun fi op xs p z => by cases z; exact pw fi, fun z => by cases z⟩
      | cons y2 r =>
        have ib := sndE b sc X _ ok h.2
        have pw : ∀ fi, PW X (.BoolOp .Or (x :: y :: y2 :: r) pos) (tB (tD X fi call (.or a b))) := fun fi => PW.imp (pw_or (ia.pt fi) (ib.pw fi _ _ _ rfl)) fun σ H Q q => redT_or q
        exact ⟨fun fi => PE.imp (pe_or (ia.pe fi) (ib.pe fi)) fun σ H Q q => red_or q, fun fi => (pw fi).pt, fun fi op xs p z => by cases z; exact pw fi, fun z => by cases z⟩
    · cases h
  | .not a, sc, X, e', ok, h => by
    unfold trE at h; split at h
    · have ia := sndE a sc X _ ok h
      exact .cmp (fun fi => PE.imp (pe_not (ia.pe fi)) fun σ H Q q => red_not q) (fun fi => PT.imp (pt_not (ia.pt fi)) fun σ H Q q => redT_not q) rfl rfl
    · cases h
  | .ife c a b, sc, X, e', ok, h => by
    unfold trE at h; split at h
    · simp only [Bool.and_eq_true] at h
      obtain ⟨⟨h1, h2⟩, h3⟩ := h
      have ic := sndE c sc X _ ok h1
      have ia := sndE a sc X _ ok h2
      have ib := sndE b sc X _ ok h3
      exact .cmp (fun fi => PE.imp (pe_ifExp (ic.pt fi) (ia.pe fi) (ib.pe fi)) fun σ H Q q => red_ife q) (fun fi => PT.imp (pt_ifE (ic.pt fi) (ia.pt fi) (ib.pt fi)) fun σ H Q q => redT_ife q) rfl rfl
    · cases h
  | .call f es, sc, X, e', ok, h => by
    unfold trE at h; split at h
    · rename_i x p xs pos
      simp only [Bool.and_eq_true] at h
      obtain ⟨⟨h1, h2⟩, h3⟩ := h
      obtain ⟨ps, kt, hf⟩ := fn_any ok (by simpa only [Bool.and_eq_true] using h2)
      obtain ⟨g1, g2⟩ := glB_ok ok h1
      obtain ⟨l1, l2⟩ := trEs_len h3
      have ie := sndEs es sc X _ ok h3
      cases xs with
      | nil =>
        refine .val (fun fi => PE.imp (pe_fn0 hf g1 g2) fun σ H Q q => ?_) rfl rfl
        obtain ⟨c, st, hs, q⟩ := red_call q
        cases es with
        | cons _ _ => simp at l1
        | nil =>
          unfold evs at q
          exact q c H [] hs (.refl c H) .nil
      | cons y ys => exact .val (fun fi => PE.imp (pe_fn hf g1 g2 (pa_of ie l1 l2) l2) fun σ H Q q => red_call q) rfl rfl
    · cases h
  | .callo f es, sc, X, e', ok, h => by
    unfold trE at h; split at h
    · rename_i x p xs pos
      simp only [Bool.and_eq_true] at h
      obtain ⟨⟨h1, h2⟩, h3⟩ := h
      obtain ⟨ps, kt, hf⟩ := fn_any ok (by simpa only [Bool.and_eq_true] using h2)
      obtain ⟨g1, g2⟩ := glB_ok ok h1
      obtain ⟨l1, l2⟩ := trEs_len h3
      have ie := sndEs es sc X _ ok h3
      cases xs with
      | nil =>
        refine .own (fun fi => PE.imp (pe_fn0 hf g1 g2) fun σ H Q q => ?_) rfl cell_callo
        obtain ⟨c, st, hs, q⟩ := red_callo q
        cases es with
        | cons _ _ => simp at l1
        | nil =>
          unfold evs at q
          exact q c H [] hs (.refl c H) .nil
      | cons y ys => exact .own (fun fi => PE.imp (pe_fn hf g1 g2 (pa_of ie l1 l2) l2) fun σ H Q q => red_callo q) rfl cell_callo
    · cases h
  | .callk f pre ix es, sc, X, e', ok, h => by
    unfold trE at h; split at h
    · rename_i x p xs kws pos
      simp only [Bool.and_eq_true] at h
      obtain ⟨⟨⟨⟨h1, h2⟩, h3⟩, h4⟩, h5⟩ := h
      obtain ⟨p, hp, h3⟩ := List.any_eq_true.mp h3
      simp only [Bool.and_eq_true, decide_eq_true_eq] at h3
      obtain ⟨⟨⟨rfl, rfl⟩, hk⟩, hkt⟩ := h3
      obtain ⟨g1, g2⟩ := glB_ok ok h1
      obtain ⟨l1, l2⟩ := trEs_len h4
      obtain ⟨l3, l4⟩ := trEs_len h5
      have ie := sndEs pre sc X _ ok h4
      have ik := sndEs es sc X _ ok h5
      have ln : ∀ kws : List Keyword, (kwExprs kws).length = (kwNames kws).length := fun kws => by
        induction kws with
        | nil => rfl
        | cons k r ih => obtain ⟨n, v, q⟩ := k; simp [kwExprs, kwNames, ih]
      exact .val (fun fi => pd_callk (ok.fn p hp) hkt g1 g2 (pa_of ie l1 l2) (pk_evs (fun i a b e1 e2 => (ik i a b e1 e2).pe fi) l3) l2 h2 hk l1 (by rw [l3, ln])) rfl rfl
    · cases h
  | .bi b es, sc, X, e', ok, h => by
    unfold trE at h; split at h
    · rename_i x p y xs pos
      simp only [Bool.and_eq_true, decide_eq_true_eq] at h
      obtain ⟨⟨rfl, h2⟩, h3⟩ := h
      obtain ⟨g1, g2⟩ := glB_blt ok h2 b.blt
      obtain ⟨l1, l2⟩ := trEs_len h3
      have ie := sndEs es sc X _ ok h3
      have hu : X.A.units + 65 < cLine := by have := ok.un; omega
      exact .both (fun fi => PE.imp (pe_bi ok.calm hu g1 g2 (pa_of ie l1 l2) l2) fun σ H Q q => red_bi q) (fun fi => PE.imp (pe_bi ok.calm hu g1 g2 (pa_of ie l1 l2) l2) fun σ H Q q => red_biO q) rfl
    · cases h
  | .isi a ts, sc, X, e', ok, h => by
    unfold trE at h; split at h
    · rename_i x p y z pos
      simp only [Bool.and_eq_true, decide_eq_true_eq] at h
      obtain ⟨⟨⟨⟨rfl, h2⟩, h3⟩, h4⟩, h5⟩ := h
      obtain ⟨g1, g2⟩ := glB_blt ok h2 (by decide)
      have ia := sndE a sc X _ ok h4
      unfold tyB at h5
      split at h5
      · split at h5
        · rename_i t
          simp only [Bool.and_eq_true, decide_eq_true_eq] at h5
          obtain ⟨⟨k1, rfl⟩, k2⟩ := h5
          obtain ⟨j1, j2⟩ := glB_blt ok k2 (t.blt k1)
          exact .val (fun fi => pd_isi1 g1 g2 k1 j1 j2 (ia.pe fi) h3) rfl rfl
        · cases h5
      · simp only [Bool.and_eq_true, decide_eq_true_eq] at h5
        obtain ⟨⟨⟨k1, k2⟩, k3⟩, k4⟩ := h5
        refine .val (fun fi => pd_isiT g1 g2 k1 k2 k3 (fun t ht => ?_) (ia.pe fi) h3) rfl rfl
        have := List.all_eq_true.mp k4 t ht
        simp only [Bool.and_eq_true, decide_eq_true_eq] at this
        exact glB_blt ok this.1 this.2
      · cases h5
    · cases h
  | .sub a i, sc, X, e', ok, h => by
    unfold trE at h; split at h
    · simp only [Bool.and_eq_true] at h
      obtain ⟨⟨h1, h2⟩, h3⟩ := h
      have ia := sndE a sc X _ ok h2
      have ii := sndE i sc X _ ok h3
      have hu : X.A.units + 65 < cLine := by have := ok.un; omega
      exact .val (fun fi => pd_sub hu (ia.pe fi) (ii.pe fi) (ixB_ok h1)) rfl rfl
    · cases h
  | .slc a lo hi, sc, X, e', ok, h => by
    unfold trE at h; split at h
    · rename_i x l r p1 p2
      simp only [Bool.and_eq_true] at h
      obtain ⟨⟨h1, h2⟩, h3⟩ := h
      have ia := sndE a sc X _ ok h1
      have il := sndEs lo sc X _ ok h2
      have ir := sndEs hi sc X _ ok h3
      have ll := (trEs_len h2).1
      have lr := (trEs_len h3).1
      have po : ∀ {o : Option Expr} {es : List E} (fi : Fi), (∀ (i : Nat) (e : E) (e' : Expr), es[i]? = some e → o.toList[i]? = some e' → Snd X call e' e) → es.length = o.toList.length → PO X o (tP X fi (evs call es)) := fun {o es} fi ie hl => by
        cases o with
        | none =>
          cases es with
          | nil => exact po_nil
          | cons _ _ => simp at hl
        | some z =>
          match es, hl with
          | [e], _ => exact po_one ((ie 0 e z rfl rfl).pe fi)
      exact .val (fun fi => PE.imp (pe_slice slr_D (ia.pe fi) (po fi il ll) (po fi ir lr)) fun σ H Q q => red_slc q) rfl rfl
    · cases h
  | .rngT a, sc, X, e', ok, h => by
    unfold trE at h; split at h
    · simp only [Bool.and_eq_true, decide_eq_true_eq] at h
      obtain ⟨⟨⟨⟨⟨rfl, h1⟩, rfl⟩, h2⟩, h3⟩, h4⟩ := h
      obtain ⟨g1, g2⟩ := glB_blt ok h1 (by decide)
      obtain ⟨g3, g4⟩ := glB_blt ok h2 (by decide)
      have ia := sndE a sc X _ ok h4
      exact .val (fun fi => pd_rngT ok.calm g1 g2 g3 g4 (ia.pe fi) h3) rfl rfl
    · cases h
  | .rngL a, sc, X, e', ok, h => by
    unfold trE at h; split at h
    · simp only [Bool.and_eq_true, decide_eq_true_eq] at h
      obtain ⟨⟨⟨⟨⟨rfl, h1⟩, rfl⟩, h2⟩, h3⟩, h4⟩ := h
      obtain ⟨g1, g2⟩ := glB_blt ok h1 (by decide)
      obtain ⟨g3, g4⟩ := glB_blt ok h2 (by decide)
      have ia := sndE a sc X _ ok h4
      exact .own (fun fi => pd_rngL ok.calm g1 g2 g3 g4 (ia.pe fi) h3) rfl cell_rngL
    · cases h
  | .lenO i, sc, X, e', ok, h => by
    unfold trE at h; split at h
    · simp only [Bool.and_eq_true, decide_eq_true_eq] at h
      obtain ⟨⟨rfl, h1⟩, h2⟩ := h
      obtain ⟨g1, g2⟩ := glB_blt ok h1 (by decide)
      obtain ⟨k1, k2, k3, k4⟩ := nmB_ok ok h2
      have hu : X.A.units + 65 < cLine := by have := ok.un; omega
      exact .val (fun fi => PE.imp (pe_bi (b := .len) ok.calm hu g1 g2 (pa_cons (pe_var k1 k2 k3 k4) pa_nil (starN rfl)) rfl) fun σ H Q q => red_lenO q) rfl rfl
    · cases h
  | .subO n i, sc, X, e', ok, h => by
    unfold trE at h; split at h
    · simp only [Bool.and_eq_true] at h
      obtain ⟨⟨h1, h2⟩, h3⟩ := h
      obtain ⟨k1, k2, k3, k4⟩ := nmB_ok ok h2
      have ii := sndE i sc X _ ok h3
      have hu : X.A.units + 65 < cLine := by have := ok.un; omega
      exact .val (fun fi => pd_subO hu k1 k2 k3 k4 (ii.pe fi) (ixB_ok h1)) rfl rfl
    · cases h
  | .inO n a i, sc, X, e', ok, h => by
    unfold trE at h; split at h
    · simp only [Bool.and_eq_true] at h
      obtain ⟨⟨h1, h2⟩, h3⟩ := h
      have ho := COp.is_eq h1
      subst ho
      obtain ⟨k1, k2, k3, k4⟩ := nmB_ok ok h3
      have ia := sndE a sc X _ ok h2
      have hu : X.A.units + 65 < cLine := by have := ok.un; omega
      have hm : ∀ {y : Str} {p : Pos}, behindInMarks (bIn n).py (.Name y p) = false := rfl
      exact .cmp (fun fi => PE.imp (pe_cmpR (opr_cmp hu (bIn n)) (ia.pe fi) (pe_var k1 k2 k3 k4) hm) fun σ H Q q => red_inO q) (fun fi => PT.imp (pt_cmpR (opr_cmp hu (bIn n)) (ia.pe fi) (pe_var k1 k2 k3 k4) hm) (tB.imp fun σ H Q q => red_inO q)) rfl rfl
    · cases h
  | .eqO n i a, sc, X, e', ok, h => by
    unfold trE at h; split at h
    · simp only [Bool.and_eq_true, Bool.not_eq_true'] at h
      obtain ⟨⟨⟨h1, h0⟩, h2⟩, h3⟩ := h
      have ho := COp.is_eq h1
      subst ho
      obtain ⟨k1, k2, k3, k4⟩ := nmB_ok ok h2
      have ia := sndE a sc X _ ok h3
      have hu : X.A.units + 65 < cLine := by have := ok.un; omega
      exact .cmp (fun fi => PE.imp (pe_cmpR (opr_cmp hu (bEq n)) (pe_var k1 k2 k3 k4) (ia.pe fi) h0) fun σ H Q q => red_eqO q) (fun fi => PT.imp (pt_cmpR (opr_cmp hu (bEq n)) (pe_var k1 k2 k3 k4) (ia.pe fi) h0) (tB.imp fun σ H Q q => red_eqO q)) rfl rfl
    · cases h
  | .cpO b i, sc, X, e', ok, h => by
    unfold trE at h; split at h
    · simp only [Bool.and_eq_true, decide_eq_true_eq] at h
      obtain ⟨⟨rfl, h1⟩, h2⟩ := h
      obtain ⟨g1, g2⟩ := glB_blt ok h1 b.blt
      obtain ⟨k1, k2, k3, k4⟩ := nmB_ok ok h2
      have hu : X.A.units + 65 < cLine := by have := ok.un; omega
      exact .both (fun fi => PE.imp (pe_bi ok.calm hu g1 g2 (pa_cons (pe_var k1 k2 k3 k4) pa_nil (starN rfl)) rfl) fun σ H Q q => red_cpO q) (fun fi => PE.imp (pe_bi ok.calm hu g1 g2 (pa_cons (pe_var k1 k2 k3 k4) pa_nil (starN rfl)) rfl) fun σ H Q q => red_cpOO q) rfl
    · cases h
  | .app i a, sc, X, e', ok, h => by
    unfold trE at h; split at h
    · simp only [Bool.and_eq_true, decide_eq_true_eq] at h
      obtain ⟨⟨⟨⟨rfl, h1⟩, h2⟩, h3⟩, h4⟩ := h
      obtain ⟨k1, k2, k3, k4⟩ := nmB_ok ok h1
      have ia := sndE a sc X _ ok h4
      exact .val (fun fi => PE.imp (pd_bm PySem.F.slot_list_append PySem.F.type_list_append mt_append k1 k2 k3 k4 (pa_oneD (ia.pe fi) h3) h3 h2 rfl) fun σ H Q q => red_app q) rfl rfl
    · cases h
  | .ext i a, sc, X, e', ok, h => by
    unfold trE at h; split at h
    · simp only [Bool.and_eq_true, decide_eq_true_eq] at h
      obtain ⟨⟨⟨⟨rfl, h1⟩, h2⟩, h3⟩, h4⟩ := h
      obtain ⟨k1, k2, k3, k4⟩ := nmB_ok ok h1
      have ia := sndE a sc X _ ok h4
      exact .val (fun fi => PE.imp (pd_bm PySem.F.slot_list_extend PySem.F.type_list_extend mt_extend k1 k2 k3 k4 (pa_oneD (ia.pe fi) h3) h3 h2 rfl) fun σ H Q q => red_ext q) rfl rfl
    · cases h
  | .pop i, sc, X, e', ok, h => by
    unfold trE at h; split at h
    · simp only [Bool.and_eq_true, decide_eq_true_eq] at h
      obtain ⟨⟨rfl, h1⟩, h2⟩ := h
      obtain ⟨k1, k2, k3, k4⟩ := nmB_ok ok h1
      exact .val (fun fi => PE.imp (pd_bm0 PySem.F.slot_list_pop PySem.F.type_list_pop mt_pop k1 k2 k3 k4 h2 rfl) fun σ H Q q => red_pop q) rfl rfl
    · cases h
  | .popA i a, sc, X, e', ok, h => by
    unfold trE at h; split at h
    · simp only [Bool.and_eq_true, decide_eq_true_eq] at h
      obtain ⟨⟨⟨⟨rfl, h1⟩, h2⟩, h3⟩, h4⟩ := h
      obtain ⟨k1, k2, k3, k4⟩ := nmB_ok ok h1
      have ia := sndE a sc X _ ok h4
      exact .val (fun fi => PE.imp (pd_bm PySem.F.slot_list_pop PySem.F.type_list_pop mt_popAt k1 k2 k3 k4 (pa_oneD (ia.pe fi) h3) h3 h2 rfl) fun σ H Q q => red_popA q) rfl rfl
    · cases h
  | .idx t a b, sc, X, e', ok, h => by
    unfold trE at h; split at h
    · simp only [Bool.and_eq_true, decide_eq_true_eq] at h
      obtain ⟨⟨⟨⟨⟨⟨h0, rfl⟩, h1⟩, h2⟩, h3⟩, h4⟩, h5⟩ := h
      have ia := sndE a sc X _ ok h4
      have ib := sndE b sc X _ ok h5
      have hu : X.A.units + 65 < cLine := by have := ok.un; omega
      cases t with
      | false => exact .val (fun fi => PE.imp (pe_bm PySem.F.plainAttrs_list PySem.F.slot_list_index PySem.F.type_list_index (mt_indexD hu) (ia.pe fi) (pa_oneD (ib.pe fi) h3) (base_ok h1) (by rw [starN h3]; rfl) h2 (starN h3) rfl) fun σ H Q q => red_idxL q) rfl rfl
      | true => cases h0
    · cases h
  | .lc vs a tg it ifs, sc, X, e', ok, h => by
    unfold trE at h; split at h
    · rename_i elt t i fs scope p
      simp only [Bool.and_eq_true, decide_eq_true_eq] at h
      obtain ⟨⟨⟨⟨⟨⟨⟨h1, h2⟩, h3⟩, h4⟩, h5⟩, h6⟩, h7⟩, h8⟩ := h
      have ii := sndI it sc X t i ok h3
      have iff' := fun s H C cl fp => sndEs ifs (relS scope sc) (X.blk s H scope (compEnvC scope cl C X.env) fp) fs (ok.blk scope s H C cl fp) h7
      have ia := fun s H C cl fp => sndE a (relS scope sc) (X.blk s H scope (compEnvC scope cl C X.env) fp) elt (ok.blk scope s H C cl fp) h8
      refine .own (fun fi => PE.imp (pe_lc (g := gX X tg) (tt := tXT X call ifs) (te := tXD X call a) ok.calm ok.nd (ii fi) (blkOk_by (by rw [ok.sc]; exact h1)) (fun s H C cl fp => pg_x fun fi => pg_D (X := X.blk s H scope (compEnvC scope cl C X.env) fp) ok.calm ok.nd stB_blk tg t h4) (fun s H C cl fp => pts_of (iff' s H C cl fp) (trEs_len h7).1 h6) (fun s H C cl fp => pe_x (ia s H C cl fp).pe) (fun x => foldN (by cases i <;> first | rfl | exact absurd (show false = true from h2) Bool.false_ne_true) X.env x)) fun σ H Q q => ?_) rfl cell_lc
      rw [ownN_map]
      exact red_lc h5 q
    · cases h
  | .lc2 vs a tg it ifs vs1 tg1 it1 ifs1, sc, X, e', ok, h => by
    unfold trE at h; split at h
    · rename_i elt t i fs t1 i1 fs1 scope p
      simp only [Bool.and_eq_true, decide_eq_true_eq] at h
      obtain ⟨⟨⟨⟨⟨⟨⟨⟨⟨⟨⟨⟨⟨⟨h1, h2⟩, h2'⟩, h3⟩, h4⟩, h4'⟩, h5⟩, h5'⟩, h5''⟩, h6⟩, h6'⟩, h7⟩, h7'⟩, h3'⟩, h8⟩ := h
      have ii := sndI it sc X t i ok h3
      have ii1 := fun s H C cl fp => sndI it1 (relS scope sc) (X.blk s H scope (compEnvC scope cl C X.env) fp) t1 i1 (ok.blk scope s H C cl fp) h3'
      have iff' := fun s H C cl fp => sndEs ifs (relS scope sc) (X.blk s H scope (compEnvC scope cl C X.env) fp) fs (ok.blk scope s H C cl fp) h7
      have iff1 := fun s H C cl fp => sndEs ifs1 (relS scope sc) (X.blk s H scope (compEnvC scope cl C X.env) fp) fs1 (ok.blk scope s H C cl fp) h7'
      have ia := fun s H C cl fp => sndE a (relS scope sc) (X.blk s H scope (compEnvC scope cl C X.env) fp) elt (ok.blk scope s H C cl fp) h8
      have hn : ∀ {i : Expr}, noSetB i = true → (match i with | .Set .. => false | _ => true) = true := fun {i} h => by cases i <;> first | rfl | exact absurd (show false = true from h) Bool.false_ne_true
      refine .own (fun fi => PE.imp (pe_lc2 (g := gX X tg) (tt := tXT X call ifs) (wi1 := tXI X call it1) (g1 := gX X tg1) (tt1 := tXT X call ifs1) (te := tXD X call a) ok.calm ok.nd (ii fi) (blkOk_by (by rw [ok.sc]; exact h1)) (by rw [ownN_map]; exact h5'') (fun s H C cl fp => pg_x fun fi => pg_D (X := X.blk s H scope (compEnvC scope cl C X.env) fp) ok.calm ok.nd stB_blk tg t h4) (fun s H C cl fp => pts_of (iff' s H C cl fp) (trEs_len h7).1 h6)
        (fun s H C cl fp => pi_x (ii1 s H C cl fp)) (fun s H C cl fp => pg_x fun fi => pg_D (X := X.blk s H scope (compEnvC scope cl C X.env) fp) ok.calm ok.nd stB_blk tg1 t1 h4') (fun s H C cl fp => pts_of (iff1 s H C cl fp) (trEs_len h7').1 h6') (fun s H C cl fp => pe_x (ia s H C cl fp).pe) (fun x => foldN (hn h2) X.env x) (fun env x => foldN (hn h2') env x)) fun σ H Q q => ?_) rfl cell_lc2
      rw [ownN_map]
      exact red_lc2 h5 h5' h5'' q
    · cases h
  | .dci vs k a tg it ifs, sc, X, e', ok, h => by
    unfold trE at h; split at h
    · rename_i ky elt t i fs scope p
      simp only [Bool.and_eq_true, decide_eq_true_eq] at h
      obtain ⟨⟨⟨⟨⟨⟨⟨⟨h1, h2⟩, h3⟩, h4⟩, h5⟩, h6⟩, h7⟩, h9⟩, h8⟩ := h
      have ii := sndI it sc X t i ok h3
      have iff' := fun s H C cl fp => sndEs ifs (relS scope sc) (X.blk s H scope (compEnvC scope cl C X.env) fp) fs (ok.blk scope s H C cl fp) h7
      have ik := fun s H C cl fp => sndE k (relS scope sc) (X.blk s H scope (compEnvC scope cl C X.env) fp) ky (ok.blk scope s H C cl fp) h9
      have ia := fun s H C cl fp => sndE a (relS scope sc) (X.blk s H scope (compEnvC scope cl C X.env) fp) elt (ok.blk scope s H C cl fp) h8
      refine .own (fun fi => PE.imp (pe_dc (g := gX X tg) (tt := tXT X call ifs) (tk := tXD X call k) (tv := tXD X call a) ok.calm ok.nd (ii fi) (blkOk_by (by rw [ok.sc]; exact h1)) (fun s H C cl fp => pg_x fun fi => pg_D (X := X.blk s H scope (compEnvC scope cl C X.env) fp) ok.calm ok.nd stB_blk tg t h4) (fun s H C cl fp => pts_of (iff' s H C cl fp) (trEs_len h7).1 h6) (fun s H C cl fp => pe_x (ik s H C cl fp).pe) (fun s H C cl fp => pe_x (ia s H C cl fp).pe) (fun x => foldN (by cases i <;> first | rfl | exact absurd (show false = true from h2) Bool.false_ne_true) X.env x)) fun σ H Q q => ?_) rfl cell_dci
      rw [ownN_map]
      exact red_dci h5 q
    · cases h
  | .dct vs k a tg it ifs, sc, X, e', ok, h => by
    unfold trE at h; split at h
    · rename_i ky elt t i fs scope p
      simp only [Bool.and_eq_true, decide_eq_true_eq] at h
      obtain ⟨⟨⟨⟨⟨⟨⟨⟨h1, h2⟩, h3⟩, h4⟩, h5⟩, h6⟩, h7⟩, h9⟩, h8⟩ := h
      have ii := sndI it sc X t i ok h3
      have iff' := fun s H C cl fp => sndEs ifs (relS scope sc) (X.blk s H scope (compEnvC scope cl C X.env) fp) fs (ok.blk scope s H C cl fp) h7
      have ik := fun s H C cl fp => sndE k (relS scope sc) (X.blk s H scope (compEnvC scope cl C X.env) fp) ky (ok.blk scope s H C cl fp) h9
      have ia := fun s H C cl fp => sndE a (relS scope sc) (X.blk s H scope (compEnvC scope cl C X.env) fp) elt (ok.blk scope s H C cl fp) h8
      refine .own (fun fi => PE.imp (pe_dcT (g := gX X tg) (tt := tXT X call ifs) (tk := tXD X call k) (tv := tXD X call a) ok.calm (by have := ok.un; omega) ok.nd (ii fi) (blkOk_by (by rw [ok.sc]; exact h1)) (fun s H C cl fp => pg_x fun fi => pg_D (X := X.blk s H scope (compEnvC scope cl C X.env) fp) ok.calm ok.nd stB_blk tg t h4) (fun s H C cl fp => pts_of (iff' s H C cl fp) (trEs_len h7).1 h6) (fun s H C cl fp => pe_x (ik s H C cl fp).pe) (fun s H C cl fp => pe_x (ia s H C cl fp).pe) (fun x => foldN (by cases i <;> first | rfl | exact absurd (show false = true from h2) Bool.false_ne_true) X.env x)) fun σ H Q q => ?_) rfl cell_dct
      rw [ownN_map]
      exact red_dct h5 q
    · cases h
  | .emp t, sc, X, e', ok, h => by
    unfold trE at h; split at h
    · cases t with
      | true => exact .own (fun fi => PE.imp pe_dnewR fun σ H Q q => red_emp q) rfl cell_emp
      | false => exact .own (fun fi => PE.imp pe_dnewK fun σ H Q q => red_emp q) rfl cell_emp
    · cases h
  | .cell a, sc, X, e', ok, h => by
    unfold trE at h
    simp only [Bool.and_eq_true] at h
    have ia := sndE a sc X _ ok h.2
    exact .val (fun fi => pe_cell (ia.po h.1 fi)) (own_plain h.1 h.2) rfl
  | .attr a cn f, sc, X, e', ok, h => by
    unfold trE at h; split at h
    · simp only [Bool.and_eq_true, decide_eq_true_eq] at h
      obtain ⟨⟨⟨⟨rfl, h1⟩, h2⟩, h3⟩, h4⟩ := h
      have ia := sndE a sc X _ ok h4
      exact .val (fun fi => PE.imp (pe_fld (ia.pe fi) (base_ok h1)) fun σ H Q q => red_attr (ok.cl cn h2).2 (ok.na _ h3) q) rfl rfl
    · cases h
  | .meth a cn m f es, sc, X, e', ok, h => by
    unfold trE at h; split at h
    · simp only [Bool.and_eq_true, decide_eq_true_eq] at h
      obtain ⟨⟨⟨⟨⟨⟨⟨rfl, h1⟩, h2⟩, h3⟩, h4⟩, h5⟩, h6⟩, h7⟩ := h
      obtain ⟨ps, b, fd, k, g1, g2, g3⟩ := mt_any ok (by simpa only [Bool.and_eq_true, decide_eq_true_eq] using h5)
      obtain ⟨l1, l2⟩ := trEs_len h7
      have ia := sndE a sc X _ ok h6
      have ie := sndEs es sc X _ ok h7
      exact .val (fun fi => PE.imp (pe_methS (ia.pe fi) (ok.cl cn h4).2 g1 g3.ok (g3.room.mono (Nat.le_succ _)) g3.pos passA (pa_of ie l1 l2) (nil_of l1) h1 h2 l2 h3) fun σ H Q q => red_meth q) rfl rfl
    · cases h
  | .new cn f es, sc, X, e', ok, h => by
    unfold trE at h; split at h
    · simp only [Bool.and_eq_true, decide_eq_true_eq] at h
      obtain ⟨⟨⟨⟨rfl, h1⟩, h2⟩, h3⟩, h4⟩ := h
      obtain ⟨ps, b, fd, k, g1, g2, g3⟩ := mt_any ok (by simpa only [Bool.and_eq_true, decide_eq_true_eq] using h3)
      obtain ⟨k1, k2⟩ := glB_ok ok h1
      obtain ⟨l1, l2⟩ := trEs_len h4
      have ie := sndEs es sc X _ ok h4
      exact .val (fun fi => PE.imp (pe_makeS (g2 rfl) g3.ok g3.room k1 (ok.cl _ h2).1 g3.pos passA (pa_of ie l1 l2) (nil_of l1) k2 l2) fun σ H Q q => red_new q) rfl rfl
    · cases h
  | .inM n a b, sc, X, e', ok, h => by
    unfold trE at h; split at h
    · simp only [Bool.and_eq_true, Bool.not_eq_true'] at h
      obtain ⟨⟨⟨h1, h2⟩, h3⟩, h4⟩ := h
      have ho := COp.is_eq h1
      subst ho
      have ia := sndE a sc X _ ok h3
      have ib := sndE b sc X _ ok h4
      have hu : X.A.units + 65 < cLine := by have := ok.un; omega
      exact .cmp (fun fi => PE.imp (pe_cmpR (opr_cmp hu (bIn n)) (ia.pe fi) (ib.pe fi) h2) fun σ H Q q => red_inM q) (fun fi => PT.imp (pt_cmpR (opr_cmp hu (bIn n)) (ia.pe fi) (ib.pe fi) h2) (tB.imp fun σ H Q q => red_inM q)) rfl rfl
    · cases h
  | .lenM a, sc, X, e', ok, h => by
    unfold trE at h; split at h
    · simp only [Bool.and_eq_true, decide_eq_true_eq] at h
      obtain ⟨⟨⟨rfl, h1⟩, h2⟩, h3⟩ := h
      obtain ⟨g1, g2⟩ := glB_blt ok h1 (by decide)
      have ia := sndE a sc X _ ok h3
      have hu : X.A.units + 65 < cLine := by have := ok.un; omega
      exact .val (fun fi => PE.imp (pe_bi (b := .len) ok.calm hu g1 g2 (pa_cons (ia.pe fi) pa_nil (starN h2)) (by simpa using h2)) fun σ H Q q => red_lenM q) rfl rfl
    · cases h
  | .appM a b, sc, X, e', ok, h => by
    unfold trE at h; split at h
    · simp only [Bool.and_eq_true, decide_eq_true_eq] at h
      obtain ⟨⟨⟨⟨⟨rfl, h1⟩, h2⟩, h3⟩, h4⟩, h5⟩ := h
      have ia := sndE a sc X _ ok h4
      have ib := sndE b sc X _ ok h5
      exact .val (fun fi => PE.imp (pe_bm PySem.F.plainAttrs_list PySem.F.slot_list_append PySem.F.type_list_append mt_append (ia.pe fi) (pa_oneD (ib.pe fi) h3) (base_ok h1) (by rw [starN h3]; rfl) h2 (starN h3) rfl) fun σ H Q q => red_appM q) rfl rfl
    · cases h
  | .popM a b, sc, X, e', ok, h => by
    unfold trE at h; split at h
    · simp only [Bool.and_eq_true, decide_eq_true_eq] at h
      obtain ⟨⟨⟨⟨⟨rfl, h1⟩, h2⟩, h3⟩, h4⟩, h5⟩ := h
      have ia := sndE a sc X _ ok h4
      have ib := sndE b sc X _ ok h5
      exact .val (fun fi => PE.imp (pe_bm PySem.F.plainAttrs_list PySem.F.slot_list_pop PySem.F.type_list_pop mt_popAt (ia.pe fi) (pa_oneD (ib.pe fi) h3) (base_ok h1) (by rw [starN h3]; rfl) h2 (starN h3) rfl) fun σ H Q q => red_popM q) rfl rfl
    · cases h
  | .cpM b a, sc, X, e', ok, h => by
    unfold trE at h; split at h
    · simp only [Bool.and_eq_true, decide_eq_true_eq] at h
      obtain ⟨⟨⟨rfl, h1⟩, h2⟩, h3⟩ := h
      obtain ⟨g1, g2⟩ := glB_blt ok h1 b.blt
      have ia := sndE a sc X _ ok h3
      have hu : X.A.units + 65 < cLine := by have := ok.un; omega
      exact .val (fun fi => PE.imp (pe_bi ok.calm hu g1 g2 (pa_cons (ia.pe fi) pa_nil (starN h2)) (by simpa using h2)) fun σ H Q q => red_cpM q) rfl rfl
    · cases h
  | .eqM n a b, sc, X, e', ok, h => by
    unfold trE at h; split at h
    · simp only [Bool.and_eq_true, Bool.not_eq_true'] at h
      obtain ⟨⟨⟨h1, h2⟩, h3⟩, h4⟩ := h
      have ho := COp.is_eq h1
      subst ho
      have ia := sndE a sc X _ ok h3
      have ib := sndE b sc X _ ok h4
      have hu : X.A.units + 65 < cLine := by have := ok.un; omega
      exact .cmp (fun fi => PE.imp (pe_cmpR (opr_cmp hu (bEq n)) (ia.pe fi) (ib.pe fi) h2) fun σ H Q q => red_eqM q) (fun fi => PT.imp (pt_cmpR (opr_cmp hu (bEq n)) (ia.pe fi) (ib.pe fi) h2) (tB.imp fun σ H Q q => red_eqM q)) rfl rfl
    · cases h
theorem sndEs : ∀ (es : List E) (sc : Scope) (X : Cx) (es' : List Expr), Ok T call X sc → trEs T X.N es sc es' = true → ∀ (i : Nat) (e : E) (e' : Expr), es[i]? = some e → es'[i]? = some e' → Snd X call e' e
  | [], sc, X, es', ok, h, i, e, e', h1, h2 => by simp at h1
  | a :: as, sc, X, [], ok, h, i, e, e', h1, h2 => by simp at h2
  | a :: as, sc, X, b :: bs, ok, h, 0, e, e', h1, h2 => by
    simp only [trEs, Bool.and_eq_true] at h
    simp at h1 h2
    subst h1 h2
    exact sndE a sc X b ok h.1.2
  | a :: as, sc, X, b :: bs, ok, h, i + 1, e, e', h1, h2 => by
    simp only [trEs, Bool.and_eq_true] at h
    exact sndEs as sc X bs ok h.2 i e e' (by simpa using h1) (by simpa using h2)
theorem sndI : ∀ (it : I) (sc : Scope) (X : Cx) (t e' : Expr), Ok T call X sc → trI T X.N it sc t e' = true → ∀ fi, PI X t e' (tIv X fi call it)
  | .it a, sc, X, t, e', ok, h, fi => by
    unfold trI at h
    exact pi_it ((sndE a sc X _ ok h).pe fi)
  | .rng a, sc, X, t, e', ok, h, fi => by
    unfold trI at h; split at h
    · simp only [Bool.and_eq_true, decide_eq_true_eq] at h
      obtain ⟨⟨⟨rfl, h1⟩, h2⟩, h3⟩ := h
      obtain ⟨g1, g2⟩ := glB_blt ok h1 (by decide)
      exact pi_rngD g1 g2 ((sndE a sc X _ ok h3).pe fi) h2
    · cases h
  | .rng2 a b, sc, X, t, e', ok, h, fi => by
    unfold trI at h; split at h
    · simp only [Bool.and_eq_true, decide_eq_true_eq] at h
      obtain ⟨⟨⟨⟨⟨rfl, h1⟩, h2⟩, h3⟩, h4⟩, h5⟩ := h
      obtain ⟨g1, g2⟩ := glB_blt ok h1 (by decide)
      exact pi_rng2D g1 g2 ((sndE a sc X _ ok h4).pe fi) ((sndE b sc X _ ok h5).pe fi) h2 h3
    · cases h
  | .enum a, sc, X, t, e', ok, h, fi => by
    unfold trI at h; split at h
    · simp only [Bool.and_eq_true, decide_eq_true_eq] at h
      obtain ⟨⟨⟨⟨h0, rfl⟩, h1⟩, h2⟩, h3⟩ := h
      obtain ⟨g1, g2⟩ := glB_blt ok h1 (by decide)
      cases t <;> first | exact absurd (show false = true from h0) Bool.false_ne_true | exact pi_enumD g1 g2 ((sndE a sc X _ ok h3).pe fi) h2
    · cases h
  | .zip a b, sc, X, t, e', ok, h, fi => by
    unfold trI at h; split at h
    · simp only [Bool.and_eq_true, decide_eq_true_eq] at h
      obtain ⟨⟨⟨⟨⟨⟨h0, rfl⟩, h1⟩, h2⟩, h3⟩, h4⟩, h5⟩ := h
      obtain ⟨g1, g2⟩ := glB_blt ok h1 (by decide)
      cases t <;> first | exact absurd (show false = true from h0) Bool.false_ne_true | exact pi_zipD g1 g2 ((sndE a sc X _ ok h4).pe fi) ((sndE b sc X _ ok h5).pe fi) h2 h3
    · cases h
end
end
end NW
set_option autoImplicit false
set_option linter.all false
set_option maxRecDepth 100000
set_option maxHeartbeats 1000000
/-! NwX: where an error may come out. -/
namespace NW
open PySem PyProof.Rows L2

def okX {α : Type} (E : Str → St → Prop) (r : Res (α × St)) (Q : α → St → Prop) : Prop := match r with
  | .ok a => Q a.1 a.2
  | .exc c s => E c s
  | .err => False
section
variable {α β : Type} {E : Str → St → Prop}
theorem okX_bind {r : Res (α × St)} {k : α × St → Res (β × St)} {Q : β → St → Prop} : okX E (r.bind k) Q ↔ okX E r fun a s => okX E (k (a, s)) Q := by
  cases r <;> exact Iff.rfl
theorem okX_of {o : Option α} {k : α → Res (β × St)} {Q : β → St → Prop} : okX E ((Res.of o).bind k) Q ↔ ∃ a, o = some a ∧ okX E (k a) Q := by
  cases o with
  | none => exact ⟨fun h => h.elim, fun ⟨_, e, _⟩ => by cases e⟩
  | some a => exact ⟨fun h => ⟨a, rfl, h⟩, fun ⟨_, e, h⟩ => by cases e; exact h⟩
theorem okX.mono {r : Res (α × St)} {Q Q' : α → St → Prop} (h : okX E r Q) (k : ∀ a s, Q a s → Q' a s) : okX E r Q' := by
  cases r with
  | ok a => exact k _ _ h
  | exc _ _ => exact h
  | err => exact h.elim
theorem okX_strict {r : Res (α × St)} {Q : α → St → Prop} : okX E (strict r) Q ↔ okR r Q := by
  cases r <;> exact Iff.rfl
theorem okX_str {r : Res (α × St)} {k : α × St → Res (β × St)} {Q : β → St → Prop} : okX E ((strict r).bind k) Q ↔ okR r fun a s => okX E (k (a, s)) Q := by
  rw [okX_bind, okX_strict]
end
section
variable (X : Cx) (fi : Fi) (W : WX)
def exW : Str → St → Prop := fun cn s => ∀ c' σ' H', SR X fi c' σ' H' s → W (.ref (He.ga X.K cn)) none σ' H'
def tX (r : St → Res (D × St)) : TE := fun σ H Q => ∃ c st, SR X fi c σ H st ∧ okX (exW X fi W) (r st) fun d st' => ∀ c' H' v, SR X fi c' σ H' st' → Stp c H c' H' → RP X c' H' v d → Q v H'
end
section
variable {X : Cx} {fi : Fi} {W : WX} {call : Call} {c : Cn} {σ : L2.St} {H : Hp} {st : St} {Q : VK} {T : Tab} {sc : Scope}
theorem tX_strict {r : St → Res (D × St)} (q : tX X fi W (fun s => strict (r s)) σ H Q) : tR X fi r σ H Q := by
  obtain ⟨c, st, hs, q⟩ := q
  exact ⟨c, st, hs, okX_strict.mp q⟩
/-- behind a call -/
theorem spf_finX {f : Nat} {ds : List D} {vs : List V} {c0 : Cn} {H0 : Hp} {Q : VK} (hs : SR X fi c σ H st) (r : RPs X c H vs ds) (p0 : Stp c0 H0 c H)
    (q : okX (exW X fi W) (callR call f ds st) fun d st' => ∀ c' H' v, SR X fi c' σ H' st' → Stp c0 H0 c' H' → RP X c' H' v d → Q v H') : SpF X.prog X.w X.K call f vs H Q (WE W σ) := by
  cases e : call f ds st.F with
  | ok d fr F' =>
    have q' : okR (callR call f ds st) fun d st' => ∀ c' H' v, SR X fi c' σ H' st' → Stp c0 H0 c' H' → RP X c' H' v d → Q v H' := by
      unfold callR at q ⊢
      rw [e] at q ⊢
      exact q
    obtain ⟨c1, ds1, F1, h1, h2, h3⟩ := spf_fin hs r p0 q'
    refine ⟨c, ds, st.F, r, hs.ct, ?_⟩
    rw [e]
    obtain ⟨_, _, _, _, _, _⟩ := (⟨c1, ds1, F1, h1, h2, h3⟩ : SpF X.prog X.w X.K call f vs H Q fun _ _ _ => False)
    unfold callR at q
    rw [e] at q
    intro c' H' v ct cs rt
    have s' := hs.afterCall ct cs
    have p' := p0.trans (cs.stp hs.ct)
    cases fr with
    | false => exact q c' H' v s' p' rt
    | true =>
      obtain ⟨a, cl, rfl, e1, e2, e3, e4, e5⟩ := rt
      have ns : ∀ (i : Nat) (x : Cell), st.ρ[i]? = some (.own x) → σ[i]? ≠ some (some (.ref a)) := fun i x ei z => by
        obtain ⟨b, z1, z2, _⟩ := hs.slot i _ ei
        rw [z] at z1; cases z1
        exact hs.ct.dom a z2 e4
      have o : OwnAt X.prog X.w X.K fi c' σ H' { st with F := F' } a cl := ⟨e2, e3, ns, e5, hs.new0 e4⟩
      have z := o.frozen
      rw [cellOf_d e1] at z
      exact q (c'.minus a) H' _ (s'.freeze o.nf o.ns o.n0) (p'.trans (.minus a)) z
  | exc x F' =>
    refine ⟨c, ds, st.F, r, hs.ct, ?_⟩
    rw [e]
    unfold callR at q
    rw [e] at q
    exact fun c' H' ct cs => q c' σ H' (hs.afterCall ct cs)
  | err => unfold callR at q; rw [e] at q; exact q.elim
/-- f(..), where it may raise -/
theorem pe_fnS {x : Str} {f : Nat} {ps : List Str} {kt : List (Nat × List Str × List Nat)} {es : List Expr} {t : TA} {p pos : Pos} (hf : FnI X call x f ps kt) (tk : Takes X W) (hg : Gl X x) (hdb : (x == ("__debug__" : Str)) = false) (ha : PA X es t) (h0 : es = [] → ∀ σ H R, t σ H R → R [] H) (hs : es.all notStar = true) :
    PE X (.Call (.Name x p) es [] pos) (fun σ H Q => t σ H fun vs H1 => SpF X.prog X.w X.K call f vs H1 Q (WE W σ)) := by
  obtain ⟨a, fd, k, hm, F⟩ := hf
  refine ⟨fun pins s σ H Q I h => ?_⟩
  refine wpAny_Call_Name_kw (ld_glob I hg hm ?_ hdb)
  cases es with
  | nil =>
    have h := h0 rfl _ _ _ h
    exact PySem.W.callWith_K0 I.kIn F.keep (run_fnS (us := []) (E := WE W) F.ok (F.room.mono (Nat.le_succ _)) F.pos (passAt tk σ) I .nil h)
  | cons e es =>
    simp only [List.all_cons, Bool.and_eq_true] at hs
    refine PySem.W.callWith_K (h₀ := X.base) I.ok.mod.kin F.keep (thn (ha.run pos pins s σ H _ I h) fun us s1 ⟨vs, H1, I1, r, q⟩ => ⟨I1.kIn, ?_⟩) (starN hs.1) (backOne (e := e) hs.2)
    exact run_fnS (E := WE W) F.ok (F.room.mono (Nat.le_succ _)) F.pos (passAt tk σ) I1 r q
theorem redX_call {f : Nat} {es : List E} {Q : VK} (q : tX X fi W (xev call (.call f es)) σ H Q) : (tDs X fi call es) σ H fun vs H1 => SpF X.prog X.w X.K call f vs H1 Q (WE W σ) := by
  obtain ⟨c, st, hs, q⟩ := q
  unfold xev at q
  rw [okX_str] at q
  exact ⟨c, st, hs, q.mono fun ds st1 q1 c1 H1 xs s1 p1 r1 => spf_finX s1 r1 p1 q1⟩
theorem redX_new {cn : Str} {f : Nat} {es : List E} {Q : VK} (q : tX X fi W (xev call (.new cn f es)) σ H Q) : tMakeS (He.ga X.K cn) (fun vs H Q E => SpF X.prog X.w X.K call f vs H Q E) (WE W) (tDs X fi call es) σ H Q := by
  obtain ⟨c, st, hs, q⟩ := q
  unfold xev at q
  rw [okX_str] at q
  refine ⟨c, st, hs, q.mono fun ds st1 q1 c1 H1 xs s1 p1 r1 x dx hx hdx ne => ?_⟩
  refine spf_new (E := WE W σ) s1 r1 p1 ?_ x dx hx hdx ne
  dsimp only at q1
  cases e : newR call cn f ds st1 with
  | ok a => rw [e] at q1; exact q1
  | exc y s' => rw [e] at q1; exact fun c' H' s => q1 c' σ H' s
  | err => rw [e] at q1; exact q1.elim
theorem redX_meth {a : E} {cn m : Str} {f : Nat} {es : List E} {Q : VK} (q : tX X fi W (xev call (.meth a cn m f es)) σ H Q) : tMethS (He.ga X.K cn) m (fun vs H Q E => SpF X.prog X.w X.K call f vs H Q E) (WE W) (tX X fi W (xev call a)) (tDs X fi call es) σ H Q := by
  obtain ⟨c, st, hs, q⟩ := q
  unfold xev at q
  rw [okX_bind] at q
  refine ⟨c, st, hs, q.mono fun d st1 q1 c1 H1 x s1 p1 r1 => ?_⟩
  dsimp only at q1
  cases e : insOf st1.F d with
  | none => rw [e] at q1; exact q1.elim
  | some t =>
    obtain ⟨n, cn', fs⟩ := t
    rw [e] at q1
    dsimp only at q1
    split at q1
    · rename_i ec
      obtain ⟨rfl, hg⟩ := ec
      obtain ⟨b, dx, vs, rfl, rfl, e1, e2, e3, e4⟩ := ins_rel s1.ct r1 e
      refine ⟨b, dx, vs, rfl, e2, (getF_rel (f := m) e3 e4).2 hg, c1, st1, s1, ?_⟩
      rw [okX_str] at q1
      exact q1.mono fun ds st2 q2 c2 H2 ws s2 p2 r2 => spf_finX s2 (.cons (r1.step p2) r2) (p1.trans p2) q2
    · exact q1.elim
theorem redX_ife {a b e : E} {Q : VK} (q : tX X fi W (xev call (.ife e a b)) σ H Q) : tIf (tB (tD X fi call e)) (tX X fi W (xev call a)) (tX X fi W (xev call b)) σ H Q := by
  obtain ⟨c, st, hs, q⟩ := q
  unfold xev at q
  rw [okX_str] at q
  refine ⟨c, st, hs, q.mono fun d st1 q1 c1 H1 x s1 p1 r1 => ?_⟩
  cases d with
  | bl p =>
    cases r1
    refine ⟨p, rfl, ?_⟩
    cases p with
    | true => exact ⟨c1, st1, s1, okX.mono q1 fun e st2 q2 c2 H2 y s2 p2 r2 => q2 c2 H2 y s2 (p1.trans p2) r2⟩
    | false => exact ⟨c1, st1, s1, okX.mono q1 fun e st2 q2 c2 H2 y s2 p2 r2 => q2 c2 H2 y s2 (p1.trans p2) r2⟩
  | _ => exact q1.elim
theorem redX_cmp {op : COp} {a b : E} {Q : VK} (q : tX X fi W (xev call (.cmp op a b)) σ H Q) : tOp (rCmp X op) (tX X fi W (xev call a)) (tD X fi call b) σ H Q := by
  obtain ⟨c, st, hs, q⟩ := q
  unfold xev at q
  rw [okX_bind] at q
  refine ⟨c, st, hs, q.mono fun d st1 q1 c1 H1 x s1 p1 r1 => ⟨c1, st1, s1, ?_⟩⟩
  rw [okX_str] at q1
  refine q1.mono fun e st2 q2 c2 H2 y s2 p2 r2 => ?_
  rw [okX_of] at q2
  obtain ⟨r, hr, q3⟩ := q2
  exact ⟨c2, d, e, r, r1.step p2, r2, hr, q3 c2 H2 _ s2 (p1.trans p2) (.bl r)⟩
theorem redX_app {i : Nat} {e : E} {Q : VK} (q : tX X fi W (xev call (.app i e)) σ H Q) : tBM X.K "list" rAppend (tVar i) (tCons (tX X fi W (xev call e)) tNil) σ H Q := by
  obtain ⟨c, st, hs, q⟩ := q
  unfold xev at q
  split at q
  · exact q.elim
  rename_i ho
  rw [okX_bind] at q
  obtain ⟨a, ws, e0, e1⟩ := ownL_slot hs ho
  refine ⟨_, e0, .inl ⟨rfl, ws, SqL.of e1⟩, c, st, hs, q.mono fun d st2 q2 c2 H2 v s2 p2 r2 => ?_⟩
  dsimp only at q2
  cases e : ownOf st2.ρ[i]? with
  | none => rw [e] at q2; exact q2.elim
  | some cl =>
    rw [e] at q2
    cases cl with
    | lst xs =>
      dsimp only at q2
      split at q2
      · rename_i hl
        obtain ⟨b, f1, f2, f3, ⟨us, f4, f5⟩, f6⟩ := own_slot s2 e
        rw [e0] at f1; cases f1
        refine ⟨a, us, _, rfl, rfl, f4, by rw [f5.length]; exact Nat.lt_of_lt_of_le hl line_le, ?_⟩
        refine q2 c2 _ .non (s2.chg f6 e0 ⟨_, upd_same, (f5.append (.cons r2 .nil)).step (.wr f2)⟩) (p2.trans (.wr f2)) .non
      · exact q2.elim
    | _ => exact q2.elim
/-- an expression out of which an error may come -/
theorem sndX : ∀ (e : E) (X : Cx) (e' : Expr), Ok T call X sc → Takes X W → trE T X.N e sc e' = true → PE X e' (tX X fi W (xev call e))
  | .call f es, X, e', ok, tk, h => by
    unfold trE at h; split at h
    · simp only [Bool.and_eq_true] at h
      obtain ⟨⟨h1, h2⟩, h3⟩ := h
      obtain ⟨ps, kt, hf⟩ := fn_any ok (by simpa only [Bool.and_eq_true] using h2)
      obtain ⟨g1, g2⟩ := glB_ok ok h1
      obtain ⟨l1, l2⟩ := trEs_len h3
      exact PE.imp (pe_fnS hf tk g1 g2 (pa_of (sndEs es sc X _ ok h3) l1 l2) (nil_of l1) l2) fun σ H Q q => redX_call q
    · cases h
  | .new cn f es, X, e', ok, tk, h => by
    unfold trE at h; split at h
    · simp only [Bool.and_eq_true, decide_eq_true_eq] at h
      obtain ⟨⟨⟨⟨rfl, h1⟩, h2⟩, h3⟩, h4⟩ := h
      obtain ⟨ps, b, fd, k, g1, g2, g3⟩ := mt_any ok (by simpa only [Bool.and_eq_true, decide_eq_true_eq] using h3)
      obtain ⟨k1, k2⟩ := glB_ok ok h1
      obtain ⟨l1, l2⟩ := trEs_len h4
      exact PE.imp (pe_makeS (g2 rfl) g3.ok g3.room k1 (ok.cl _ h2).1 g3.pos (passAt tk) (pa_of (sndEs es sc X _ ok h4) l1 l2) (nil_of l1) k2 l2) fun σ H Q q => redX_new q
    · cases h
  | .meth a cn m f es, X, e', ok, tk, h => by
    unfold trE at h; split at h
    · simp only [Bool.and_eq_true, decide_eq_true_eq] at h
      obtain ⟨⟨⟨⟨⟨⟨⟨rfl, h1⟩, h2⟩, h3⟩, h4⟩, h5⟩, h6⟩, h7⟩ := h
      obtain ⟨ps, b, fd, k, g1, g2, g3⟩ := mt_any ok (by simpa only [Bool.and_eq_true, decide_eq_true_eq] using h5)
      obtain ⟨l1, l2⟩ := trEs_len h7
      exact PE.imp (pe_methS (sndX a X _ ok tk h6) (ok.cl cn h4).2 g1 g3.ok (g3.room.mono (Nat.le_succ _)) g3.pos (passAt tk) (pa_of (sndEs es sc X _ ok h7) l1 l2) (nil_of l1) h1 h2 l2 h3) fun σ H Q q => redX_meth q
    · cases h
  | .ife k a b, X, e', ok, tk, h => by
    unfold trE at h; split at h
    · simp only [Bool.and_eq_true] at h
      obtain ⟨⟨h1, h2⟩, h3⟩ := h
      exact PE.imp (pe_ifExp ((sndE k sc X _ ok h1).pt fi) (sndX a X _ ok tk h2) (sndX b X _ ok tk h3)) fun σ H Q q => redX_ife q
    · cases h
  | .cmp op a b, X, e', ok, tk, h => by
    unfold trE at h; split at h
    · simp only [Bool.and_eq_true, Bool.not_eq_true'] at h
      obtain ⟨⟨⟨h1, h2⟩, h3⟩, h4⟩ := h
      have ho := COp.is_eq h1
      subst ho
      have hu : X.A.units + 65 < cLine := by have := ok.un; omega
      exact PE.imp (pe_cmpR (opr_cmp hu op) (sndX a X _ ok tk h3) ((sndE b sc X _ ok h4).pe fi) h2) fun σ H Q q => redX_cmp q
    · cases h
  | .app i a, X, e', ok, tk, h => by
    unfold trE at h; split at h
    · simp only [Bool.and_eq_true, decide_eq_true_eq] at h
      obtain ⟨⟨⟨⟨rfl, h1⟩, h2⟩, h3⟩, h4⟩ := h
      obtain ⟨k1, k2, k3, k4⟩ := nmB_ok ok h1
      exact PE.imp (pd_bm PySem.F.slot_list_append PySem.F.type_list_append mt_append k1 k2 k3 k4 (pa_cons (sndX a X _ ok tk h4) pa_nil (starN h3)) h3 h2 rfl) fun σ H Q q => redX_app q
    · cases h
  | .var i, X, e', ok, tk, h => PE.imp ((sndE _ sc X _ ok h).pe fi) fun σ H Q q => tX_strict (r := ev call _) q
  | .con i, X, e', ok, tk, h => PE.imp ((sndE _ sc X _ ok h).pe fi) fun σ H Q q => tX_strict (r := ev call _) q
  | .glo .., X, e', ok, tk, h => PE.imp ((sndE _ sc X _ ok h).pe fi) fun σ H Q q => tX_strict (r := ev call _) q
  | .tup .., X, e', ok, tk, h => PE.imp ((sndE _ sc X _ ok h).pe fi) fun σ H Q q => tX_strict (r := ev call _) q
  | .lst .., X, e', ok, tk, h => PE.imp ((sndE _ sc X _ ok h).pe fi) fun σ H Q q => tX_strict (r := ev call _) q
  | .bin .., X, e', ok, tk, h => PE.imp ((sndE _ sc X _ ok h).pe fi) fun σ H Q q => tX_strict (r := ev call _) q
  | .neg .., X, e', ok, tk, h => PE.imp ((sndE _ sc X _ ok h).pe fi) fun σ H Q q => tX_strict (r := ev call _) q
  | .chn .., X, e', ok, tk, h => PE.imp ((sndE _ sc X _ ok h).pe fi) fun σ H Q q => tX_strict (r := ev call _) q
  | .isn .., X, e', ok, tk, h => PE.imp ((sndE _ sc X _ ok h).pe fi) fun σ H Q q => tX_strict (r := ev call _) q
  | .isb .., X, e', ok, tk, h => PE.imp ((sndE _ sc X _ ok h).pe fi) fun σ H Q q => tX_strict (r := ev call _) q
  | .and .., X, e', ok, tk, h => PE.imp ((sndE _ sc X _ ok h).pe fi) fun σ H Q q => tX_strict (r := ev call _) q
  | .or .., X, e', ok, tk, h => PE.imp ((sndE _ sc X _ ok h).pe fi) fun σ H Q q => tX_strict (r := ev call _) q
  | .not .., X, e', ok, tk, h => PE.imp ((sndE _ sc X _ ok h).pe fi) fun σ H Q q => tX_strict (r := ev call _) q
  | .callo .., X, e', ok, tk, h => PE.imp ((sndE _ sc X _ ok h).pe fi) fun σ H Q q => tX_strict (r := ev call _) q
  | .callk .., X, e', ok, tk, h => PE.imp ((sndE _ sc X _ ok h).pe fi) fun σ H Q q => tX_strict (r := ev call _) q
  | .bi .., X, e', ok, tk, h => PE.imp ((sndE _ sc X _ ok h).pe fi) fun σ H Q q => tX_strict (r := ev call _) q
  | .isi .., X, e', ok, tk, h => PE.imp ((sndE _ sc X _ ok h).pe fi) fun σ H Q q => tX_strict (r := ev call _) q
  | .sub .., X, e', ok, tk, h => PE.imp ((sndE _ sc X _ ok h).pe fi) fun σ H Q q => tX_strict (r := ev call _) q
  | .slc .., X, e', ok, tk, h => PE.imp ((sndE _ sc X _ ok h).pe fi) fun σ H Q q => tX_strict (r := ev call _) q
  | .rngT .., X, e', ok, tk, h => PE.imp ((sndE _ sc X _ ok h).pe fi) fun σ H Q q => tX_strict (r := ev call _) q
  | .rngL .., X, e', ok, tk, h => PE.imp ((sndE _ sc X _ ok h).pe fi) fun σ H Q q => tX_strict (r := ev call _) q
  | .lenO .., X, e', ok, tk, h => PE.imp ((sndE _ sc X _ ok h).pe fi) fun σ H Q q => tX_strict (r := ev call _) q
  | .subO .., X, e', ok, tk, h => PE.imp ((sndE _ sc X _ ok h).pe fi) fun σ H Q q => tX_strict (r := ev call _) q
  | .inO .., X, e', ok, tk, h => PE.imp ((sndE _ sc X _ ok h).pe fi) fun σ H Q q => tX_strict (r := ev call _) q
  | .eqO .., X, e', ok, tk, h => PE.imp ((sndE _ sc X _ ok h).pe fi) fun σ H Q q => tX_strict (r := ev call _) q
  | .cpO .., X, e', ok, tk, h => PE.imp ((sndE _ sc X _ ok h).pe fi) fun σ H Q q => tX_strict (r := ev call _) q
  | .ext .., X, e', ok, tk, h => PE.imp ((sndE _ sc X _ ok h).pe fi) fun σ H Q q => tX_strict (r := ev call _) q
  | .pop .., X, e', ok, tk, h => PE.imp ((sndE _ sc X _ ok h).pe fi) fun σ H Q q => tX_strict (r := ev call _) q
  | .popA .., X, e', ok, tk, h => PE.imp ((sndE _ sc X _ ok h).pe fi) fun σ H Q q => tX_strict (r := ev call _) q
  | .idx .., X, e', ok, tk, h => PE.imp ((sndE _ sc X _ ok h).pe fi) fun σ H Q q => tX_strict (r := ev call _) q
  | .lc .., X, e', ok, tk, h => PE.imp ((sndE _ sc X _ ok h).pe fi) fun σ H Q q => tX_strict (r := ev call _) q
  | .lc2 .., X, e', ok, tk, h => PE.imp ((sndE _ sc X _ ok h).pe fi) fun σ H Q q => tX_strict (r := ev call _) q
  | .dci .., X, e', ok, tk, h => PE.imp ((sndE _ sc X _ ok h).pe fi) fun σ H Q q => tX_strict (r := ev call _) q
  | .dct .., X, e', ok, tk, h => PE.imp ((sndE _ sc X _ ok h).pe fi) fun σ H Q q => tX_strict (r := ev call _) q
  | .emp .., X, e', ok, tk, h => PE.imp ((sndE _ sc X _ ok h).pe fi) fun σ H Q q => tX_strict (r := ev call _) q
  | .cell .., X, e', ok, tk, h => PE.imp ((sndE _ sc X _ ok h).pe fi) fun σ H Q q => tX_strict (r := ev call _) q
  | .attr .., X, e', ok, tk, h => PE.imp ((sndE _ sc X _ ok h).pe fi) fun σ H Q q => tX_strict (r := ev call _) q
  | .inM .., X, e', ok, tk, h => PE.imp ((sndE _ sc X _ ok h).pe fi) fun σ H Q q => tX_strict (r := ev call _) q
  | .lenM .., X, e', ok, tk, h => PE.imp ((sndE _ sc X _ ok h).pe fi) fun σ H Q q => tX_strict (r := ev call _) q
  | .appM .., X, e', ok, tk, h => PE.imp ((sndE _ sc X _ ok h).pe fi) fun σ H Q q => tX_strict (r := ev call _) q
  | .popM .., X, e', ok, tk, h => PE.imp ((sndE _ sc X _ ok h).pe fi) fun σ H Q q => tX_strict (r := ev call _) q
  | .cpM .., X, e', ok, tk, h => PE.imp ((sndE _ sc X _ ok h).pe fi) fun σ H Q q => tX_strict (r := ev call _) q
  | .eqM .., X, e', ok, tk, h => PE.imp ((sndE _ sc X _ ok h).pe fi) fun σ H Q q => tX_strict (r := ev call _) q
end
end NW
set_option autoImplicit false
set_option linter.all false
set_option maxRecDepth 100000
set_option maxHeartbeats 1000000
/-! NwStm: statements. -/
namespace NW
open PySem PyProof.Rows L2

section
variable (X : Cx) (fi : Fi)
/-- what is wanted behind a statement, by how it ended -/
def FlP (D : Ends) (c : Cn) (H : Hp) : NW.Flow → St → Prop
  | .nx, st' => ∀ c' σ' H', SR X fi c' σ' H' st' → Stp c H c' H' → D.nx σ' H'
  | .brk, st' => ∀ c' σ' H', SR X fi c' σ' H' st' → Stp c H c' H' → D.bk σ' H'
  | .ct, st' => ∀ c' σ' H', SR X fi c' σ' H' st' → Stp c H c' H' → D.ct σ' H'
  | .ret d, st' => ∀ c' σ' H' v, SR X fi c' σ' H' st' → RP X c' H' v d → D.rt v H'
  | .reto d, st' => ∀ c' σ' H' a cl, SR X fi c' σ' H' st' → cellOf d = some cl → OwnAt X.prog X.w X.K fi c' σ' H' st' a cl → D.rt (.ref a) H'
def tS (Wx : WX) (r : St → Res (NW.Flow × St)) : TS := fun D σ H => ∃ c st, SR X fi c σ H st ∧ okX (exW X fi Wx) (r st) (FlP X fi D c H)
end
theorem PS.imp {X : Cx} {s : Stmt} {t t' : TS} (h : PS X s t) (k : ∀ D σ H, t' D σ H → t D σ H) : PS X s t' := ⟨fun pins s σ H D I q => h.run pins s σ H D I (k _ _ _ q)⟩
theorem PSs.imp {X : Cx} {s : List Stmt} {t t' : TS} (h : PSs X s t) (k : ∀ D σ H, t' D σ H → t D σ H) : PSs X s t' := ⟨fun pins s σ H D I q => h.run pins s σ H D I (k _ _ _ q)⟩

section
variable {X : Cx} {fi : Fi} {call : Call} {W : Nat} {Wx : WX} {c : Cn} {σ : L2.St} {H : Hp} {st : St} {D : Ends}
theorem FlP.mono {D D' : Ends} {c c0 : Cn} {H H0 : Hp} {fl : NW.Flow} {s : St} (h : FlP X fi D c0 H0 fl s) (p : Stp c0 H0 c H) (h1 : ∀ σ H, D.nx σ H → D'.nx σ H) (h2 : ∀ σ H, D.bk σ H → D'.bk σ H) (h3 : ∀ σ H, D.ct σ H → D'.ct σ H) (h4 : ∀ v H, D.rt v H → D'.rt v H) : FlP X fi D' c H fl s := by
  cases fl with
  | nx => exact fun c' σ' H' a b => h1 _ _ (h c' σ' H' a (p.trans b))
  | brk => exact fun c' σ' H' a b => h2 _ _ (h c' σ' H' a (p.trans b))
  | ct => exact fun c' σ' H' a b => h3 _ _ (h c' σ' H' a (p.trans b))
  | ret d => exact fun c' σ' H' v a b => h4 _ _ (h c' σ' H' v a b)
  | reto d => exact fun c' σ' H' v cl a b o => h4 _ _ (h c' σ' H' v cl a b o)

/-! ### small statements -/
theorem red_set {i : Nat} {e : E} (q : tS X fi Wx (run call W (.set i e)) D σ H) : tAsg (tX X fi Wx (xev call e)) (gName i) D σ H := by
  obtain ⟨c, st, hs, q⟩ := q
  unfold run at q
  rw [okX_bind] at q
  refine ⟨c, st, hs, q.mono fun d st1 q1 c1 H1 x s1 p1 r1 => ?_⟩
  dsimp only at q1
  split at q1
  · exact q1 c1 _ H1 (s1.setVal r1) p1
  · exact q1.elim
theorem red_own {i : Nat} {e : E} (q : tS X fi Wx (run call W (.own i e)) D σ H) : tAsg (tOD X fi call e) (gName i) D σ H := by
  obtain ⟨c, st, hs, q⟩ := q
  unfold run at q
  rw [okX_str] at q
  refine ⟨c, st, hs, q.mono fun d st1 q1 => ?_⟩
  dsimp only at q1
  cases e : cellOf d with
  | none => rw [e] at q1; exact q1.elim
  | some cl =>
    rw [e] at q1
    dsimp only at q1
    refine ⟨cl, rfl, fun c1 H1 a s1 p1 o => ?_⟩
    split at q1
    · exact q1 c1 _ H1 (s1.setOwn o) p1
    · exact q1.elim
theorem red_tup {tg : Tg} {e : E} (q : tS X fi Wx (run call W (.tup tg e)) D σ H) : tAsg (tD X fi call e) (gR X fi tg) D σ H := by
  obtain ⟨c, st, hs, q⟩ := q
  unfold run at q
  rw [okX_str] at q
  refine ⟨c, st, hs, q.mono fun d st1 q1 c1 H1 x s1 p1 r1 => ?_⟩
  rw [okX_of] at q1
  obtain ⟨ρ, e, q2⟩ := q1
  exact ⟨c1, st1, d, ρ, s1, r1, e, fun σ' s2 _ => q2 c1 σ' H1 s2 p1⟩
theorem red_ex {e : E} (q : tS X fi Wx (run call W (.ex e)) D σ H) : tDrop (tX X fi Wx (xev call e)) D σ H := by
  obtain ⟨c, st, hs, q⟩ := q
  unfold run at q
  rw [okX_bind] at q
  exact ⟨c, st, hs, q.mono fun d st1 q1 c1 H1 x s1 p1 r1 => q1 c1 σ H1 s1 p1⟩
theorem red_ret {e : E} (q : tS X fi Wx (run call W (.ret e)) D σ H) : tRet (tX X fi Wx (xev call e)) D σ H := by
  obtain ⟨c, st, hs, q⟩ := q
  unfold run at q
  rw [okX_bind] at q
  exact ⟨c, st, hs, q.mono fun d st1 q1 c1 H1 x s1 p1 r1 => q1 c1 σ H1 x s1 r1⟩
theorem red_retN (q : tS X fi Wx (run call W (.ret (.con .non))) D σ H) : tRetN D σ H := by
  obtain ⟨c, st, hs, q⟩ := q
  unfold run xev strict ev at q
  exact q c σ H .non hs .non
theorem red_reto {e : E} (hc : ∀ s, okR (ev call e s) (fun d _ => (cellOf d).isSome) ∨ ev call e s = .err ∨ ∃ c s', ev call e s = .exc c s') (q : tS X fi Wx (run call W (.reto e)) D σ H) : tRet (tOD X fi call e) D σ H := by
  obtain ⟨c, st, hs, q⟩ := q
  unfold run at q
  rw [okX_str] at q
  rcases hc st with z | z | ⟨_, _, z⟩
  · cases e1 : ev call e st with
    | ok a =>
      rw [e1] at q z
      obtain ⟨cl, h1⟩ := Option.isSome_iff_exists.mp (show (cellOf a.1).isSome from z)
      refine ⟨c, st, hs, ?_⟩
      rw [e1]
      exact ⟨cl, h1, fun c1 H1 a' s1 p1 o => q c1 σ H1 a' cl s1 h1 o⟩
    | exc _ _ => rw [e1] at q; exact q.elim
    | err => rw [e1] at q; exact q.elim
  · rw [z] at q; exact q.elim
  · rw [z] at q; exact q.elim
theorem red_aug {i : Nat} {op : BOp} {e : E} {k : Int → Int → Int} (ho : (op = .add ∧ k = fun i j => i + j) ∨ (op = .sub ∧ k = fun i j => i - j)) (q : tS X fi Wx (run call W (.aug i op e)) D σ H) : tAug i (tD X fi call e) (ipI k) D σ H := by
  obtain ⟨c, st, hs, q⟩ := q
  unfold run at q
  cases e0 : st.ρ[i]? with
  | none => rw [e0] at q; exact q.elim
  | some sl =>
    rw [e0] at q
    cases sl with
    | no => exact q.elim
    | own _ => exact q.elim
    | val x =>
      dsimp only at q
      rw [okX_str] at q
      obtain ⟨v, e1, r0⟩ := hs.slot i _ e0
      refine ⟨v, e1, c, st, hs, q.mono fun d st1 q1 c1 H1 y s1 p1 r1 => ?_⟩
      cases x with
      | int a =>
        cases d with
        | int b =>
          cases r0
          cases r1
          rcases ho with ⟨rfl, rfl⟩ | ⟨rfl, rfl⟩
          · exact ⟨a, b, rfl, rfl, q1 c1 _ H1 (s1.setVal (.int (a + b))) p1⟩
          · exact ⟨a, b, rfl, rfl, q1 c1 _ H1 (s1.setVal (.int (a - b))) p1⟩
        | _ => exact q1.elim
      | _ => exact q1.elim

/-! ### stores into lists and dicts -/
def tSetD (X : Cx) : TSet := fun o i v H Q => ∃ c a cl cl' k d, o = .ref a ∧ c.A a ∧ CellR X.prog X.w X.K c H a cl ∧ RP X c H i k ∧ RP X c H v d ∧ setCell cl k d = some cl' ∧ ∀ o', CellR X.prog X.w X.K c (upd H a o') a cl' → Q (upd H a o')
theorem set_D (hu : X.A.units + 65 < cLine) : PSet X (tSetD X) := by
  intro pins s σ H o i v ov iv u Q I ro ri rv ⟨c, a, cl, cl', k, d, eo, hA, hc, rk, rd, hset, q⟩
  subst eo
  cases ro
  cases cl with
  | lst xs =>
    obtain ⟨vs, h1, h2⟩ := hc
    cases k with
    | int j =>
      cases rk
      simp only [setCell, Option.map_eq_some_iff] at hset
      obtain ⟨n, e1, e2⟩ := hset
      subst e2
      rw [← h2.length, ixD_eq] at e1
      exact set_list pins s σ H (.ref a) (.int j) v _ iv u Q I rfl ri rv ⟨a, vs, j, n, rfl, rfl, h1, e1, q _ ⟨_, upd_same, (h2.set rd n).step (.wr hA)⟩⟩
    | _ => cases hset
  | dci ks ds =>
    obtain ⟨kvs, h1, h2, h3⟩ := hc
    cases k with
    | int j =>
      cases rk
      simp only [setCell] at hset
      split at hset
      · rename_i hl
        cases hset
        have hl' : kvs.length < sizeLine := by
          have := congrArg List.length h2
          simp at this
          rw [this]
          exact Nat.lt_of_lt_of_le hl line_le
        obtain ⟨g1, g2⟩ := putI_rel (k := j) rd h2 h3
        exact d_setItem (by omega) I (DPut.k (k := .inl j) (v := v) h1 hl') ri rv fun s' I' => ⟨_, I', q _ ⟨_, upd_same, g1, g2.step (.wr hA)⟩⟩
      · cases hset
    | _ => cases hset
  | dct ks ds =>
    obtain ⟨es, h1, h2, kt, h3, h4⟩ := hc
    have hset : (if (keyT k && decide (ks.length < line)) = true then some (Cell.dct (putT ks ds k d).1 (putT ks ds k d).2) else none) = some cl' := by cases k <;> exact hset
    split at hset
    · rename_i hl
      simp only [Bool.and_eq_true, decide_eq_true_eq] at hl
      cases hset
      have hl' : es.length < sizeLine := by
        have := congrArg List.length h2
        simp at this
        rw [this]
        exact Nat.lt_of_lt_of_le hl.2 line_le
      refine setItem_T (by omega) I h1 h2 kt h3 hl.1 rk ri rv hl' fun b s' eb I' => ⟨_, I', q _ ?_⟩
      subst eb
      have hlen : ds.length = es.length := by rw [← h4.length, List.length_map]
      have g1 := putE_keys es ds k b v d hlen
      rw [h2] at g1
      have g2 := putE_addr (v := v) rk h2 h3
      have g3 := putE_vals (k := k) (a := b) rd (es := es) h4
      rw [h2] at g3
      refine ⟨_, upd_same, g1, fun x hx => ?_, by rw [← g1]; exact g2.step (.wr hA), g3.step (.wr hA)⟩
      rw [← g1] at hx
      rcases putE_key es k b v x hx with z | z
      · rw [h2] at z; exact kt x z
      · rw [z]; exact hl.1
    · cases hset
  | ins _ _ => exact hc.elim
theorem red_seti {i : Nat} {k e : E} (q : tS X fi Wx (run call W (.seti i k e)) D σ H) : tAsg (tD X fi call e) (gSub (tVar i) (tD X fi call k) (tSetD X)) D σ H := by
  obtain ⟨c, st, hs, q⟩ := q
  unfold run at q
  rw [okX_str] at q
  refine ⟨c, st, hs, q.mono fun d st1 q1 c1 H1 x s1 p1 r1 => ?_⟩
  dsimp only at q1
  split at q1
  · exact q1.elim
  rename_i hsome
  obtain ⟨v0, e0⟩ := held_some s1 hsome
  rw [okX_str] at q1
  refine ⟨v0, e0, c1, st1, s1, q1.mono fun kd st2 q2 c2 H2 y s2 p2 r2 => ?_⟩
  dsimp only at q2
  cases e1 : ownOf st2.ρ[i]? with
  | none => rw [e1] at q2; exact q2.elim
  | some cl =>
    rw [e1] at q2
    have q2 := okX_of.mp q2
    obtain ⟨cl', e2, q3⟩ := q2
    obtain ⟨a, f1, f2, f3, f4, f5⟩ := own_slot s2 e1
    rw [e0] at f1; cases f1
    exact ⟨c2, a, cl, cl', kd, d, rfl, f2, f4, r2, r1.step p2, e2, fun o' hc => q3 c2 σ _ (s2.chg f5 e0 hc) ((p1.trans p2).trans (.wr f2))⟩
theorem red_setc {a k e : E} (q : tS X fi Wx (run call W (.setc a k e)) D σ H) : tAsg (tD X fi call e) (gSub (tD X fi call a) (tD X fi call k) (tSetD X)) D σ H := by
  obtain ⟨c, st, hs, q⟩ := q
  unfold run at q
  rw [okX_str] at q
  refine ⟨c, st, hs, q.mono fun d st1 q1 c1 H1 x s1 p1 r1 => ⟨c1, st1, s1, ?_⟩⟩
  rw [okX_str] at q1
  refine q1.mono fun o st2 q2 c2 H2 y s2 p2 r2 => ⟨c2, st2, s2, ?_⟩
  rw [okX_str] at q2
  refine q2.mono fun kd st3 q3 c3 H3 z s3 p3 r3 => ?_
  dsimp only at q3
  cases o with
  | mref n =>
    dsimp only at q3
    cases e1 : st3.F[n]? with
    | none => rw [e1] at q3; exact q3.elim
    | some cl =>
      rw [e1] at q3
      have q3 := okX_of.mp q3
      obtain ⟨cl', e2, q4⟩ := q3
      have r2 := r2.step p3
      cases r2 with
      | mref hn =>
        obtain ⟨a', g1, g2⟩ := s3.ct.cell n cl e1
        rw [hn] at g1; cases g1
        have hA := s3.ct.fA _ (List.mem_of_getElem? hn)
        have hsh : sharedOk cl = true := by
          cases cl with
          | ins _ _ => cases kd <;> cases e2
          | _ => rfl
        exact ⟨c3, _, cl, cl', kd, d, rfl, hA, g2.toR hsh, r3, (r1.step p2).step p3, e2, fun o' hc => q4 c3 σ _ (s3.chgF hn hc.toF) (((p1.trans p2).trans p3).trans (.wr hA))⟩
  | _ => exact q3.elim

/-! ### fields -/
theorem red_seta {a e : E} {cn f : Str} (hc : Cls X.K (He.ga X.K cn)) (hn : NoAttr X.K (He.ga X.K cn) f) (q : tS X fi Wx (run call W (.seta a cn f e)) D σ H) : sFld X.K (tD X fi call a) (tX X fi Wx (xev call e)) f D σ H := by
  obtain ⟨c, st, hs, q⟩ := q
  unfold run at q
  rw [okX_bind] at q
  refine ⟨c, st, hs, q.mono fun d st1 q1 c1 H1 y s1 p1 r1 => ⟨c1, st1, s1, ?_⟩⟩
  rw [okX_str] at q1
  refine q1.mono fun o st2 q2 c2 H2 x s2 p2 r2 => ?_
  dsimp only at q2
  cases ei : insOf st2.F o with
  | none => rw [ei] at q2; exact q2.elim
  | some t =>
    obtain ⟨n, cn', fs⟩ := t
    rw [ei] at q2
    dsimp only at q2
    split at q2
    · rename_i ec
      obtain ⟨rfl, hl⟩ := ec
      obtain ⟨b, dx, vs, rfl, rfl, e1, e2, e3, e4⟩ := ins_rel s2.ct r2 ei
      have hA := s2.ct.fA _ (List.mem_of_getElem? e1)
      have hl2 : vs.length = fs.length := by have := congrArg List.length e3; simpa using this
      obtain ⟨g1, g2⟩ := setF_rel (f := f) (r1.step p2) e3 e4
      refine ⟨b, _, dx, vs, rfl, e2, hc, hn, by unfold fieldMax at hl; omega, q2 c2 σ _ (s2.chgF e1 (cl := .ins _ (setF fs f d)) ⟨dx, _, upd_same, g1, g2.step (.wr hA)⟩) ((p1.trans p2).trans (.wr hA))⟩
    · exact q2.elim
/-- self.f as a target -/
def gFld (K : PySem.W.Frag) (ta : TE) (f : Str) : TG := fun v σ H Q => ta σ H fun x H2 => ∃ a C dx fs, x = .ref a ∧ H2 a = some (.ins C dx fs) ∧ Cls K C ∧ NoAttr K C f ∧ fs.length < 1000 ∧ Q σ (upd H2 a (.ins C dx (putF f v fs)))
theorem pg_fldD {o : Expr} {f : Str} {pos : Pos} {ta : TE} (ho : PE X o ta) : PG X (.Attribute o f pos) (gFld X.K ta f) := by
  refine ⟨fun pins s σ H v u Q I r h => ?_⟩
  show wpAny _ _ (do
    let ov ← holding [u] (eval o X.env)
    standAt pos.atName
    holding [u, ov] (setAttr ov f u)
    release [u, ov] []) _ _ s
  refine wpAny_bind (wpAny_holding (thn (ho.run pins s σ H _ I h) fun ov s1 ⟨x, H1, I1, r1, a, C, dx, fs, ex, ea, hc, hn, hl, q⟩ => ?_))
  subst ex
  obtain rfl : ov = Value.ref a := r1
  refine wpAny_bind (wpAny_standAt (wpAny_bind (wpAny_holding ?_)))
  exact setattr_ok I1 ea hc hn hl r fun s2 I2 => wpAny_release ⟨σ, _, I2, q⟩
/-- targets self.f, self.g, .. -/
def gFlds (K : PySem.W.Frag) (ta : TE) : List Str → TGs
  | [] => fun vs σ H Q => vs = [] ∧ Q σ H
  | f :: fs => fun vs σ H Q => ∃ v r, vs = v :: r ∧ gFld K ta f v σ H fun σ' H' => gFlds K ta fs r σ' H' Q
theorem foldF_len : ∀ (ps : List (Str × NW.D)) (gs : List (Str × NW.D)), (ps.foldl (fun g p => setF g p.1 p.2) gs).length ≤ gs.length + ps.length
  | [], gs => by simp
  | p :: ps, gs => by
    have h1 := foldF_len ps (setF gs p.1 p.2)
    have h2 := setF_len p.1 p.2 gs
    simp only [List.foldl_cons, List.length_cons]
    omega
theorem red_taga_main {cn : Str} {n : Nat} {a : Addr} {dx : Addr} {Q : L2.St → Hp → Prop} (hc : Cls X.K (He.ga X.K cn)) : ∀ (fs : List Str) (ds : List NW.D) (ws : List V) {c : Cn} {H : Hp} {st : St} {gs : List (Str × NW.D)} {vs : List (Str × V)}, (∀ f ∈ fs, NoAttr X.K (He.ga X.K cn) f) → ds.length = fs.length → SR X fi c σ H st → RPs X c H ws ds →
    σ[0]? = some (some (.ref a)) → c.φ[n]? = some a → st.F[n]? = some (.ins cn gs) → H a = some (.ins (He.ga X.K cn) dx vs) → vs.map (·.1) = gs.map (·.1) → RPs X c H (vs.map (·.2)) (gs.map (·.2)) → gs.length + fs.length < fieldMax →
    (∀ H' c' st', SR X fi c' σ H' st' → Stp c H c' H' → st' = { st with F := st.F.set n (.ins cn ((fs.zip ds).foldl (fun g p => setF g p.1 p.2) gs)) } → Q σ H') → gFlds X.K (tVar 0) fs ws σ H Q
  | [], [], ws, c, H, st, gs, vs, _, _, hs, r, _, hn, hF, _, _, _, _, q => by
    cases r
    refine ⟨rfl, q H c st hs (.refl c H) ?_⟩
    show st = { st with F := st.F.set n (.ins cn gs) }
    have : st.F.set n (.ins cn gs) = st.F := by
      apply List.ext_getElem?
      intro i
      by_cases hi : i = n
      · subst hi
        rw [List.getElem?_set_self (List.getElem?_eq_some_iff.mp hF).1, hF]
      · rw [List.getElem?_set_ne (Ne.symm hi)]
    rw [this]
  | f :: fs, d :: ds, ws, c, H, st, gs, vs, hna, hl, hs, r, hσ, hn, hF, hH, hk, hv, hm, q => by
    cases r with
    | cons r1 r2 =>
      rename_i w ws
      have hA := hs.ct.fA _ (List.mem_of_getElem? hn)
      have hl2 : vs.length = gs.length := by have := congrArg List.length hk; simpa using this
      obtain ⟨g1, g2⟩ := setF_rel (f := f) r1 hk hv
      have hs1 := hs.chgF hn (cl := .ins cn (setF gs f d)) (o := .ins (He.ga X.K cn) dx (putF f w vs)) ⟨dx, _, upd_same, g1, g2.step (.wr hA)⟩
      have p1 : Stp c H c (upd H a (.ins (He.ga X.K cn) dx (putF f w vs))) := .wr hA
      refine ⟨w, ws, rfl, .ref a, hσ, a, _, dx, vs, rfl, hH, hc, hna f List.mem_cons_self, by unfold fieldMax at hm; omega, ?_⟩
      have hnl := (List.getElem?_eq_some_iff.mp hF).1
      refine red_taga_main hc fs ds ws (fun g hg => hna g (List.mem_cons_of_mem _ hg)) (by simpa using hl) hs1 (r2.step p1) hσ hn (by simp [hnl]) upd_same g1 (g2.step p1) ?_ fun H' c' st' s' p' e' => q H' c' st' s' (p1.trans p') ?_
      · have := setF_len f d gs
        simp only [List.length_cons] at hm
        omega
      · rw [e']
        simp [List.set_set]
  | [], _ :: _, _, _, _, _, _, _, _, hl, _, _, _, _, _, _, _, _, _, _ => by simp at hl
  | _ :: _, [], _, _, _, _, _, _, _, hl, _, _, _, _, _, _, _, _, _, _ => by simp at hl

/-- the written targets -/
def fldsB (N : List Str) (sc : Scope) : List Str → List Expr → Bool
  | [], es => match es with
    | [] => true
    | _ => false
  | f :: fs, es => match es with
    | .Attribute (.Name x _) g _ :: es => decide (g = f) && nmB N sc 0 x && fldsB N sc fs es
    | _ => false
theorem pgs_flds {T : Tab} {sc : Scope} (ok : Ok T call X sc) : ∀ (fs : List Str) (es : List Expr), fldsB X.N sc fs es = true → PGs X es (gFlds X.K (tVar 0) fs) ∧ (assignEach es X.env).length = fs.length ∧ (assignEach es X.env).findIdx? (·.1) = none
  | [], [], _ => ⟨⟨fun pins s σ H vs us Q I r h => pgs_nil.run pins s σ H vs us Q I r h⟩, rfl, rfl⟩
  | f :: fs, .Attribute (.Name x px) g p :: es, h => by
    unfold fldsB at h
    simp only [Bool.and_eq_true, decide_eq_true_eq] at h
    obtain ⟨⟨rfl, h1⟩, h2⟩ := h
    obtain ⟨k1, k2, k3, k4⟩ := nmB_ok ok h1
    obtain ⟨i1, i2, i3⟩ := pgs_flds ok fs es h2
    have ea : assignEach (.Attribute (.Name x px) g p :: es) X.env = (false, assign (.Attribute (.Name x px) g p) X.env) :: assignEach es X.env := rfl
    refine ⟨⟨fun pins s σ H vs us Q I r h => (pgs_cons (pg_fldD (pe_var k1 k2 k3 k4)) i1 rfl).run pins s σ H vs us Q I r h⟩, by rw [ea]; simp [i2], by rw [ea]; simp [List.findIdx?_cons, i3]⟩
  | [], _ :: _, h => by unfold fldsB at h; cases h
  | _ :: _, [], h => by unfold fldsB at h; cases h
  | f :: fs, e :: es, h => by
    unfold fldsB at h
    split at h
    · rename_i x px g p es' heq
      cases heq
      simp only [Bool.and_eq_true, decide_eq_true_eq] at h
      obtain ⟨⟨rfl, h1⟩, h2⟩ := h
      obtain ⟨k1, k2, k3, k4⟩ := nmB_ok ok h1
      obtain ⟨i1, i2, i3⟩ := pgs_flds ok fs es h2
      have ea : assignEach (.Attribute (.Name x px) g p :: es) X.env = (false, assign (.Attribute (.Name x px) g p) X.env) :: assignEach es X.env := rfl
      exact ⟨⟨fun pins s σ H vs us Q I r h => (pgs_cons (pg_fldD (pe_var k1 k2 k3 k4)) i1 rfl).run pins s σ H vs us Q I r h⟩, by rw [ea]; simp [i2], by rw [ea]; simp [List.findIdx?_cons, i3]⟩
    · cases h
theorem red_taga {cn : Str} {fs : List Str} {e : E} (hc : Cls X.K (He.ga X.K cn)) (hna : ∀ f ∈ fs, NoAttr X.K (He.ga X.K cn) f) (q : tS X fi Wx (run call W (.taga cn fs e)) D σ H) : tAsg (tD X fi call e) (gTup X.K fs.length (gFlds X.K (tVar 0) fs)) D σ H := by
  obtain ⟨c, st, hs, q⟩ := q
  unfold run at q
  rw [okX_str] at q
  refine ⟨c, st, hs, q.mono fun d st1 q1 c1 H1 x s1 p1 r1 => ?_⟩
  cases d with
  | tup ds =>
    dsimp only at q1
    cases e0 : (st1.ρ[0]? : Option Slot) with
    | none => rw [e0] at q1; exact q1.elim
    | some sl =>
      rw [e0] at q1
      cases sl with
      | no => exact q1.elim
      | own _ => exact q1.elim
      | val o =>
        dsimp only at q1
        obtain ⟨v, f1, f2⟩ := s1.slot 0 _ e0
        cases ei : insOf st1.F o with
        | none => rw [ei] at q1; exact q1.elim
        | some t =>
          obtain ⟨n, cn', gs⟩ := t
          rw [ei] at q1
          dsimp only at q1
          split at q1
          · rename_i ec
            obtain ⟨rfl, hm, hl⟩ := ec
            obtain ⟨b, dx, vs, rfl, rfl, e1, e2, e3, e4⟩ := ins_rel s1.ct f2 ei
            have eF : st1.F[n]? = some (.ins cn' gs) := by
              unfold insOf at ei
              dsimp only at ei
              cases e5 : st1.F[n]? with
              | none => rw [e5] at ei; cases ei
              | some cl =>
                rw [e5] at ei
                cases cl with
                | ins _ _ => cases ei; rfl
                | _ => cases ei
            cases r1 with
            | tup g1 g2 g3 =>
              refine ⟨_, _, rfl, SqT.of g1, by rw [g3.length, hl], ?_⟩
              refine red_taga_main hc fs ds _ hna hl s1 g3 f1 e1 eF e2 e3 e4 hm fun H' c' st' s' p' e' => ?_
              subst e'
              exact q1 c' σ H' s' (p1.trans p')
          · exact q1.elim
  | _ => exact q1.elim

/-! ### two names at once -/
def tXO (X : Cx) (call : Call) (o : Bool) (e : E) : TE := if o then fun σ H Q => ∃ fi, tOD X fi call e σ H Q else tXD X call e
theorem red_par {i j : Nat} {a b : E} {oa ob : Bool} (hij : i ≠ j) (q : tS X fi Wx (run call W (.par [i, j] [a, b] [oa, ob])) D σ H) : tPar i j (tCons (tXO X call oa a) (tCons (tXO X call ob b) tNil)) D σ H := by
  obtain ⟨c, st, hs, q⟩ := q
  unfold run at q
  rw [okX_str] at q
  unfold evs at q
  rw [okR_bind] at q
  have q : okR (ev call a st) fun x s => okR (ev call b s) fun y s => okX (exW X fi Wx) ((Res.of (parS [i, j] [x, y] [oa, ob] s.ρ)).bind fun ρ => (.ok (.nx, { s with ρ := ρ }) : Res (NW.Flow × St))) (FlP X fi D c H) := okR.mono q fun x s q => by
    unfold evs at q
    rw [okR_bind, okR_bind] at q
    refine okR.mono q fun y s2 q => ?_
    unfold evs at q
    exact q
  have par : ∀ {x y : NW.D} {s : St}, okX (exW X fi Wx) ((Res.of (parS [i, j] [x, y] [oa, ob] s.ρ)).bind fun ρ => (.ok (.nx, { s with ρ := ρ }) : Res (NW.Flow × St))) (FlP X fi D c H) →
      ∃ s1 s2, (if oa then ∃ cl, cellOf x = some cl ∧ s1 = Slot.own cl else s1 = .val x) ∧ (if ob then ∃ cl, cellOf y = some cl ∧ s2 = Slot.own cl else s2 = .val y) ∧ FlP X fi D c H .nx { s with ρ := (s.ρ.set i s1).set j s2 } := fun {x y s} h => by
    rw [okX_of] at h
    obtain ⟨ρ, e, h⟩ := h
    unfold parS at e
    split at e
    · cases oa with
      | true =>
        simp only [if_true, Option.bind_eq_some_iff] at e
        obtain ⟨c1, e1, e⟩ := e
        unfold parS at e
        split at e
        · cases ob with
          | true =>
            simp only [if_true, Option.bind_eq_some_iff] at e
            obtain ⟨c2, e2, e⟩ := e
            unfold parS at e
            cases e
            exact ⟨.own c1, .own c2, ⟨c1, e1, rfl⟩, ⟨c2, e2, rfl⟩, h⟩
          | false =>
            simp only [Bool.false_eq_true, if_false] at e
            unfold parS at e
            cases e
            exact ⟨.own c1, .val y, ⟨c1, e1, rfl⟩, rfl, h⟩
        · cases e
      | false =>
        simp only [Bool.false_eq_true, if_false] at e
        unfold parS at e
        split at e
        · cases ob with
          | true =>
            simp only [if_true, Option.bind_eq_some_iff] at e
            obtain ⟨c2, e2, e⟩ := e
            unfold parS at e
            cases e
            exact ⟨.val x, .own c2, rfl, ⟨c2, e2, rfl⟩, h⟩
          | false =>
            simp only [Bool.false_eq_true, if_false] at e
            unfold parS at e
            cases e
            exact ⟨.val x, .val y, rfl, rfl, h⟩
        · cases e
    · cases e
  cases oa with
  | false =>
    refine ⟨fi, c, st, hs, q.mono fun x st1 q1 c1 H1 v s1 p1 r1 => ?_⟩
    cases ob with
    | false =>
      refine ⟨fi, c1, st1, s1, q1.mono fun y st2 q2 c2 H2 u s2 p2 r2 => ⟨v, u, rfl, ?_⟩⟩
      obtain ⟨t1, t2, e1, e2, h⟩ := par q2
      simp only [Bool.false_eq_true, if_false] at e1 e2
      subst e1 e2
      exact h c2 _ H2 ((s2.setVal (i := i) (r1.step p2)).setVal (i := j) r2) (p1.trans p2)
    | true =>
      refine ⟨fi, c1, st1, s1, q1.mono fun y st2 q2 => ?_⟩
      obtain ⟨t1, t2, e1, ⟨cl, ecl, e2⟩, h⟩ := par q2
      simp only [Bool.false_eq_true, if_false] at e1
      subst e1 e2
      refine ⟨cl, ecl, fun c2 H2 u s2 p2 o => ⟨v, .ref u, rfl, ?_⟩⟩
      have s3 := s2.setVal (i := i) (r1.step p2)
      have o3 : OwnAt X.prog X.w X.K fi c2 (σ.set i (some v)) H2 { st2 with ρ := st2.ρ.set i (.val x) } u cl := by
        refine ⟨o.A, o.nf, fun k z e3 e4 => ?_, o.cell, o.n0⟩
        have e3 : (st2.ρ.set i (.val x))[k]? = some (.own z) := e3
        by_cases hk : k = i
        · subst hk
          by_cases hl : k < st2.ρ.length
          · rw [List.getElem?_set_self hl] at e3; cases e3
          · rw [List.getElem?_eq_none (by simpa using hl)] at e3; cases e3
        · rw [List.getElem?_set_ne (Ne.symm hk)] at e3 e4
          exact o.ns k z e3 e4
      exact h c2 _ H2 (s3.setOwn (i := j) o3) (p1.trans p2)
  | true =>
    -- the first one's object is kept while the second is evaluated
    have qa := okR_ex q
    obtain ⟨x, st1, ea, qb⟩ := qa
    have qbx := okR_ex qb
    obtain ⟨y, st2, eb, qc⟩ := qbx
    obtain ⟨t1, t2, ⟨cl, ecl, e1⟩, e2, h⟩ := par qc
    subst e1
    refine ⟨fi, c, st, hs, ?_⟩
    rw [ea]
    refine ⟨cl, ecl, fun c1 H1 p s1 p1 o1 => ?_⟩
    obtain ⟨ob1, hob⟩ := Option.ne_none_iff_exists'.mp o1.cell.there
    have s1' := s1.plusF o1 hob
    have back : ∀ {c2 : Cn} {H2 : Hp}, SR X (fi.plus p ob1) c2 σ H2 st2 → Stp c1 H1 c2 H2 → SR X fi c2 σ H2 st2 ∧ OwnAt X.prog X.w X.K fi c2 σ H2 st2 p cl := fun {c2 H2} s2 p2 => by
      obtain ⟨g1, g2, g3, g4, g5⟩ := StR.unplusF s1 o1.nf o1.n0 s2
      exact ⟨g1, g3, g4, g5, o1.cell.step p2 (g2.trans hob.symm), o1.n0⟩
    cases ob with
    | false =>
      simp only [Bool.false_eq_true, if_false] at e2
      subst e2
      refine ⟨fi.plus p ob1, c1, st1, s1', ?_⟩
      rw [eb]
      intro c2 H2 u s2 p2 r2
      obtain ⟨s3, o3⟩ := back s2 p2
      refine ⟨.ref p, u, rfl, ?_⟩
      exact h c2 _ H2 ((s3.setOwn (i := i) o3).setVal (i := j) r2) (p1.trans p2)
    | true =>
      simp only [if_true] at e2
      obtain ⟨cl2, ecl2, e2⟩ := e2
      subst e2
      refine ⟨fi.plus p ob1, c1, st1, s1', ?_⟩
      rw [eb]
      refine ⟨cl2, ecl2, fun c2 H2 u s2 p2 o2 => ?_⟩
      obtain ⟨s3, o3⟩ := back s2 p2
      refine ⟨.ref p, .ref u, rfl, ?_⟩
      have up : u ≠ p := fun z => by
        have := o2.n0
        rw [z] at this
        have e : upd fi.H0 p ob1 p = none := this
        rw [upd_same] at e; cases e
      have n0u : fi.H0 u = none := by
        have e : upd fi.H0 p ob1 u = none := o2.n0
        rw [upd_ne up] at e
        exact e
      have s4 := s3.setOwn (i := i) o3
      have o4 : OwnAt X.prog X.w X.K fi c2 (σ.set i (some (.ref p))) H2 { st2 with ρ := st2.ρ.set i (.own cl) } u cl2 := by
        refine ⟨o2.A, o2.nf, fun k z e3 e4 => ?_, o2.cell, n0u⟩
        have e3 : (st2.ρ.set i (.own cl))[k]? = some (.own z) := e3
        by_cases hk : k = i
        · subst hk
          by_cases hl : k < σ.length
          · rw [List.getElem?_set_self hl] at e4; cases e4; exact up rfl
          · rw [List.getElem?_eq_none (by simpa using hl)] at e4; cases e4
        · rw [List.getElem?_set_ne (Ne.symm hk)] at e3 e4
          exact o2.ns k z e3 e4
      exact h c2 _ H2 (s4.setOwn (i := j) o4) (p1.trans p2)
end
end NW
set_option autoImplicit false
set_option linter.all false
set_option maxRecDepth 100000
set_option maxHeartbeats 1000000
/-! NwStm2: blocks and loops. -/
namespace NW
open PySem PyProof.Rows L2

section
variable {X : Cx} {fi : Fi} {call : Call} {W : Nat} {Wx : WX} {c : Cn} {σ : L2.St} {H : Hp} {st : St} {D : Ends}
theorem red_ifs {k : E} {a b : List S} (q : tS X fi Wx (run call W (.ife k a b)) D σ H) : tIfS (tB (tD X fi call k)) (tS X fi Wx (runs call W a)) (tS X fi Wx (runs call W b)) D σ H := by
  obtain ⟨c, st, hs, q⟩ := q
  unfold run at q
  rw [okX_str] at q
  refine ⟨c, st, hs, q.mono fun d st1 q1 c1 H1 x s1 p1 r1 => ?_⟩
  cases d with
  | bl p =>
    cases r1
    refine ⟨p, rfl, ?_⟩
    cases p with
    | true => exact ⟨c1, st1, s1, okX.mono q1 fun fl s f => f.mono p1 (fun _ _ z => z) (fun _ _ z => z) (fun _ _ z => z) fun _ _ z => z⟩
    | false => exact ⟨c1, st1, s1, okX.mono q1 fun fl s f => f.mono p1 (fun _ _ z => z) (fun _ _ z => z) (fun _ _ z => z) fun _ _ z => z⟩
  | _ => exact q1.elim
theorem red_nil (q : tS X fi Wx (runs call W []) D σ H) : tNext D σ H := by
  obtain ⟨c, st, hs, q⟩ := q
  unfold runs at q
  exact q c σ H hs (.refl c H)
theorem red_cons {b : S} {bs : List S} (q : tS X fi Wx (runs call W (b :: bs)) D σ H) : tSeq (tS X fi Wx (run call W b)) (tS X fi Wx (runs call W bs)) D σ H := by
  obtain ⟨c, st, hs, q⟩ := q
  unfold runs at q
  rw [okX_bind] at q
  refine ⟨c, st, hs, q.mono fun fl s q1 => ?_⟩
  cases fl with
  | nx => exact fun c' σ' H' s' p => ⟨c', s, s', okX.mono q1 fun fl s f => f.mono p (fun _ _ z => z) (fun _ _ z => z) (fun _ _ z => z) fun _ _ z => z⟩
  | brk => exact q1
  | ct => exact q1
  | ret d => exact q1
  | reto d => exact q1
theorem red_for {tg : Tg} {it : I} {b : List S} (q : tS X fi Wx (run call W (.for tg it b)) D σ H) : tFor (tIv X fi call it) (gR X fi tg) (tS X fi Wx (runs call W b)) D σ H := by
  obtain ⟨c, st, hs, q⟩ := q
  unfold run at q
  rw [okX_str] at q
  refine ⟨c, st, hs, q.mono fun xs s1 q1 c1 H1 J hs1 p1 jr => ?_⟩
  generalize hF : (fun (x : NW.D) (s : St) => (Res.of (assignTg tg x s.ρ)).bind fun ρ => runs call W b { s with ρ := ρ }) = F at q1
  have q1 : okX (exW X fi Wx) (forLoop F xs s1) (FlP X fi D c H) := q1
  refine ⟨fun i m σ Hh => m = xs.length - i ∧ i ≤ xs.length ∧ ∃ c' st', SR X fi c' σ Hh st' ∧ Stp c1 H1 c' Hh ∧ okX (exW X fi Wx) (forLoop F (xs.drop i) st') (FlP X fi D c H), ⟨xs.length, by simp, Nat.zero_le _, c1, s1, hs1, .refl _ _, by simpa using q1⟩, ?_⟩
  rintro i m σ1 Hh ⟨rfl, hi, c', st', hs', p', q2⟩
  by_cases hlt : i < xs.length
  · refine .inr ⟨jr.go i c' Hh p' hlt, fun σ' H' => ∃ c' st', SR X fi c' σ' H' st' ∧ Stp c1 H1 c' H' ∧ okX (exW X fi Wx) (forLoop F (xs.drop (i + 1)) st') (FlP X fi D c H), fun σ' H' w => ⟨xs.length - (i + 1), by omega, rfl, hlt, w⟩, fun x H' y => ?_⟩
    have ed : xs[i]? = some xs[i] := List.getElem?_eq_getElem hlt
    obtain ⟨s2, p2, rx, _⟩ := (jr.yld i _ c' Hh x H' p' ed y).use hs'
    rw [List.drop_eq_getElem_cons hlt] at q2
    simp only [forLoop] at q2
    rw [okX_bind] at q2
    have hFx : F xs[i] st' = (Res.of (assignTg tg xs[i] st'.ρ)).bind fun ρ => runs call W b { st' with ρ := ρ } := by rw [← hF]
    rw [hFx, okX_of] at q2
    obtain ⟨ρ, eρ, q3⟩ := q2
    refine ⟨c', st', _, ρ, s2, rx, eρ, fun σ2 s3 _ => ⟨c', _, s3, q3.mono fun fl s5 q5 => ?_⟩⟩
    cases fl with
    | nx => exact fun c6 σ6 H6 s6 p6 => ⟨c6, s5, s6, (p'.trans p2).trans p6, q5⟩
    | ct => exact fun c6 σ6 H6 s6 p6 => ⟨c6, s5, s6, (p'.trans p2).trans p6, q5⟩
    | brk => exact fun c6 σ6 H6 s6 p6 => (show FlP X fi D c H .nx s5 from q5) c6 σ6 H6 s6 (((p1.trans p').trans p2).trans p6)
    | ret d => exact fun c6 σ6 H6 v s6 r6 => (show FlP X fi D c H (.ret d) s5 from q5) c6 σ6 H6 v s6 r6
    | reto d => exact fun c6 σ6 H6 v cl s6 e6 o6 => (show FlP X fi D c H (.reto d) s5 from q5) c6 σ6 H6 v cl s6 e6 o6
  · have e : i = xs.length := by omega
    subst e
    refine .inl ⟨jr.stop c' Hh p', ?_⟩
    rw [List.drop_length] at q2
    exact (show FlP X fi D c H .nx st' from q2) c' σ1 Hh hs' (p1.trans p')
theorem red_while {k : E} {b : List S} (q : tS X fi Wx (run call W (.while k b)) D σ H) : tWhile (tB (tD X fi call k)) (tS X fi Wx (runs call W b)) D σ H := by
  obtain ⟨c, st, hs, q⟩ := q
  unfold run at q
  refine ⟨fun m σ Hh => ∃ c' st', SR X fi c' σ Hh st' ∧ Stp c H c' Hh ∧ okX (exW X fi Wx) (whileLoop (fun s => strict (ev call k s)) (runs call W b) m st') (FlP X fi D c H), ⟨W, c, st, hs, .refl _ _, q⟩, ?_⟩
  rintro m σ1 Hh ⟨c', st', hs', p', q2⟩
  cases m with
  | zero => exact q2.elim
  | succ m =>
    simp only [whileLoop] at q2
    rw [okX_str] at q2
    refine ⟨c', st', hs', q2.mono fun d s1 q3 c1 H1 x hs1 p1 r1 => ?_⟩
    cases d with
    | bl t =>
      cases r1
      refine ⟨t, rfl, ?_⟩
      cases t with
      | true =>
        dsimp only at q3
        rw [okX_bind] at q3
        refine ⟨fun σ' H' => ∃ c' st', SR X fi c' σ' H' st' ∧ Stp c H c' H' ∧ okX (exW X fi Wx) (whileLoop (fun s => strict (ev call k s)) (runs call W b) m st') (FlP X fi D c H), fun σ' H' w => ⟨m, Nat.lt_succ_self m, w⟩, c1, s1, hs1, q3.mono fun fl s5 q5 => ?_⟩
        cases fl with
        | nx => exact fun c6 σ6 H6 s6 p6 => ⟨c6, s5, s6, (p'.trans p1).trans p6, q5⟩
        | ct => exact fun c6 σ6 H6 s6 p6 => ⟨c6, s5, s6, (p'.trans p1).trans p6, q5⟩
        | brk => exact fun c6 σ6 H6 s6 p6 => (show FlP X fi D c H .nx s5 from q5) c6 σ6 H6 s6 ((p'.trans p1).trans p6)
        | ret d => exact fun c6 σ6 H6 v s6 r6 => (show FlP X fi D c H (.ret d) s5 from q5) c6 σ6 H6 v s6 r6
        | reto d => exact fun c6 σ6 H6 v cl s6 e6 o6 => (show FlP X fi D c H (.reto d) s5 from q5) c6 σ6 H6 v cl s6 e6 o6
      | false => exact (show FlP X fi D c H .nx s1 from q3) c1 σ1 H1 hs1 (p'.trans p1)
    | _ => exact q3.elim
end

/-! ### how a name takes a comprehension's value -/
def swB (sc : Scope) (x : Str) (px : Pos) : Expr → Bool
  | .ListComp _ _ s p => sc.names.lookup x == some .local && px.line == p.line && !(s.names.any fun (n, k) => n == x && (k == .local || k == .cell))
  | .SetComp _ _ s p => sc.names.lookup x == some .local && px.line == p.line && !(s.names.any fun (n, k) => n == x && (k == .local || k == .cell))
  | .DictComp _ _ _ s p => sc.names.lookup x == some .local && px.line == p.line && !(s.names.any fun (n, k) => n == x && (k == .local || k == .cell))
  | _ => false
theorem swB_ok {env : Env} (hk : env.scope.kind = .function) (x : Str) (px : Pos) (l : Nat) (e : Expr) : swapsWith e (some (.Name x px)) l env = pure (swB env.scope x px e) := by
  have hb : env.blockKind = .function := by unfold Env.blockKind; rw [hk]; rfl
  cases e <;> first
    | rfl
    | (unfold swapsWith swB
       simp only [hb, Expr.pos]
       rfl)
theorem swF {tg : Expr} (h : (match tg with | .Name .. => false | _ => true) = true) (e : Expr) (l : Nat) (env : Env) : swapsWithSole [tg] e l env = pure false := by
  show swapsWith e (some tg) l env = _
  unfold swapsWith
  cases e <;> first
    | rfl
    | (cases tg <;> first | rfl | exact absurd (show false = true from h) Bool.false_ne_true)
theorem swN {tg e : Expr} (h : isTupB e = false) (env : Env) : swappedStores [tg] e env = pure none := by
  unfold swappedStores
  cases e <;> first | rfl | (cases tg <;> first | rfl | exact absurd (show true = false from h) (by decide))
theorem swN2 {tg e : Expr} (h : (match tg with | .Tuple .. => false | .List .. => false | _ => true) = true) (env : Env) : swappedStores [tg] e env = pure none := by
  unfold swappedStores
  cases tg <;> first | rfl | exact absurd (show false = true from h) Bool.false_ne_true
/-- a target that is no plain local name -/
def ntB (sc : Scope) : Expr → Bool
  | .Name x _ => !(sc.names.lookup x == some .local)
  | _ => true
theorem swN3 {env : Env} {ts vs : List Expr} {k1 k2 : Nat} {p1 p2 : Pos} (h : ts.any (ntB env.scope) = true) : swappedStores [.Tuple ts k1 p1] (.Tuple vs k2 p2) env = pure none := by
  unfold swappedStores
  simp only
  split
  · rfl
  split
  · rfl
  split
  · rfl
  · rename_i h3
    exfalso
    apply h3
    rw [Bool.or_eq_true]
    refine .inl ?_
    rw [bne_iff_ne]
    apply Nat.ne_of_lt
    have key : ∀ (f : Expr → Option Str) (l : List Expr), (∃ t ∈ l, f t = none) → (l.filterMap f).length < l.length := fun f l => by
      induction l with
      | nil => rintro ⟨t, ht, _⟩; cases ht
      | cons a l ih =>
        rintro ⟨t, ht, e⟩
        rcases List.mem_cons.mp ht with rfl | ht
        · rw [List.filterMap_cons_none e]
          exact Nat.lt_succ_of_le (List.length_filterMap_le f l)
        · have := ih ⟨t, ht, e⟩
          cases q : f a with
          | none => rw [List.filterMap_cons_none q]; simp only [List.length_cons]; omega
          | some b => rw [List.filterMap_cons_some q]; simp only [List.length_cons]; omega
    refine key _ ts ?_
    obtain ⟨t, ht, hn⟩ := List.any_eq_true.mp h
    refine ⟨t, ht, ?_⟩
    cases t <;> first
      | rfl
      | (have hn : (!(env.scope.names.lookup _ == some NameKind.local)) = true := hn
         rw [Bool.not_eq_true'] at hn
         have e : (env.kindOf _ == some NameKind.local) = false := hn
         simp only [e, Bool.false_and, Bool.false_eq_true, if_false])
def noCompB : Expr → Bool
  | .ListComp .. => false
  | .SetComp .. => false
  | .DictComp .. => false
  | _ => true
theorem swE {e : Expr} (h : noCompB e = true) (l : Nat) (env : Env) : swapsWith e none l env = pure false := by
  cases e <;> first | rfl | exact absurd (show false = true from h) Bool.false_ne_true
def parB (sc : Scope) (x y : Str) (px py : Pos) (a b : Expr) : Bool :=
  sc.names.lookup x == some .local && sc.names.lookup y == some .local && px.line == py.line && decide (x ≠ y) && notStar a && notStar b && !([a, b].all (foldedForSure 8)) && !([a, b].all (constantsAlone 8))
theorem parB_ok {env : Env} (hk : env.scope.kind = .function) {x y : Str} {px py p1 p2 : Pos} {a b : Expr} {k1 k2 : Nat} (h : parB env.scope x y px py a b = true) :
    swappedStores [.Tuple [.Name x px, .Name y py] k1 p1] (.Tuple [a, b] k2 p2) env = pure (some [x, y]) := by
  have hb : env.blockKind = .function := by unfold Env.blockKind; rw [hk]; rfl
  unfold parB at h
  simp only [Bool.and_eq_true, beq_iff_eq, decide_eq_true_eq, Bool.not_eq_true'] at h
  obtain ⟨⟨⟨⟨⟨⟨⟨h1, h2⟩, h3⟩, h4⟩, h5⟩, h6⟩, h7⟩, h8⟩ := h
  have e1 : env.kindOf x = some .local := h1
  have e2 : env.kindOf y = some .local := h2
  have n1 : ∀ z : Expr, notStar z = true → (match z with | .Starred .. => true | _ => false) = false := fun z hz => by
    cases z <;> first | rfl | exact absurd (show false = true from hz) Bool.false_ne_true
  have n2 : ([a, b].any fun | .Starred .. => true | _ => false) = false := by
    rw [List.any_cons, List.any_cons, List.any_nil, n1 a h5, n1 b h6]; rfl
  have hd : [x, y].eraseDups.length = 2 := by
    have : (y == x) = false := by rw [beq_eq_false_iff_ne]; exact fun z => h4 z.symm
    simp [List.eraseDups_cons, this]
  unfold swappedStores
  simp only [hb]
  have hl : (px.line == (([Expr.Name x px, Expr.Name y py].head?.map (·.pos.line)).getD 0)) = true := by simp [Expr.pos]
  have hl2 : (py.line == (([Expr.Name x px, Expr.Name y py].head?.map (·.pos.line)).getD 0)) = true := by simp [Expr.pos, h3]
  have hf : ([Expr.Name x px, Expr.Name y py].filterMap fun
    | .Name id pos => if env.kindOf id == some .local && pos.line == (([Expr.Name x px, Expr.Name y py].head?.map (·.pos.line)).getD 0) then some id else none
    | _ => none) = [x, y] := by
    simp only [List.filterMap_cons, List.filterMap_nil, e1, e2, hl, hl2, beq_self_eq_true, Bool.and_self, if_true]
  have c1 : ¬ (!([Expr.Name x px, Expr.Name y py].length == 2 || [Expr.Name x px, Expr.Name y py].length == 3) || [a, b].length != [Expr.Name x px, Expr.Name y py].length || ScopeKind.function != ScopeKind.function) = true := by
    simp
  refine (if_neg c1).trans ((if_neg fun z => Bool.false_ne_true (n2.symm.trans z)).trans ?_)
  refine (congrArg (fun l : List Str => if (l.length != [Expr.Name x px, Expr.Name y py].length || l.eraseDups.length != l.length) = true then pure none else if [a, b].all (foldedForSure 8) = true then pure none else if [a, b].all (constantsAlone 8) = true then (do unsupported "assign.tuple-of-constant-expressions:order-of-the-stores"; pure (some l) : Sem (Option (List Str))) else pure (some l)) hf).trans ?_
  simp only [hd, h7, h8, Bool.false_eq_true, if_false]
  rfl
end NW
set_option autoImplicit false
set_option linter.all false
set_option maxRecDepth 100000
set_option maxHeartbeats 4000000
/-! NwStm3: what is checked is sound: statements. -/
namespace NW
open PySem PyProof.Rows L2

def isCompE : E → Bool
  | .lc .. | .lc2 .. | .dci .. | .dct .. => true
  | _ => false
/-- what may be handed back as a new object -/
def isOwnR : E → Bool
  | .lst _ | .rngL _ | .lc .. | .lc2 .. | .dci .. | .dct .. | .emp _ | .callo .. => true
  | _ => false
def setB (sc : Scope) (x : Str) (px : Pos) (e' : Expr) (e : E) : Bool := stB sc x && (!(swB sc x px e') || isCompE e)
mutual
def trS (T : Tab) (N : List Str) (sc : Scope) : S → Stmt → Bool
  | .set i e, s => match s with
    | .Assign [.Name x px] e' _ => decide (N[i]? = some x) && setB sc x px e' e && trE T N e sc e'
    | _ => false
  | .own i e, s => match s with
    | .Assign [.Name x px] e' _ => decide (N[i]? = some x) && setB sc x px e' e && isOwn e && trE T N e sc e'
    | _ => false
  | .tup tg e, s => match s with
    | .Assign [.Tuple ts k p] e' _ => tgOk N (stB sc) tg (.Tuple ts k p) && (!(isTupB e') || ts.any (ntB sc)) && trE T N e sc e'
    | _ => false
  | .par is es ow, s => match is, es, ow with
    | [i, j], [a, b], [oa, ob] => match s with
      | .Assign [.Tuple [.Name x px, .Name y py] _ _] (.Tuple [a', b'] _ _) _ => decide (N[i]? = some x) && decide (N[j]? = some y) && decide (i ≠ j) && parB sc x y px py a' b' && trE T N a sc a' && trE T N b sc b' && (!oa || isOwn a) && (!ob || isOwn b)
      | _ => false
    | _, _, _ => false
  | .seti i k e, s => match s with
    | .Assign [.Subscript (.Name x _) k' _] e' _ => ixB k' && nmB N sc i x && trE T N k sc k' && trE T N e sc e'
    | _ => false
  | .setc a k e, s => match s with
    | .Assign [.Subscript a' k' _] e' _ => ixB k' && trE T N a sc a' && trE T N k sc k' && trE T N e sc e'
    | _ => false
  | .aug i op e, s => match s with
    | .AugAssign (.Name x _) o e' _ => decide (N[i]? = some x) && stB sc x && visB sc x && (match op with | .add => BOp.is .add o | .sub => BOp.is .sub o | _ => false) && trE T N e sc e'
    | _ => false
  | .ex e, s => match s with
    | .Expr e' _ => noCompB e' && trE T N e sc e'
    | _ => false
  | .ret e, s => match s with
    | .Return (some e') _ => trE T N e sc e'
    | .Return none _ => match e with
      | .con .non => true
      | _ => false
    | _ => false
  | .reto e, s => match s with
    | .Return (some e') _ => isOwnR e && trE T N e sc e'
    | _ => false
  | .ife c a b, s => match s with
    | .If c' a' b' _ => trE T N c sc c' && trSs T N sc a a' && trSs T N sc b b'
    | _ => false
  | .for tg it b, s => match s with
    | .For t i b' [] _ => tgOk N (stB sc) tg t && noSetB i && trI T N it sc t i && trSs T N sc b b'
    | _ => false
  | .while c b, s => match s with
    | .While c' b' [] _ => trE T N c sc c' && trSs T N sc b b'
    | _ => false
  | .brk, s => match s with
    | .Break _ => true
    | _ => false
  | .ct, s => match s with
    | .Continue _ => true
    | _ => false
  | .pass, s => match s with
    | .Pass _ => true
    | _ => false
  | .seta a c f e, s => match s with
    | .Assign [.Attribute a' g _] e' _ => decide (g = f) && decide (c ∈ T.cls) && decide ((c, f) ∈ T.nat) && trE T N a sc a' && trE T N e sc e'
    | _ => false
  | .taga c fs e, s => match s with
    | .Assign [.Tuple ts _ _] e' _ => fldsB N sc fs ts && decide (c ∈ T.cls) && fs.all (fun f => decide ((c, f) ∈ T.nat)) && !(isTupB e') && trE T N e sc e'
    | _ => false
  | .raise c, s => match s with
    | .Raise (some (.Call (.Name x _) [.Constant (.str _) _ _] [] _)) none _ => decide (x = c) && glB sc x && decide (c ∈ T.exs)
    | _ => false
  | .try1 b c oth d, s => match s with
    | .Try b' [.ExceptHandler (some (.Name x _)) none [.Return (some (.Constant cc _ _)) _] _] [] [] _ => decide (x = c) && glB sc x && decide (c ∈ T.exs) && oth.all (fun o => decide ((o, c) ∈ T.exn)) && conB d cc && (match d with | .non => true | .bl _ => true | _ => false) && trSs T N sc b b'
    | _ => false
  | .never, _ => true
def trSs (T : Tab) (N : List Str) (sc : Scope) : List S → List Stmt → Bool
  | [], bs => match bs with
    | [] => true
    | _ => false
  | a :: as, bs => match bs with
    | [] => false
    | b :: bs => trS T N sc a b && trSs T N sc as bs
end

theorem asgSub {o k : Expr} {pos : Pos} {env : Env} (h : ixB k = true) : ∀ v, assign (.Subscript o k pos) env v = (do
    let ov ← holding [v] (eval o env)
    let iv ← holding [v, ov] (eval k env)
    standAt pos
    holding [v, ov, iv] (setItem ov iv v)
    release [v, ov, iv] []) := by
  intro v
  cases k <;> first | rfl | exact absurd (show false = true from h) Bool.false_ne_true
structure OkS (T : Tab) (call : Call) (X : Cx) (s0 : Scope) (Wx : WX) : Prop extends Ok T call X s0 where
  st : StOk X (stB s0)
  kind : s0.kind = .function
  hp : PassesOwn (model X.prog X.w) X.A X.env X.xe
  tk : Takes X Wx
  stk : X.stack = X.env :: X.outer
  frm : X.env.frame = some X.env.locals
theorem swA {o e : Expr} {f : Str} {p : Pos} (l : Nat) (env : Env) : swapsWith e (some (.Attribute o f p)) l env = pure false := by
  unfold swapsWith
  cases e <;> rfl

section
variable {T : Tab} {call : Call} {X : Cx} {sc : Scope} {fi : Fi} {W : Nat} {Wx : WX}
theorem setC (ok : OkS T call X sc Wx) {i : Nat} {x : Str} {px pos : Pos} {e : E} {e' : Expr} (hN : X.N[i]? = some x) (hc : isCompE e = true) (h : trE T X.N e sc e' = true) (hw : swB sc x px e' = true) : PS X (.Assign [.Name x px] e' pos) (tAsg (tOD X fi call e) (gName i)) := by
  have hk : X.env.scope.kind = .function := by rw [ok.sc]; exact ok.kind
  have hsw := swB_ok hk x px pos.line e'
  rw [ok.sc, hw] at hsw
  have hyl : ∀ {e'}, swB sc x px e' = true → X.env.scope.names.lookup x = some .local := fun {e'} z => by
    rw [ok.sc]
    cases e' <;> first | exact absurd (show false = true from z) Bool.false_ne_true | (unfold swB at z; simp only [Bool.and_eq_true, beq_iff_eq] at z; exact z.1.1)
  have hyl := hyl hw
  have hn : ∀ {i : Expr}, noSetB i = true → (match i with | .Set .. => false | _ => true) = true := fun {i} h => by cases i <;> first | rfl | exact absurd (show false = true from h) Bool.false_ne_true
  have hb := ok.toOk
  cases e <;> first | exact absurd (show false = true from hc) Bool.false_ne_true | skip
  · rename_i vs a tg it ifs
    unfold trE at h; split at h
    · rename_i elt t i fs scope p
      simp only [Bool.and_eq_true, decide_eq_true_eq] at h
      obtain ⟨⟨⟨⟨⟨⟨⟨h1, h2⟩, h3⟩, h4⟩, h5⟩, h6⟩, h7⟩, h8⟩ := h
      have ii := sndI it sc X t i hb h3
      have iff' := fun s H C cl fp => sndEs ifs (relS scope sc) (X.blk s H scope (compEnvC scope cl C X.env) fp) fs (hb.blk scope s H C cl fp) h7
      have ia := fun s H C cl fp => sndE a (relS scope sc) (X.blk s H scope (compEnvC scope cl C X.env) fp) elt (hb.blk scope s H C cl fp) h8
      refine PS.imp (ps_setLc (g := gX X tg) (tt := tXT X call ifs) (te := tXD X call a) ok.calm ok.nd hN hyl hsw (ii fi) (blkOk_by (by rw [ok.sc]; exact h1)) (fun s H C cl fp => pg_x fun fi => pg_D (X := X.blk s H scope (compEnvC scope cl C X.env) fp) ok.calm ok.nd stB_blk tg t h4) (fun s H C cl fp => pts_of (iff' s H C cl fp) (trEs_len h7).1 h6) (fun s H C cl fp => pe_x (ia s H C cl fp).pe) (fun x => foldN (hn h2) X.env x)) fun D σ H q => ?_
      rw [ownN_map]
      exact red_lc h5 q
    · cases h
  · rename_i vs a tg it ifs vs1 tg1 it1 ifs1
    unfold trE at h; split at h
    · rename_i elt t i fs t1 i1 fs1 scope p
      simp only [Bool.and_eq_true, decide_eq_true_eq] at h
      obtain ⟨⟨⟨⟨⟨⟨⟨⟨⟨⟨⟨⟨⟨⟨h1, h2⟩, h2'⟩, h3⟩, h4⟩, h4'⟩, h5⟩, h5'⟩, h5''⟩, h6⟩, h6'⟩, h7⟩, h7'⟩, h3'⟩, h8⟩ := h
      have ii := sndI it sc X t i hb h3
      have ii1 := fun s H C cl fp => sndI it1 (relS scope sc) (X.blk s H scope (compEnvC scope cl C X.env) fp) t1 i1 (hb.blk scope s H C cl fp) h3'
      have iff' := fun s H C cl fp => sndEs ifs (relS scope sc) (X.blk s H scope (compEnvC scope cl C X.env) fp) fs (hb.blk scope s H C cl fp) h7
      have iff1 := fun s H C cl fp => sndEs ifs1 (relS scope sc) (X.blk s H scope (compEnvC scope cl C X.env) fp) fs1 (hb.blk scope s H C cl fp) h7'
      have ia := fun s H C cl fp => sndE a (relS scope sc) (X.blk s H scope (compEnvC scope cl C X.env) fp) elt (hb.blk scope s H C cl fp) h8
      refine PS.imp (ps_setLc2 (g := gX X tg) (tt := tXT X call ifs) (wi1 := tXI X call it1) (g1 := gX X tg1) (tt1 := tXT X call ifs1) (te := tXD X call a) ok.calm ok.nd hN hyl hsw (ii fi) (blkOk_by (by rw [ok.sc]; exact h1)) (by rw [ownN_map]; exact h5'') (fun s H C cl fp => pg_x fun fi => pg_D (X := X.blk s H scope (compEnvC scope cl C X.env) fp) ok.calm ok.nd stB_blk tg t h4) (fun s H C cl fp => pts_of (iff' s H C cl fp) (trEs_len h7).1 h6)
        (fun s H C cl fp => pi_x (ii1 s H C cl fp)) (fun s H C cl fp => pg_x fun fi => pg_D (X := X.blk s H scope (compEnvC scope cl C X.env) fp) ok.calm ok.nd stB_blk tg1 t1 h4') (fun s H C cl fp => pts_of (iff1 s H C cl fp) (trEs_len h7').1 h6') (fun s H C cl fp => pe_x (ia s H C cl fp).pe) (fun x => foldN (hn h2) X.env x) (fun env x => foldN (hn h2') env x)) fun D σ H q => ?_
      rw [ownN_map]
      exact red_lc2 h5 h5' h5'' q
    · cases h
  · rename_i vs k a tg it ifs
    unfold trE at h; split at h
    · rename_i ky elt t i fs scope p
      simp only [Bool.and_eq_true, decide_eq_true_eq] at h
      obtain ⟨⟨⟨⟨⟨⟨⟨⟨h1, h2⟩, h3⟩, h4⟩, h5⟩, h6⟩, h7⟩, h9⟩, h8⟩ := h
      have ii := sndI it sc X t i hb h3
      have iff' := fun s H C cl fp => sndEs ifs (relS scope sc) (X.blk s H scope (compEnvC scope cl C X.env) fp) fs (hb.blk scope s H C cl fp) h7
      have ik := fun s H C cl fp => sndE k (relS scope sc) (X.blk s H scope (compEnvC scope cl C X.env) fp) ky (hb.blk scope s H C cl fp) h9
      have ia := fun s H C cl fp => sndE a (relS scope sc) (X.blk s H scope (compEnvC scope cl C X.env) fp) elt (hb.blk scope s H C cl fp) h8
      refine PS.imp (ps_setDc (g := gX X tg) (tt := tXT X call ifs) (tk := tXD X call k) (tv := tXD X call a) ok.calm ok.nd hN hyl hsw (ii fi) (blkOk_by (by rw [ok.sc]; exact h1)) (fun s H C cl fp => pg_x fun fi => pg_D (X := X.blk s H scope (compEnvC scope cl C X.env) fp) ok.calm ok.nd stB_blk tg t h4) (fun s H C cl fp => pts_of (iff' s H C cl fp) (trEs_len h7).1 h6) (fun s H C cl fp => pe_x (ik s H C cl fp).pe) (fun s H C cl fp => pe_x (ia s H C cl fp).pe) (fun x => foldN (hn h2) X.env x)) fun D σ H q => ?_
      rw [ownN_map]
      exact red_dci h5 q
    · cases h
  · rename_i vs k a tg it ifs
    unfold trE at h; split at h
    · rename_i ky elt t i fs scope p
      simp only [Bool.and_eq_true, decide_eq_true_eq] at h
      obtain ⟨⟨⟨⟨⟨⟨⟨⟨h1, h2⟩, h3⟩, h4⟩, h5⟩, h6⟩, h7⟩, h9⟩, h8⟩ := h
      have ii := sndI it sc X t i hb h3
      have iff' := fun s H C cl fp => sndEs ifs (relS scope sc) (X.blk s H scope (compEnvC scope cl C X.env) fp) fs (hb.blk scope s H C cl fp) h7
      have ik := fun s H C cl fp => sndE k (relS scope sc) (X.blk s H scope (compEnvC scope cl C X.env) fp) ky (hb.blk scope s H C cl fp) h9
      have ia := fun s H C cl fp => sndE a (relS scope sc) (X.blk s H scope (compEnvC scope cl C X.env) fp) elt (hb.blk scope s H C cl fp) h8
      refine PS.imp (ps_setDcT (g := gX X tg) (tt := tXT X call ifs) (tk := tXD X call k) (tv := tXD X call a) ok.calm (by have := ok.un; omega) ok.nd hN hyl hsw (ii fi) (blkOk_by (by rw [ok.sc]; exact h1)) (fun s H C cl fp => pg_x fun fi => pg_D (X := X.blk s H scope (compEnvC scope cl C X.env) fp) ok.calm ok.nd stB_blk tg t h4) (fun s H C cl fp => pts_of (iff' s H C cl fp) (trEs_len h7).1 h6) (fun s H C cl fp => pe_x (ik s H C cl fp).pe) (fun s H C cl fp => pe_x (ia s H C cl fp).pe) (fun x => foldN (hn h2) X.env x)) fun D σ H q => ?_
      rw [ownN_map]
      exact red_dct h5 q
    · cases h
theorem comp_cell {e : E} (h : isOwnR e = true) : ∀ s, okR (ev call e s) (fun d _ => (cellOf d).isSome) ∨ ev call e s = .err ∨ ∃ c s', ev call e s = .exc c s' := by
  cases e <;> first
    | exact absurd (show false = true from h) Bool.false_ne_true
    | exact cell_lst | exact cell_rngL | exact cell_lc | exact cell_lc2 | exact cell_dci | exact cell_dct | exact cell_emp | exact cell_callo
theorem isOwnR_own {e : E} (h : isOwnR e = true) : isOwn e = true := by cases e <;> first | rfl | exact absurd (show false = true from h) Bool.false_ne_true
theorem comp_own {e : E} (h : isCompE e = true) : isOwnR e = true := by cases e <;> first | rfl | exact absurd (show false = true from h) Bool.false_ne_true
/-- name = e -/
theorem setO (ok : OkS T call X sc Wx) {i : Nat} {x : Str} {px pos : Pos} {e : E} {e' : Expr} (hN : X.N[i]? = some x) (hb : setB sc x px e' e = true) (ho : isOwn e = true) (h : trE T X.N e sc e' = true) : PS X (.Assign [.Name x px] e' pos) (tAsg (tOD X fi call e) (gName i)) := by
  unfold setB at hb
  simp only [Bool.and_eq_true, Bool.or_eq_true, Bool.not_eq_true'] at hb
  cases hw : swB sc x px e' with
  | true =>
    rw [hw] at hb
    exact setC ok hN (hb.2.resolve_left (by decide)) h hw
  | false =>
    have hk : X.env.scope.kind = .function := by rw [ok.sc]; exact ok.kind
    have hsw := swB_ok hk x px pos.line e'
    rw [ok.sc, hw] at hsw
    obtain ⟨g1, g2⟩ := ok.st x hb.1
    exact ps_set ok.nd hN g1 ((sndE e sc X e' ok.toOk h).po ho fi) hsw g2
theorem xev_comp {e : E} (h : isCompE e = true) : xev call e = fun s => strict (ev call e s) := by
  cases e <;> first | rfl | exact absurd (show false = true from h) Bool.false_ne_true
theorem setV (ok : OkS T call X sc Wx) {i : Nat} {x : Str} {px pos : Pos} {e : E} {e' : Expr} (hN : X.N[i]? = some x) (hb : setB sc x px e' e = true) (h : trE T X.N e sc e' = true) : PS X (.Assign [.Name x px] e' pos) (tAsg (tX X fi Wx (xev call e)) (gName i)) := by
  have hb0 := hb
  unfold setB at hb
  simp only [Bool.and_eq_true, Bool.or_eq_true, Bool.not_eq_true'] at hb
  cases hw : swB sc x px e' with
  | true =>
    rw [hw] at hb
    have hc := hb.2.resolve_left (by decide)
    refine PS.imp (setC (fi := fi) ok hN hc h hw) fun D σ H q => ?_
    unfold tAsg at q ⊢
    rw [xev_comp hc] at q
    exact tO_of_tR (tX_strict q) (comp_cell (comp_own hc))
  | false =>
    have hk : X.env.scope.kind = .function := by rw [ok.sc]; exact ok.kind
    have hsw := swB_ok hk x px pos.line e'
    rw [ok.sc, hw] at hsw
    obtain ⟨g1, g2⟩ := ok.st x hb.1
    exact ps_set ok.nd hN g1 (sndX e X e' ok.toOk ok.tk h) hsw g2
mutual
theorem sndS : ∀ (b : S) (s : Stmt) (X : Cx) (Wx : WX), OkS T call X sc Wx → trS T X.N sc b s = true → PS X s (tS X fi Wx (run call W b))
  | .set i e, s, X, Wx, ok, h => by
    unfold trS at h; split at h
    · simp only [Bool.and_eq_true, decide_eq_true_eq] at h
      exact PS.imp (setV ok h.1.1 h.1.2 h.2) fun D σ H q => red_set q
    · cases h
  | .own i e, s, X, Wx, ok, h => by
    unfold trS at h; split at h
    · simp only [Bool.and_eq_true, decide_eq_true_eq] at h
      exact PS.imp (setO ok h.1.1.1 h.1.1.2 h.1.2 h.2) fun D σ H q => red_own q
    · cases h
  | .tup tg e, s, X, Wx, ok, h => by
    unfold trS at h; split at h
    · rename_i ts k p e' p2
      simp only [Bool.and_eq_true, Bool.or_eq_true, Bool.not_eq_true'] at h
      obtain ⟨⟨h1, h2⟩, h3⟩ := h
      have hw : swappedStores [.Tuple ts k p] e' X.env = pure none := by
        rcases h2 with h2 | h2
        · exact swN h2 _
        · cases hb : isTupB e' with
          | false => exact swN hb _
          | true =>
            cases e' <;> first | exact absurd (show false = true from hb) Bool.false_ne_true | exact swN3 (by rw [ok.sc]; exact h2)
      exact PS.imp (ps_asg ((sndE e sc X _ ok.toOk h3).pe fi) (pg_D ok.calm ok.nd ok.st tg _ h1) (swF rfl _ _ _) hw rfl) fun D σ H q => red_tup q
    · cases h
  | .par is es ow, s, X, Wx, ok, h => by
    unfold trS at h; split at h
    · split at h
      · simp only [Bool.and_eq_true, decide_eq_true_eq, Bool.or_eq_true, Bool.not_eq_true'] at h
        obtain ⟨⟨⟨⟨⟨⟨⟨h1, h2⟩, h3⟩, h4⟩, h5⟩, h6⟩, h7⟩, h8⟩ := h
        have hk : X.env.scope.kind = .function := by rw [ok.sc]; exact ok.kind
        have h4' := h4
        unfold parB at h4'
        simp only [Bool.and_eq_true, beq_iff_eq, decide_eq_true_eq, Bool.not_eq_true'] at h4'
        obtain ⟨⟨⟨⟨⟨⟨⟨k1, k2⟩, k3⟩, k4⟩, k5⟩, k6⟩, k7⟩, k8⟩ := h4'
        rw [← ok.sc] at h4 k1 k2
        have own : ∀ {o : Bool} {a : E} {a' : Expr}, (o = false ∨ isOwn a = true) → trE T X.N a sc a' = true → PE X a' (tXO X call o a) := fun {o a a'} ho ht => by
          cases o with
          | false => exact pe_x (sndE a sc X a' ok.toOk ht).pe
          | true =>
            have hh := ho.resolve_left (by decide)
            exact ⟨fun pins s σ H Q I ⟨fi, q⟩ => ((sndE a sc X a' ok.toOk ht).po hh fi).run pins s σ H Q I q⟩
        exact PS.imp (ps_par ok.calm ok.nd h1 h2 h3 k1 k2 (pa_cons (own h7 h5) (pa_cons (own h8 h6) pa_nil (starN k6)) (starN k5)) (parB_ok hk h4) rfl) fun D σ H q => red_par h3 q
      · cases h
    · cases h
  | .seti i k e, s, X, Wx, ok, h => by
    unfold trS at h; split at h
    · simp only [Bool.and_eq_true] at h
      obtain ⟨⟨⟨h0, h1⟩, h2⟩, h3⟩ := h
      obtain ⟨k1, k2, k3, k4⟩ := nmB_ok ok.toOk h1
      have hu : X.A.units + 65 < cLine := by have := ok.un; omega
      exact PS.imp (ps_asg ((sndE e sc X _ ok.toOk h3).pe fi) (pg_sub (pe_var k1 k2 k3 k4) ((sndE k sc X _ ok.toOk h2).pe fi) (set_D hu) (asgSub h0)) (swF rfl _ _ _) (swN2 rfl _) rfl) fun D σ H q => red_seti q
    · cases h
  | .setc a k e, s, X, Wx, ok, h => by
    unfold trS at h; split at h
    · simp only [Bool.and_eq_true] at h
      obtain ⟨⟨⟨h0, h1⟩, h2⟩, h3⟩ := h
      have hu : X.A.units + 65 < cLine := by have := ok.un; omega
      exact PS.imp (ps_asg ((sndE e sc X _ ok.toOk h3).pe fi) (pg_sub ((sndE a sc X _ ok.toOk h1).pe fi) ((sndE k sc X _ ok.toOk h2).pe fi) (set_D hu) (asgSub h0)) (swF rfl _ _ _) (swN2 rfl _) rfl) fun D σ H q => red_setc q
    · cases h
  | .aug i op e, s, X, Wx, ok, h => by
    unfold trS at h; split at h
    · simp only [Bool.and_eq_true, decide_eq_true_eq] at h
      obtain ⟨⟨⟨⟨h1, h2⟩, h3⟩, h4⟩, h5⟩ := h
      obtain ⟨g1, g2⟩ := ok.st _ h2
      cases op <;> first | exact absurd (show false = true from h4) Bool.false_ne_true | skip
      · have := BOp.is_eq h4
        subst this
        exact PS.imp (ps_aug ok.nd h1 g1 ((sndE e sc X _ ok.toOk h5).pe fi) ip_add g2) fun D σ H q => red_aug (.inl ⟨rfl, rfl⟩) q
      · have := BOp.is_eq h4
        subst this
        exact PS.imp (ps_aug ok.nd h1 g1 ((sndE e sc X _ ok.toOk h5).pe fi) ip_sub g2) fun D σ H q => red_aug (.inr ⟨rfl, rfl⟩) q
    · cases h
  | .ex e, s, X, Wx, ok, h => by
    unfold trS at h; split at h
    · simp only [Bool.and_eq_true] at h
      exact PS.imp (ps_expr (sndX e X _ ok.toOk ok.tk h.2) (swE h.1 _ _)) fun D σ H q => red_ex q
    · cases h
  | .ret e, s, X, Wx, ok, h => by
    unfold trS at h; split at h
    · exact PS.imp (ps_ret (sndX e X _ ok.toOk ok.tk h)) fun D σ H q => red_ret q
    · split at h
      · exact PS.imp ps_retN fun D σ H q => red_retN q
      · cases h
    · cases h
  | .reto e, s, X, Wx, ok, h => by
    unfold trS at h; split at h
    · simp only [Bool.and_eq_true] at h
      exact PS.imp (ps_ret ((sndE e sc X _ ok.toOk h.2).po (isOwnR_own h.1) fi)) fun D σ H q => red_reto (comp_cell h.1) q
    · cases h
  | .ife c a b, s, X, Wx, ok, h => by
    unfold trS at h; split at h
    · simp only [Bool.and_eq_true] at h
      obtain ⟨⟨h1, h2⟩, h3⟩ := h
      exact PS.imp (ps_if ((sndE c sc X _ ok.toOk h1).pt fi) (sndSs a _ X Wx ok h2) (sndSs b _ X Wx ok h3)) fun D σ H q => red_ifs q
    · cases h
  | .for tg it b, s, X, Wx, ok, h => by
    unfold trS at h; split at h
    · rename_i t i b' p
      simp only [Bool.and_eq_true] at h
      obtain ⟨⟨⟨h1, h2⟩, h3⟩, h4⟩ := h
      exact PS.imp (ps_for ok.hp ok.calm (sndI it sc X t _ ok.toOk h3 fi) (pg_D ok.calm ok.nd ok.st tg _ h1) (sndSs b _ X Wx ok h4) (fun x => foldN (by cases i <;> first | rfl | exact absurd (show false = true from h2) Bool.false_ne_true) X.env x)) fun D σ H q => red_for q
    · cases h
  | .while c b, s, X, Wx, ok, h => by
    unfold trS at h; split at h
    · simp only [Bool.and_eq_true] at h
      exact PS.imp (ps_while ok.hp ((sndE c sc X _ ok.toOk h.1).pt fi) (sndSs b _ X Wx ok h.2)) fun D σ H q => red_while q
    · cases h
  | .brk, s, X, Wx, ok, h => by
    unfold trS at h; split at h
    · exact PS.imp ps_break fun D σ H ⟨c, st, hs, q⟩ => by unfold run at q; exact q c σ H hs (.refl c H)
    · cases h
  | .ct, s, X, Wx, ok, h => by
    unfold trS at h; split at h
    · exact PS.imp ps_continue fun D σ H ⟨c, st, hs, q⟩ => by unfold run at q; exact q c σ H hs (.refl c H)
    · cases h
  | .pass, s, X, Wx, ok, h => by
    unfold trS at h; split at h
    · exact PS.imp ps_pass fun D σ H ⟨c, st, hs, q⟩ => by unfold run at q; exact q c σ H hs (.refl c H)
    · cases h
  | .seta a c f e, s, X, Wx, ok, h => by
    unfold trS at h; split at h
    · simp only [Bool.and_eq_true, decide_eq_true_eq] at h
      obtain ⟨⟨⟨⟨rfl, h1⟩, h2⟩, h3⟩, h4⟩ := h
      exact PS.imp (ps_fld ((sndE a sc X _ ok.toOk h3).pe fi) (sndX e X _ ok.toOk ok.tk h4) (swA _ _)) fun D σ H q => red_seta (ok.cl c h1).2 (ok.na _ h2) q
    · cases h
  | .taga c fs e, s, X, Wx, ok, h => by
    unfold trS at h; split at h
    · simp only [Bool.and_eq_true, decide_eq_true_eq, List.all_eq_true, Bool.not_eq_true'] at h
      obtain ⟨⟨⟨⟨h1, h2⟩, h3⟩, h4⟩, h5⟩ := h
      obtain ⟨g1, g2, g3⟩ := pgs_flds ok.toOk fs _ h1
      exact PS.imp (ps_asg ((sndE e sc X _ ok.toOk h5).pe fi) (pg_tup ok.calm g1 g2 g3) (swF rfl _ _ _) (swN h4 _) rfl) fun D σ H q => red_taga (ok.cl c h2).2 (fun f hf => ok.na _ (h3 f hf)) q
    · cases h
  | .raise c, s, X, Wx, ok, h => by
    unfold trS at h; split at h
    · simp only [Bool.and_eq_true, decide_eq_true_eq] at h
      obtain ⟨⟨rfl, h1⟩, h2⟩ := h
      obtain ⟨g1, g2⟩ := glB_ok ok.toOk h1
      have x := ok.ex _ h2
      exact PS.imp (ps_raise ok.calm ok.tk (pmk_own PySem.F.excBase_ValueError x.exc x.mg x.keep (raises_own x.sub x.ty) g1 g2)) fun D σ H ⟨c, st, hs, q⟩ => by
        unfold run at q
        exact q c σ H hs
    · cases h
  | .try1 b c oth d, s, X, Wx, ok, h => by
    unfold trS at h; split at h
    · rename_i b' x np cc cj cp rp pos' pos
      simp only [Bool.and_eq_true, decide_eq_true_eq, List.all_eq_true] at h
      obtain ⟨⟨⟨⟨⟨⟨rfl, h1⟩, h2⟩, h3⟩, h4⟩, h5⟩, h6⟩ := h
      obtain ⟨g1, g2⟩ := glB_ok ok.toOk h1
      have xx := ok.ex _ h2
      obtain ⟨v, hv, hvr⟩ : ∃ v : V, (∀ (X' : Cx), PE X' (.Constant cc cj cp) (tC v)) ∧ ∀ (c : Cn) (H : Hp), RP X c H v d := by
        cases d <;> first | exact absurd (show false = true from h5) Bool.false_ne_true | skip
        · cases cc <;> first | exact absurd (show false = true from h4) Bool.false_ne_true | skip
          exact ⟨.non, fun _ => pe_non, fun _ _ => .non⟩
        · cases cc <;> first | exact absurd (show false = true from h4) Bool.false_ne_true | skip
          rename_i p q
          have : p = q := by simpa [conB] using h4
          subst this
          exact ⟨.bl p, fun _ => pe_bl, fun _ _ => .bl p⟩
      refine PS.imp (ps_try_only (tb := fun W' => tS X fi W' (runs call W b)) (ts := fun _ _ _ D _ H => D.rt v H) ok.stk ok.frm ⟨g1, g2, .inl xx.mg⟩ ok.tk (fun W' pn xe tk hp => ?_) (fun a oe cls d pn _ _ => ?_)) fun D σ H ⟨c, st, hs, q⟩ => ?_
      · have okT : OkS T call (X.tr pn xe) sc W' := by
          refine ⟨⟨ok.sc, ok.nd, ok.calm, ok.un, ok.bl, ok.gl, fun p hp' => ?_, fun p hp' => ?_, ok.cl, ok.na, fun c hc => ?_, ok.xn⟩, ok.st, ok.kind, hp, tk, ok.stk, ok.frm⟩
          · obtain ⟨a, fd, k, z1, z2⟩ := ok.fn p hp'
            exact ⟨a, fd, k, z1, ⟨z2.keep, z2.ok, z2.room, z2.pos, z2.kw⟩⟩
          · obtain ⟨a, fd, k, z0, z1, z2⟩ := ok.mt p hp'
            exact ⟨a, fd, k, z0, z1, ⟨z2.keep, z2.ok, z2.room, z2.pos, z2.kw⟩⟩
          · have := ok.ex c hc
            exact ⟨this.mg, this.exc, this.keep, this.sub, this.ty, this.self⟩
        exact sndSs b b' (X.tr pn xe) W' okT h6
      · exact PSs.imp (pss_one (ps_ret (hv _))) fun D σ H q => q
      · refine ⟨c, st, hs, ?_⟩
        unfold run at q
        cases e : runs call W b st with
        | ok z => rw [e] at q; exact q
        | err => rw [e] at q; exact q.elim
        | exc c' s' =>
          rw [e] at q
          dsimp only at q
          intro c2 σ2 H2 s2
          split at q
          · rename_i ec
            subst ec
            exact ⟨true, xx.self, fun _ a _ => q c2 σ2 H2 v s2 (hvr c2 H2), fun z => by cases z⟩
          · split at q
            · rename_i ho
              exact ⟨false, ok.xn _ (h3 _ ho), (fun z => by cases z), fun _ => q c2 σ2 H2 s2⟩
            · exact q.elim
    · cases h
  | .never, s, X, Wx, ok, h => PS.imp ps_never fun D σ H ⟨c, st, hs, q⟩ => by unfold run at q; exact q.elim
theorem sndSs : ∀ (b : List S) (s : List Stmt) (X : Cx) (Wx : WX), OkS T call X sc Wx → trSs T X.N sc b s = true → PSs X s (tS X fi Wx (runs call W b))
  | [], [], X, Wx, ok, h => PSs.imp pss_nil fun D σ H q => red_nil q
  | a :: as, b :: bs, X, Wx, ok, h => by
    unfold trSs at h
    simp only [Bool.and_eq_true] at h
    exact PSs.imp (pss_cons (sndS a b X Wx ok h.1) (sndSs as bs X Wx ok h.2)) fun D σ H q => red_cons q
  | [], _ :: _, X, Wx, ok, h => by unfold trSs at h; cases h
  | _ :: _, [], X, Wx, ok, h => by unfold trSs at h; cases h
end
end
end NW
set_option autoImplicit false
set_option linter.all false
set_option maxRecDepth 100000
set_option maxHeartbeats 1000000
/-! NwTop: defs; calls to any depth. -/
namespace NW
open PySem PyProof.Rows L2

/-- a def of the text, and its code -/
structure DefI (K : PySem.W.Frag) (mg : Str → Option Value) (T : Tab) (Φ : Nat → Option Code) (x : Str) (f : Nat) (ps : List Str) (kt : List (Nat × List Str × List Nat)) : Prop where
  ex : ∃ (a : Addr) (fd : FuncData) (qual : Str) (params : Arguments) (body : List Stmt) (scope : Scope) (N : List Str) (cd : Code), mg x = some (.ref a) ∧ FunD K x qual params body scope [] [] a fd ∧ Φ f = some cd ∧ FnScope N ps scope ∧
    trSs T N scope cd.body body = true ∧ N.length = cd.slots ∧ ps.length = cd.ps ∧ ps.length ≤ N.length ∧
    (∀ (kV doc pm : Value) (an : Option Addr) (cdv ct : Value) (us : List Value), us.length = ps.length → bindArgs (PySem.W.fnOf x qual params body scope .none kV doc pm an cdv ct) ⟨us, []⟩ = pure (ps.zip us)) ∧
    ∀ q ∈ kt, ∀ (kV doc pm : Value) (an : Option Addr) (cdv ct : Value) (us ws : List Value), us.length = q.1 → ws.length = q.2.1.length →
      bindArgs (PySem.W.fnOf x qual params body scope .none kV doc pm an cdv ct) ⟨us, q.2.1.zip ws⟩ = pure (ps.zip (us ++ q.2.2.map fun j => ws.getD j .none))
/-- a method of the text, and its code -/
structure MtD (K : PySem.W.Frag) (T : Tab) (Φ : Nat → Option Code) (c m : Str) (f : Nat) (ps : List Str) : Prop where
  ex : ∃ (a : Addr) (fd : FuncData) (x qual : Str) (params : Arguments) (body : List Stmt) (scope : Scope) (N : List Str) (cd : Code), Meth K (He.ga K c) m a ∧ (m = "__init__" → Mk K (He.ga K c) a) ∧ FunD K x qual params body scope [] [] a fd ∧ Φ f = some cd ∧ FnScope N ps scope ∧
    trSs T N scope cd.body body = true ∧ N.length = cd.slots ∧ ps.length = cd.ps ∧ ps.length ≤ N.length ∧
    (∀ (kV doc pm : Value) (an : Option Addr) (cdv ct : Value) (us : List Value), us.length = ps.length → bindArgs (PySem.W.fnOf x qual params body scope .none kV doc pm an cdv ct) ⟨us, []⟩ = pure (ps.zip us))
/-- an error's class, in the text -/
structure ExcD (K : PySem.W.Frag) (mg : Str → Option Value) (c : Str) : Prop where
  mg : mg c = some (.ref (He.ga K c))
  exc : PySem.W.excIn K (He.ga K c) He.veBase "ValueError.__new__" = true
  keep : PySem.W.keepIn K (.ref (He.ga K c)) = true
  sub : PySem.W.subIn K (.ref (He.ga K c)) (.type "BaseException") = some true
  ty : PySem.W.typeIn K (.ref (He.ga K c)) = some (.type "type")
  self : PySem.W.exmOne K (.ref (He.ga K c)) (.ref (He.ga K c)) = some true
/-- all that a program's calls lean on -/
structure ModI (K : PySem.W.Frag) (mg : Str → Option Value) (T : Tab) (Φ : Nat → Option Code) : Prop where
  defs : ∀ p ∈ T.fns, DefI K mg T Φ p.1 p.2.1 p.2.2.1 p.2.2.2
  bl : ∀ x ∈ bltNames, mg x = none
  gl : ∀ p ∈ T.gls, ∃ t, mg p.1 = some (.int p.2 t)
  mts : ∀ p ∈ T.mts, MtD K T Φ p.1 p.2.1 p.2.2.1 p.2.2.2
  cls : ∀ c ∈ T.cls, mg c = some (.ref (He.ga K c)) ∧ Cls K (He.ga K c)
  nat : ∀ p ∈ T.nat, NoAttr K (He.ga K p.1) p.2
  exs : ∀ c ∈ T.exs, ExcD K mg c
  exn : ∀ p ∈ T.exn, PySem.W.exmOne K (.ref (He.ga K p.1)) (.ref (He.ga K p.2)) = some false

section
variable {P : Program} {w : World} {K : PySem.W.Frag} {mg : Str → Option Value} {base : Heap} {T : Tab} {Φ : Nat → Option Code} {W : Nat}
theorem enter_slot {cd : Code} {ds : List D} {F : List Cell} {i : Nat} {sl : Slot} (h : (enter cd ds F).ρ[i]? = some sl) : (∃ d, ds[i]? = some d ∧ sl = .val d) ∨ sl = .no := by
  unfold enter at h
  by_cases hi : i < ds.length
  · rw [List.getElem?_append_left (by simpa using hi), List.getElem?_map, Option.map_eq_some_iff] at h
    obtain ⟨d, h1, h2⟩ := h
    exact .inl ⟨d, h1, h2.symm⟩
  · rw [List.getElem?_append_right (by simpa using Nat.le_of_not_lt hi)] at h
    have := List.mem_of_getElem? h
    exact .inr (List.eq_of_mem_replicate this)
theorem enter_SR {X : Cx} {c : Cn} {H : Hp} {vs : List V} {ds : List D} {F : List Cell} {cd : Code} {N : List Str} (r : RPs X c H vs ds) (ct : CtR X.prog X.w X.K c H F) (hl : N.length = cd.slots) (hd : ds.length ≤ cd.slots) : SR X ⟨H, c⟩ c (L2.start N vs) H (enter cd ds F) := by
  have no : ∀ {i : Nat} {x : Cell}, (enter cd ds F).ρ[i]? ≠ some (.own x) := fun {i x} h => by
    rcases enter_slot h with ⟨d, _, e⟩ | e <;> cases e
  refine ⟨?_, fun i sl e => ?_, fun i j a ci cj e1 => absurd e1 no, ct, fun a o e _ => e, List.prefix_refl _, fun _ h => h, fun _ h => .inl h, fun i a cl e1 => absurd e1 no, fun a h => .inl h, ct.dom⟩
  · unfold L2.start enter
    simp only [List.length_append, List.length_map, List.length_replicate]
    rw [r.length, hl]
  · rcases enter_slot e with ⟨d, h1, rfl⟩ | rfl
    · obtain ⟨v, hv, rv⟩ := r.get h1
      refine ⟨v, ?_, rv⟩
      unfold L2.start
      have hi := (List.getElem?_eq_some_iff.mp hv).1
      rw [List.getElem?_append_left (by simpa using hi), List.getElem?_map, hv]
      rfl
    · trivial
/-- what is known of the defs at a depth -/
def LvF (P : Program) (w : World) (K : PySem.W.Frag) (mg : Str → Option Value) (T : Tab) (Φ : Nat → Option Code) (W n : Nat) : Prop := ∀ p ∈ T.fns, ∃ (a : Addr) (fd : FuncData), mg p.1 = some (.ref a) ∧ PySem.W.keepIn K (.ref a) = true ∧ (∀ base : Heap, FnOk P w K mg base (L2.CX P w) (2 * n) a fd p.2.2.1 (fun vs H Q E => SpF P w K (callN Φ W n) p.2.1 vs H Q E)) ∧ Binds K fd p.2.2.1 [] ∧
    (∀ (s : Shared) (q : Nat × List Str × List Nat) (us ws : List Value), q ∈ p.2.2.2 → us.length = q.1 → ws.length = q.2.1.length → (BindsTo s fd ⟨us, q.2.1.zip ws⟩ (p.2.2.1.zip (us ++ q.2.2.map fun j => ws.getD j .none)))) ∧ ∀ (s : Shared) (us : List Value), us.length = p.2.2.1.length → BindsTo s fd ⟨us, []⟩ (p.2.2.1.zip us)
def LvM (P : Program) (w : World) (K : PySem.W.Frag) (mg : Str → Option Value) (T : Tab) (Φ : Nat → Option Code) (W n : Nat) : Prop := ∀ p ∈ T.mts, ∃ (a : Addr) (fd : FuncData), Meth K (He.ga K p.1) p.2.1 a ∧ (p.2.1 = "__init__" → Mk K (He.ga K p.1) a) ∧ PySem.W.keepIn K (.ref a) = true ∧ (∀ base : Heap, FnOk P w K mg base (L2.CX P w) (2 * n) a fd p.2.2.2 (fun vs H Q E => SpF P w K (callN Φ W n) p.2.2.1 vs H Q E)) ∧ Binds K fd p.2.2.2 []
/-- one def's body -/
theorem body_ok (M : ModI K mg T Φ) {n : Nat} (ihF : LvF P w K mg T Φ W n) (ihM : LvM P w K mg T Φ W n) {f : Nat} {ps : List Str} {a : Addr} {fd : FuncData} {x qual : Str} {params : Arguments} {body : List Stmt} {scope : Scope} {N : List Str} {cd : Code} (F : FunD K x qual params body scope [] [] a fd) (hΦ : Φ f = some cd) (hS : FnScope N ps scope)
    (hB : trSs T N scope cd.body body = true) (l1 : N.length = cd.slots) (l2 : ps.length = cd.ps) (l3 : ps.length ≤ N.length) (base : Heap) : FnOk P w K mg base (L2.CX P w) (2 * (n + 1)) a fd ps (fun vs H Q E => SpF P w K (callN Φ W (n + 1)) f vs H Q E) := by
  refine F.ok (k := 2 * n + 1) hS (fun vs H Q E h => ?_) fun cdv A outer s H vs Q E hr h => ?_
  · obtain ⟨c, ds, Fc, r, ct, z⟩ := h
    rw [r.length, l2]
    simp only [callN, hΦ] at z
    by_cases hl : ds.length = cd.ps
    · exact hl
    · rw [if_neg hl] at z; exact z.elim
  · obtain ⟨c, ds, Fc, r, ct, z⟩ := h
    simp only [callN, hΦ] at z
    by_cases hl : ds.length = cd.ps
    · rw [if_pos hl] at z
      have okS : OkS T (callN Φ W n) (cxOf (L2.CX P w) P w K mg base N qual scope a cdv A outer s H E) scope (fun cls d _ H' => E cls d H') := by
        refine ⟨⟨rfl, hS.nd, rfl, ?_, M.bl, M.gl, fun p' hp' => ?_, fun p' hp' => ?_, M.cls, M.nat, fun c hc => ?_, M.exn⟩, fun x hx => ?_, hS.kind, passes_of (K := fun e s'' => L2.CX P w outer H s E e s'') (E₁ := fun e' s'' => L2.CX P w outer H s E e' s'') rfl, takes_of rfl rfl rfl rfl, rfl, rfl⟩
        · have := hr.un
          show (A.deeper _).units + 66 < cLine
          omega
        · obtain ⟨a', fd', h1, h2, h3, h4, h5, _⟩ := ihF p' hp'
          exact ⟨a', fd', 2 * n, h1, ⟨h2, h3 base, hr, h4, h5⟩⟩
        · obtain ⟨a', fd', h0, h1, h2, h3, h4⟩ := ihM p' hp'
          exact ⟨a', fd', 2 * n, h0, h1, ⟨h2, h3 base, hr, h4, fun _ q _ _ hq => by cases hq⟩⟩
        · have := M.exs c hc
          exact ⟨this.mg, this.exc, this.keep, this.sub, this.ty, this.self⟩
        · unfold stB at hx
          refine ⟨?_, .inl rfl⟩
          show scope.names.lookup x = _ ∨ scope.names.lookup x = _
          split at hx
          · exact .inl (by assumption)
          · exact .inr (by assumption)
          · cases hx
      refine ⟨_, sndSs (fi := ⟨H, c⟩) (W := W) cd.body body _ _ okS hB, c, enter cd ds Fc, enter_SR (X := cxOf (L2.CX P w) P w K mg base N qual scope a cdv A outer s H E) r ct l1 (by rw [hl, ← l1, ← l2]; exact l3), ?_⟩
      have fin : ∀ {c' : Cn} {σ' : L2.St} {H' : Hp} {st' : St}, StR P w K ⟨H, c⟩ c' σ' H' st' → CStp c H c' H' := fun s' => ⟨fun a o e n => s'.base a o e n, s'.pre, s'.keepA, s'.newA, s'.newF⟩
      cases e : runs (callN Φ W n) W cd.body (enter cd ds Fc) with
      | ok x =>
        rw [e] at z
        obtain ⟨fl, st'⟩ := x
        cases fl with
        | nx => exact fun c' σ' H' s' _ => z c' H' .non s'.ct (fin s') (show RetR P w K H c' H' .non .non false from .non)
        | ret d => exact fun c' σ' H' v s' rv => z c' H' v s'.ct (fin s') (show RetR P w K H c' H' v d false from rv)
        | reto d => exact fun c' σ' H' v cl s' e1 o => z c' H' (.ref v) s'.ct (fin s') (show RetR P w K H c' H' (.ref v) d true from ⟨v, cl, rfl, e1, o.A, o.nf, o.n0, o.cell⟩)
        | brk => exact z.elim
        | ct => exact z.elim
      | exc y st' =>
        rw [e] at z
        exact fun c' σ' H' s' => z c' H' s'.ct (fin s')
      | err => rw [e] at z; exact z.elim
    · rw [if_neg hl] at z; exact z.elim
theorem fn_level (M : ModI K mg T Φ) : ∀ n : Nat, LvF P w K mg T Φ W n ∧ LvM P w K mg T Φ W n := by
  have zero : ∀ (f : Nat) (a : Addr) (fd : FuncData) (ps : List Str) (base : Heap), FnOk P w K mg base (L2.CX P w) (2 * 0) a fd ps (fun vs H Q E => SpF P w K (callN Φ W 0) f vs H Q E) := fun f a fd ps base =>
    ⟨fun vs H Q E h => (by obtain ⟨c, ds, F, _, _, z⟩ := h; exact z.elim), fun A outer s H args us vs Q E _ _ _ _ h => (by obtain ⟨c, ds, F, _, _, z⟩ := h; exact z.elim)⟩
  intro n
  induction n with
  | zero =>
    refine ⟨fun p hp => ?_, fun p hp => ?_⟩
    · obtain ⟨a, fd, qual, params, body, scope, N, cd, hm, F, hΦ, hS, hB, l1, l2, l3, hb, hk⟩ := (M.defs p hp).ex
      refine ⟨a, fd, hm, F.kp, fun base => zero _ _ _ _ _, F.bindsN hb, fun s q us ws hq h1 h2 => ?_, fun s us hl => F.bindsA hb s us hl⟩
      obtain ⟨oc, od, dV, kV, doc, pm, an, cdv, ct, osl, rfl, lk, hcd, hD, hK⟩ := F.ex
      rcases hD with ⟨_, rfl⟩ | ⟨e, _⟩
      · exact .of_eq (hk q hq kV doc pm an cdv ct us ws h1 h2)
      · exact absurd rfl e
    · obtain ⟨a, fd, x, qual, params, body, scope, N, cd, hm, hi, F, hΦ, hS, hB, l1, l2, l3, hb⟩ := (M.mts p hp).ex
      exact ⟨a, fd, hm, hi, F.kp, fun base => zero _ _ _ _ _, F.bindsN hb⟩
  | succ n ih =>
    refine ⟨fun p hp => ?_, fun p hp => ?_⟩
    · obtain ⟨a, fd, qual, params, body, scope, N, cd, hm, F, hΦ, hS, hB, l1, l2, l3, hb, hk⟩ := (M.defs p hp).ex
      refine ⟨a, fd, hm, F.kp, fun base => body_ok M ih.1 ih.2 F hΦ hS hB l1 l2 l3 base, F.bindsN hb, fun s q us ws hq h1 h2 => ?_, fun s us hl => F.bindsA hb s us hl⟩
      obtain ⟨oc, od, dV, kV, doc, pm, an, cdv, ct, osl, rfl, lk, hcd, hD, hK⟩ := F.ex
      rcases hD with ⟨_, rfl⟩ | ⟨e, _⟩
      · exact .of_eq (hk q hq kV doc pm an cdv ct us ws h1 h2)
      · exact absurd rfl e
    · obtain ⟨a, fd, x, qual, params, body, scope, N, cd, hm, hi, F, hΦ, hS, hB, l1, l2, l3, hb⟩ := (M.mts p hp).ex
      exact ⟨a, fd, hm, hi, F.kp, fun base => body_ok M ih.1 ih.2 F hΦ hS hB l1 l2 l3 base, F.bindsN hb⟩
theorem fn_cx {CX CX' : CXT} {k : Nat} {f : Addr} {fd : FuncData} {ps : List Str} {sp : Sp} (F : FnOk P w K mg base CX k f fd ps sp) (h : ∀ o H s E e s', CX o H s E e s' → CX' o H s E e s') : FnOk P w K mg base CX' k f fd ps sp :=
  ⟨F.len, fun A outer s H args us vs Q E h1 h2 h3 h4 h5 => codeAny_mono (F.run A outer s H args us vs Q E h1 h2 h3 h4 h5) fun r s' hq => by
    cases r with
    | error e => exact h _ _ _ _ _ _ hq
    | ok fl => cases fl <;> exact hq⟩
/-- the law's promise at the heap behind the top -/
theorem law_start {call : Call} {f : Nat} {H : Hp} {a : Addr} {ns : List Int} (hO : Only H) (hS : SqL K H a (ns.map V.int)) {F' : List Cell} (h : call f [.scr ns] [] = .ok (.bl true) false F') :
    SpF P w K call f [.ref a] H (fun v _ => v = .bl true) (fun _ _ _ => False) := by
  refine ⟨⟨[], fun _ => False⟩, [.scr ns], [], .cons (.scr ?_) .nil, ⟨rfl, fun n cl e => by simp at e, List.nodup_nil, fun b hb => by simp at hb, fun b hb => hb.elim⟩, ?_⟩
  · rcases hS with (q | ⟨o, q⟩) | q
    · rcases hO a with z | ⟨o, xs, z⟩ <;> (rw [z] at q; cases q)
    · exact .inl ⟨o, q, fun z => z⟩
    · exact .inr fun H' => .inr q
  · rw [h]
    intro c' H' v _ _ r
    cases (show Rp P w K c' H' v (.bl true) from r)
    rfl
/-- the promise of the law's def -/
theorem law_fn (M : ModI K mg T Φ) {n f : Nat} {fa : Addr} (hmg : mg ("law" : Str) = some (.ref fa)) (hp : (("law" : Str), f, [("script" : Str)], ([] : List (Nat × List Str × List Nat))) ∈ T.fns) (pure : ∀ ns : List Int, ns.length ≤ 63 → ∃ F', callN Φ W n f [.scr ns] [] = .ok (.bl true) false F') (prog : Program) (w : World) (hP : P = prog) :
    ∃ (fd : FuncData) (sp : Sp), (∀ (s : Shared) (u : Value), BindsTo s fd ⟨[u], []⟩ [(("script" : Str), u)]) ∧ (∀ (H : Hp) (a : Addr) (ns : List Int), ns.length ≤ 63 → Only H → SqL K H a (ns.map V.int) → sp [.ref a] H (fun v _ => v = .bl true) fun _ _ _ => False) ∧
      ∀ base : Heap, FnOk P w K mg base (fun o H s E e s' => ∃ w, L2.CX P w o H s E e s') (2 * n) fa fd [("script" : Str)] sp := by
  subst hP
  obtain ⟨a, fd, h1, _, h3, _, _, h6⟩ := (fn_level (P := P) (w := w) (W := W) M n).1 _ hp
  have e := h1.symm.trans hmg
  cases e
  refine ⟨fd, _, fun s u => h6 s [u] rfl, fun H a ns hl hO hS => ?_, fun base => fn_cx (h3 base) fun _ _ _ _ _ _ z => ⟨w, z⟩⟩
  obtain ⟨F', hF⟩ := pure ns hl
  exact law_start hO hS hF
end
end NW
set_option autoImplicit false
set_option linter.all false
set_option maxRecDepth 100000
/-! NwLibC: the codes of the common defs (printed by gen2.py). -/
namespace NW
open PySem
def N.is_integer : Nat := 0
def N.is_row_unlike : Nat := 1
def N.is_turning_form : Nat := 2
def N.turned_by : Nat := 3
def N.still : Nat := 4
def N.is_group_form : Nat := 5
def N.is_many : Nat := 6
def N.is_kind_form : Nat := 7
def N.is_set_form : Nat := 8
def N.is_set : Nat := 9
def N._law_one : Nat := 10
def N._law_mixed : Nat := 11
def N._law_turned : Nat := 12
def N._law_longer : Nat := 13
def N._law_turnings : Nat := 14
def N._law_closed : Nat := 15
def N._law_group : Nat := 16
def N._law_kinds : Nat := 17
def N._law_same : Nat := 18
def N.least_row : Nat := 19
def N.need_set : Nat := 20
def N.is_row_form : Nat := 21
def N.is_row_steady : Nat := 22
def N.is_rows_form : Nat := 23
def N.is_map_form : Nat := 24
def N.is_map : Nat := 25
def N._law_least : Nat := 26
def N._law_ways : Nat := 27
def N._law_rows : Nat := 28
def N._law_behind : Nat := 29
def N._law_draw : Nat := 900
def N._law_feed : Nat := 901
def c_is_integer : Code := ⟨3, 3, [.ret (.and (.isi (.var 0) [.int]) (.and (.not (.isi (.var 0) [.bool])) (.chn .le .le (.var 1) (.var 0) (.var 2))))]⟩
def c_is_row_unlike : Code := ⟨3, 4, [.ife (.or (.not (.isi (.var 0) [.tuple])) (.not (.bi .all [.lc [3] (.call N.is_integer [.var 3, .var 1, .var 2]) (.v 3) (.it (.var 0)) []]))) [.ret (.con (.bl false))] [], .ret (.cmp .eq (.bi .len [.dci [3] (.var 3) (.con (.bl true)) (.v 3) (.it (.var 0)) []]) (.bi .len [.var 0]))]⟩
def c_is_turning_form : Code := ⟨2, 2, [.ret (.and (.call N.is_row_unlike [.var 0, .con (.int 0), .bin .sub (.var 1) (.con (.int 1))]) (.cmp .eq (.bi .len [.var 0]) (.var 1)))]⟩
def c_turned_by : Code := ⟨2, 3, [.ret (.bi .tuple [.lc [2] (.sub (.var 1) (.var 2)) (.v 2) (.it (.var 0)) []])]⟩
def c_still : Code := ⟨1, 1, [.ret (.rngT (.var 0))]⟩
def c_is_group_form : Code := ⟨2, 5, [.ife (.or (.not (.isi (.var 1) [.tuple])) (.not (.chn .le .le (.con (.int 1)) (.bi .len [.var 1]) (.glo "MOST_TURNINGS" 120)))) [.ret (.con (.bl false))] [], .ife (.or (.not (.bi .all [.lc [3] (.call N.is_turning_form [.var 3, .var 0]) (.v 3) (.it (.var 1)) []])) (.cmp .ne (.sub (.var 1) (.con (.int 0))) (.call N.still [.var 0]))) [.ret (.con (.bl false))] [], .ife (.not (.bi .all [.lc [3, 4] (.cmp .lt (.var 3) (.var 4)) (.t [.v 3, .v 4]) (.zip (.var 1) (.slc (.var 1) [.con (.int 1)] [])) []])) [.ret (.con (.bl false))] [], .set 2 (.dct [3] (.var 3) (.con (.bl true)) (.v 3) (.it (.var 1)) []), .ret (.bi .all [.lc2 [3, 4] (.cmp .inn (.call N.turned_by [.var 3, .var 4]) (.var 2)) (.v 3) (.it (.var 1)) [] [4] (.v 4) (.it (.var 1)) []])]⟩
def c_is_many : Code := ⟨1, 1, [.ret (.call N.is_integer [.var 0, .con (.int 0), .con (.int 6)])]⟩
def c_is_kind_form : Code := ⟨1, 1, [.ife (.or (.not (.isi (.var 0) [.tuple])) (.or (.cmp .ne (.bi .len [.var 0]) (.con (.int 2))) (.not (.call N.is_many [.sub (.var 0) (.con (.int 0))])))) [.ret (.con (.bl false))] [], .ret (.call N.is_group_form [.sub (.var 0) (.con (.int 0)), .sub (.var 0) (.con (.int 1))])]⟩
def c_is_set_form : Code := ⟨1, 2, [.ife (.or (.not (.isi (.var 0) [.tuple])) (.cmp .gt (.bi .len [.var 0]) (.glo "MOST_KINDS" 300))) [.ret (.con (.bl false))] [], .ret (.bi .all [.lc [1] (.call N.is_kind_form [.var 1]) (.v 1) (.it (.var 0)) []])]⟩
def c_is_set : Code := ⟨1, 1, [.ret (.call N.is_set_form [.var 0])]⟩
def c__law_one : Code := ⟨2, 2, [.ret (.sub (.var 1) (.call N._law_draw [.var 0, .bi .len [.var 1]]))]⟩
def c__law_mixed : Code := ⟨2, 5, [.par [3, 4] [.bi .list [.var 1], .lst []] [true, true], .for (.v 2) (.rng (.bi .len [.var 1])) [.ex (.app 4 (.popA 3 (.call N._law_draw [.var 0, .lenO 3])))], .ret (.var 4)]⟩
def c__law_turned : Code := ⟨2, 3, [.ret (.bi .tuple [.lc [2] (.sub (.var 1) (.var 2)) (.v 2) (.it (.var 0)) []])]⟩
def c__law_longer : Code := ⟨2, 5, [.own 2 (.lst []), .for (.v 3) (.it (.var 0)) [.ex (.ext 2 (.lc [4] (.bin .add (.var 3) (.tup [.var 4])) (.v 4) (.rng (.var 1)) [.cmp .nin (.var 4) (.var 3)]))], .ret (.var 2)]⟩
def c__law_turnings : Code := ⟨1, 3, [.set 1 (.lst [.tup []]), .for (.v 2) (.rng (.var 0)) [.set 1 (.call N._law_longer [.var 1, .var 0])], .ret (.var 1)]⟩
def c__law_closed : Code := ⟨2, 6, [.own 2 (.lst [.rngT (.var 0)]), .for (.v 3) (.rng (.con (.int 720))) [.ife (.cmp .ge (.var 3) (.lenO 2)) [.brk] [], .for (.v 4) (.it (.var 1)) [.set 5 (.call N._law_turned [.var 4, .subO 2 (.var 3)]), .ife (.inO true (.var 5) 2) [.ex (.app 2 (.var 5))] []]], .ret (.bi .tuple [.cpO .sorted 2])]⟩
def c__law_group : Code := ⟨2, 4, [.set 2 (.call N._law_turnings [.var 1]), .ret (.call N._law_closed [.var 1, .lc [3] (.call N._law_one [.var 0, .var 2]) (.v 3) (.rng (.call N._law_one [.var 0, .lst [.con (.int 0), .con (.int 0), .con (.int 1), .con (.int 1), .con (.int 2)]])) []])]⟩
def c__law_kinds : Code := ⟨4, 7, [.own 4 (.lst []), .for (.v 5) (.rng (.var 1)) [.set 6 (.bin .add (.var 3) (.call N._law_draw [.var 0, .bin .sub (.bin .add (.var 2) (.con (.int 1))) (.var 3)])), .ex (.app 4 (.tup [.var 6, .call N._law_group [.var 0, .var 6]]))], .ret (.cpO .tuple 4)]⟩
def c__law_same : Code := ⟨2, 4, [.ife (.isn false (.var 1)) [.ret (.isn false (.var 0))] [], .ife (.isi (.var 1) [.bool]) [.ret (.and (.isi (.var 0) [.bool]) (.cmp .eq (.var 0) (.var 1)))] [], .ife (.isi (.var 1) [.int]) [.ret (.and (.isi (.var 0) [.int]) (.and (.not (.isi (.var 0) [.bool])) (.cmp .eq (.var 0) (.var 1))))] [], .ife (.isi (.var 1) [.str]) [.ret (.and (.isi (.var 0) [.str]) (.cmp .eq (.var 0) (.var 1)))] [], .ife (.or (.cmp .ne (.isi (.var 1) [.list]) (.isi (.var 0) [.list])) (.or (.not (.isi (.var 0) [.list, .tuple])) (.cmp .ne (.bi .len [.var 0]) (.bi .len [.var 1])))) [.ret (.con (.bl false))] [], .ret (.cmp .eq (.lc [2, 3] (.con (.int 1)) (.t [.v 2, .v 3]) (.zip (.var 0) (.var 1)) [.not (.call N._law_same [.var 2, .var 3])]) (.lst []))]⟩
def c_least_row : Code := ⟨2, 3, [.ret (.bi .minl [.lc [2] (.call N.turned_by [.var 2, .var 1]) (.v 2) (.it (.var 0)) []])]⟩
def c_need_set : Code := ⟨1, 1, [.ife (.not (.call N.is_set_form [.var 0])) [.raise "BadSet"] []]⟩
def c_is_row_form : Code := ⟨3, 3, [.ife (.or (.not (.isi (.var 2) [.tuple])) (.or (.cmp .ne (.bi .len [.var 2]) (.con (.int 2))) (.not (.call N.is_integer [.sub (.var 2) (.con (.int 0)), .con (.int 0), .bin .sub (.bi .len [.var 1]) (.con (.int 1))])))) [.ret (.con (.bl false))] [], .ret (.and (.call N.is_row_unlike [.sub (.var 2) (.con (.int 1)), .con (.int 0), .bin .sub (.sub (.var 0) (.con (.int 0))) (.con (.int 1))]) (.cmp .eq (.bi .len [.sub (.var 2) (.con (.int 1))]) (.sub (.sub (.var 1) (.sub (.var 2) (.con (.int 0)))) (.con (.int 0)))))]⟩
def c_is_row_steady : Code := ⟨3, 6, [.set 3 (.call N.least_row [.sub (.var 1) (.con (.int 1)), .var 2]), .ret (.bi .all [.lc [4] (.cmp .eq (.call N.least_row [.sub (.var 1) (.con (.int 1)), .bi .tuple [.lc [5] (.sub (.var 4) (.var 5)) (.v 5) (.it (.var 2)) []]]) (.var 3)) (.v 4) (.it (.sub (.var 0) (.con (.int 1)))) []])]⟩
def c_is_rows_form : Code := ⟨3, 5, [.ife (.or (.not (.isi (.var 2) [.tuple])) (.cmp .ne (.bi .len [.var 2]) (.bi .len [.var 0]))) [.ret (.con (.bl false))] [], .ret (.bi .all [.lc [3, 4] (.call N.is_row_form [.var 3, .var 1, .var 4]) (.t [.v 3, .v 4]) (.zip (.var 0) (.var 2)) []])]⟩
def c_is_map_form : Code := ⟨3, 6, [.ife (.not (.call N.is_rows_form [.var 0, .var 1, .var 2])) [.ret (.con (.bl false))] [], .for (.t [.v 3, .t [.v 4, .v 5]]) (.zip (.var 0) (.var 2)) [.ife (.or (.cmp .ne (.call N.least_row [.sub (.sub (.var 1) (.var 4)) (.con (.int 1)), .var 5]) (.var 5)) (.not (.call N.is_row_steady [.var 3, .sub (.var 1) (.var 4), .var 5]))) [.ret (.con (.bl false))] []], .ret (.con (.bl true))]⟩
def c_is_map : Code := ⟨3, 3, [.ex (.call N.need_set [.var 0]), .ex (.call N.need_set [.var 1]), .ret (.call N.is_map_form [.var 0, .var 1, .var 2])]⟩
def c__law_least : Code := ⟨2, 3, [.ret (.bi .minl [.lc [2] (.call N._law_turned [.var 2, .var 1]) (.v 2) (.it (.var 0)) []])]⟩
def c__law_ways : Code := ⟨2, 11, [.own 2 (.lst []), .for (.t [.v 3, .t [.v 7, .v 8]]) (.enum (.var 1)) [.set 4 (.lst [.tup []]), .for (.v 5) (.rng (.var 7)) [.set 4 (.call N._law_longer [.var 4, .sub (.var 0) (.con (.int 0))])], .for (.v 6) (.it (.var 4)) [.ife (.and (.cmp .eq (.call N._law_least [.var 8, .var 6]) (.var 6)) (.cmp .eq (.lc [9] (.con (.int 1)) (.v 9) (.it (.sub (.var 0) (.con (.int 1)))) [.cmp .ne (.call N._law_least [.var 8, .bi .tuple [.lc [10] (.sub (.var 9) (.var 10)) (.v 10) (.it (.var 6)) []]]) (.var 6)]) (.lst []))) [.ex (.app 2 (.tup [.var 3, .var 6]))] []]], .ret (.var 2)]⟩
def c__law_rows : Code := ⟨2, 7, [.set 2 (.lst [.tup []]), .for (.v 3) (.rng (.var 1)) [.own 4 (.lst []), .for (.v 5) (.it (.var 2)) [.ex (.ext 4 (.lc [6] (.bin .add (.var 5) (.tup [.var 6])) (.v 6) (.it (.var 0)) [.cmp .nin (.var 6) (.var 5)]))], .set 2 (.var 4)], .ret (.var 2)]⟩
def c__law_behind : Code := ⟨3, 8, [.own 3 (.lst []), .for (.t [.v 4, .v 5]) (.it (.var 1)) [.tup (.t [.v 6, .v 7]) (.sub (.var 2) (.var 4)), .ex (.app 3 (.tup [.var 6, .call N._law_least [.sub (.sub (.var 0) (.var 6)) (.con (.int 1)), .call N._law_turned [.var 7, .var 5]]]))], .ret (.cpO .tuple 3)]⟩
def libL : List Code := [c_is_integer, c_is_row_unlike, c_is_turning_form, c_turned_by, c_still, c_is_group_form, c_is_many, c_is_kind_form, c_is_set_form, c_is_set, c__law_one, c__law_mixed, c__law_turned, c__law_longer, c__law_turnings, c__law_closed, c__law_group, c__law_kinds, c__law_same, c_least_row, c_need_set, c_is_row_form, c_is_row_steady, c_is_rows_form, c_is_map_form, c_is_map, c__law_least, c__law_ways, c__law_rows, c__law_behind]
end NW
set_option autoImplicit false
set_option linter.all false
set_option maxRecDepth 100000
/-! NwPure: how the evaluator is reasoned about, in plain Lean. -/
namespace NW

theorem pw_length (ρ : List Slot) : ∀ vs : List Nat, (wipeS ρ vs).length = ρ.length
  | [] => rfl
  | v :: vs => by simp [wipeS, pw_length ρ vs]
theorem pw_out {ρ : List Slot} {i : Nat} : ∀ {vs : List Nat}, i ∉ vs → (wipeS ρ vs)[i]? = ρ[i]?
  | [], _ => rfl
  | v :: vs, h => by
    simp only [List.mem_cons, not_or] at h
    simp only [wipeS]
    rw [List.getElem?_set_ne (Ne.symm h.1)]
    exact pw_out h.2
theorem pb_length (ρ0 ρ : List Slot) : ∀ vs : List Nat, (backS ρ0 ρ vs).length = ρ.length
  | [] => rfl
  | v :: vs => by simp [backS, pb_length ρ0 ρ vs]
theorem pb_out {ρ0 ρ : List Slot} {i : Nat} : ∀ {vs : List Nat}, i ∉ vs → (backS ρ0 ρ vs)[i]? = ρ[i]?
  | [], _ => rfl
  | v :: vs, h => by
    simp only [List.mem_cons, not_or] at h
    simp only [backS]
    rw [List.getElem?_set_ne (Ne.symm h.1)]
    exact pb_out h.2
theorem pb_in {ρ0 ρ : List Slot} {i : Nat} : ∀ {vs : List Nat}, i ∈ vs → i < ρ.length → (backS ρ0 ρ vs)[i]? = some (ρ0[i]?.getD .no)
  | v :: vs, h, hl => by
    simp only [backS]
    by_cases hi : i = v
    · subst hi
      rw [List.getElem?_set_self (by rw [pb_length]; exact hl)]
    · rw [List.getElem?_set_ne (Ne.symm hi)]
      exact pb_in ((List.mem_cons.mp h).resolve_left hi) hl
/-- the slots of a block take back what they held: nothing has changed -/
theorem pb_same {ρ0 ρ : List Slot} {vs : List Nat} (h : wipeS ρ vs = wipeS ρ0 vs) : backS ρ0 ρ vs = ρ0 := by
  have hl : ρ.length = ρ0.length := by
    have := congrArg List.length h
    rwa [pw_length, pw_length] at this
  apply List.ext_getElem?
  intro i
  by_cases hi : i ∈ vs
  · by_cases hlt : i < ρ.length
    · rw [pb_in hi hlt]
      have : ρ0[i]? = some (ρ0[i]'(by omega)) := List.getElem?_eq_getElem _
      rw [this]
      rfl
    · rw [List.getElem?_eq_none (by rw [pb_length]; omega), List.getElem?_eq_none (by omega)]
  · rw [pb_out hi]
    have := congrArg (·[i]?) h
    simp only [pw_out hi] at this
    exact this

/-! ### results -/
/-- it ends well, and so -/
def Go {α : Type} (r : Res α) (Q : α → Prop) : Prop := ∃ a, r = .ok a ∧ Q a
theorem Go.bind {α β : Type} {r : Res α} {k : α → Res β} {P : α → Prop} {Q : β → Prop} (h : Go r P) (hk : ∀ a, P a → Go (k a) Q) : Go (r.bind k) Q := by
  obtain ⟨a, e, p⟩ := h
  rw [e]
  exact hk a p
theorem Go.mono {α : Type} {r : Res α} {P Q : α → Prop} (h : Go r P) (hk : ∀ a, P a → Q a) : Go r Q := let ⟨a, e, p⟩ := h; ⟨a, e, hk a p⟩
theorem Go.ok {α : Type} {a : α} {Q : α → Prop} (h : Q a) : Go (.ok a) Q := ⟨a, rfl, h⟩
theorem Go.of_eq {α : Type} {r : Res α} {a : α} {Q : α → Prop} (e : r = .ok a) (h : Q a) : Go r Q := ⟨a, e, h⟩
theorem bind_ok {α β : Type} {r : Res α} {a : α} (k : α → Res β) (h : r = .ok a) : r.bind k = k a := by rw [h]; rfl

section
variable {call : Call}
/-- a call's body -/
theorem call_eq {Φ : Nat → Option Code} {W n f : Nat} {c : Code} (h : Φ f = some c) (ds : List D) (F : List Cell) (hl : ds.length = c.ps) : callN Φ W (n + 1) f ds F = endOf (runs (callN Φ W n) W c.body (enter c ds F)) := by
  simp only [callN, h, hl, if_true]

/-! ### comprehensions whose bodies change nothing -/
theorem lcLoop_pure {f : D → St → Res (Option D × St)} {I : St → Prop} {p : D → Bool} {g : D → D} : ∀ {xs : List D}, (∀ x ∈ xs, ∀ s, I s → ∃ s', I s' ∧ f x s = .ok (if p x then some (g x) else none, s')) → ∀ s, I s → ∃ s', I s' ∧ lcLoop f xs s = .ok ((xs.filter p).map g, s')
  | [], _, s, hs => ⟨s, hs, rfl⟩
  | x :: xs, h, s, hs => by
    obtain ⟨s1, h1, e1⟩ := h x List.mem_cons_self s hs
    obtain ⟨s2, h2, e2⟩ := lcLoop_pure (fun y hy => h y (List.mem_cons_of_mem _ hy)) s1 h1
    refine ⟨s2, h2, ?_⟩
    simp only [lcLoop, e1, Res.bind_ok, e2]
    cases hp : p x <;> simp [List.filter_cons, hp]
/-- [e for tg in it if ..] -/
theorem lc_pure {vs : List Nat} {e : E} {tg : Tg} {it : I} {ifs : List E} {s : St} {xs : List D} {p : D → Bool} {g : D → D} (hi : evI call it s = .ok (xs, s)) (ho : hasOwn s.ρ vs = false)
    (hb : ∀ x ∈ xs, ∃ ρ bs, assignTg tg x (wipeS s.ρ vs) = some ρ ∧ wipeS ρ vs = wipeS s.ρ vs ∧ evs call ifs { s with ρ := ρ } = .ok (bs, { s with ρ := ρ }) ∧ boolOf bs = some (p x) ∧ (p x = true → ev call e { s with ρ := ρ } = .ok (g x, { s with ρ := ρ })))
    (hl : xs.length ≤ line) : ev call (.lc vs e tg it ifs) s = .ok (.lst ((xs.filter p).map g), s) := by
  unfold ev
  rw [bind_ok _ hi]
  dsimp only
  rw [if_neg (by rw [ho]; exact Bool.false_ne_true)]
  obtain ⟨s', ⟨h1, h2⟩, e1⟩ := lcLoop_pure (f := lcTurn vs tg (evs call ifs) (ev call e)) (I := fun t => wipeS t.ρ vs = wipeS s.ρ vs ∧ t.F = s.F) (p := p) (g := g) (xs := xs) (fun x hx t ⟨t1, t2⟩ => by
    obtain ⟨ρ, bs, a1, a2, a3, a4, a5⟩ := hb x hx
    refine ⟨{ s with ρ := ρ }, ⟨a2, rfl⟩, ?_⟩
    unfold lcTurn
    rw [t1, a1, Res.of_some, Res.bind_ok]
    have et : ({ t with ρ := ρ } : St) = { s with ρ := ρ } := by
      cases t; cases s; simp only at t2; simp [t2]
    rw [et, bind_ok _ a3]
    simp only [guardB, a4]
    cases hp : p x with
    | true => simp only [a5 hp, Res.bind_ok, if_true]
    | false => simp) s ⟨rfl, rfl⟩
  rw [bind_ok _ e1]
  dsimp only
  have hlen : ((xs.filter p).map g).length ≤ line := by
    rw [List.length_map]
    exact Nat.le_trans (List.length_filter_le _ _) hl
  rw [if_pos hlen, pb_same h1]
  cases s'
  cases s
  simp only at h2
  simp [h2]
theorem lcLoops_pure {f : D → St → Res (List D × St)} {I : St → Prop} {g : D → List D} : ∀ {xs : List D}, (∀ x ∈ xs, ∀ s, I s → ∃ s', I s' ∧ f x s = .ok (g x, s')) → ∀ s, I s → ∃ s', I s' ∧ lcLoops f xs s = .ok (xs.flatMap g, s')
  | [], _, s, hs => ⟨s, hs, rfl⟩
  | x :: xs, h, s, hs => by
    obtain ⟨s1, h1, e1⟩ := h x List.mem_cons_self s hs
    obtain ⟨s2, h2, e2⟩ := lcLoops_pure (fun y hy => h y (List.mem_cons_of_mem _ hy)) s1 h1
    refine ⟨s2, h2, ?_⟩
    simp only [lcLoops, e1, Res.bind_ok, e2, List.flatMap_cons]
/-- a dict comprehension's -/
theorem dcLoop_pure {κ : Type} {put : List κ → List D → κ → D → List κ × List D} {f : D → St → Res (Option (κ × D) × St)} {I : St → Prop} {g : D → κ × D} : ∀ {xs : List D} (a : List κ × List D), (∀ x ∈ xs, ∀ s, I s → ∃ s', I s' ∧ f x s = .ok (some (g x), s')) → ∀ s, I s →
      ∃ s', I s' ∧ dcLoop put f xs a s = .ok (xs.foldl (fun a x => put a.1 a.2 (g x).1 (g x).2) a, s')
  | [], a, _, s, hs => ⟨s, hs, rfl⟩
  | x :: xs, a, h, s, hs => by
    obtain ⟨s1, h1, e1⟩ := h x List.mem_cons_self s hs
    obtain ⟨s2, h2, e2⟩ := dcLoop_pure (put := put) (put a.1 a.2 (g x).1 (g x).2) (fun y hy => h y (List.mem_cons_of_mem _ hy)) s1 h1
    refine ⟨s2, h2, ?_⟩
    simp only [dcLoop, e1, Res.bind_ok]
    exact e2

/-! ### loops -/
/-- a for loop, by an invariant of the turn -/
theorem for_inv {f : D → St → Res (NW.Flow × St)} {xs : List D} {Q : NW.Flow × St → Prop} (I : Nat → St → Prop)
    (step : ∀ i x s, xs[i]? = some x → I i s → Go (f x s) fun r => (r.1 = .nx ∨ r.1 = .ct) ∧ I (i + 1) r.2 ∨ r.1 = .brk ∧ Q (.nx, r.2) ∨ (∃ d, r.1 = .ret d ∧ Q (.ret d, r.2)) ∨ ∃ d, r.1 = .reto d ∧ Q (.reto d, r.2))
    (fin : ∀ s, I xs.length s → Q (.nx, s)) : ∀ s, I 0 s → Go (forLoop f xs s) Q := by
  have main : ∀ (k i : Nat) (s : St), xs.length - i = k → i ≤ xs.length → I i s → Go (forLoop f (xs.drop i) s) Q := by
    intro k
    induction k with
    | zero =>
      intro i s e hi hs
      have : i = xs.length := by omega
      subst this
      rw [List.drop_length]
      exact ⟨_, rfl, fin s hs⟩
    | succ k ih =>
      intro i s e hi hs
      have hlt : i < xs.length := by omega
      rw [List.drop_eq_getElem_cons hlt]
      obtain ⟨⟨fl, s'⟩, e1, h⟩ := step i _ s (List.getElem?_eq_getElem hlt) hs
      simp only [forLoop, e1, Res.bind_ok]
      rcases h with ⟨h1, h2⟩ | ⟨h1, h2⟩ | ⟨d, h1, h2⟩ | ⟨d, h1, h2⟩
      · have h3 := ih (i + 1) s' (by omega) hlt h2
        rcases h1 with h1 | h1 <;> (simp only at h1; subst h1; exact h3)
      · simp only at h1; subst h1; exact ⟨_, rfl, h2⟩
      · simp only at h1; subst h1; exact ⟨_, rfl, h2⟩
      · simp only at h1; subst h1; exact ⟨_, rfl, h2⟩
  intro s hs
  have := main xs.length 0 s (by omega) (Nat.zero_le _) hs
  simpa using this
/-- a comprehension whose body may change the cells, by an invariant of the turn -/
theorem lcLoop_inv {f : D → St → Res (Option D × St)} {xs : List D} (I : Nat → List D → St → Prop)
    (step : ∀ i x acc s, xs[i]? = some x → I i acc s → Go (f x s) fun r => I (i + 1) (acc ++ r.1.toList) r.2) : ∀ s, I 0 [] s → Go (lcLoop f xs s) fun r => I xs.length r.1 r.2 := by
  have main : ∀ (k i : Nat) (acc : List D) (s : St), xs.length - i = k → i ≤ xs.length → I i acc s → Go (lcLoop f (xs.drop i) s) fun r => I xs.length (acc ++ r.1) r.2 := by
    intro k
    induction k with
    | zero =>
      intro i acc s e hi hs
      have : i = xs.length := by omega
      subst this
      rw [List.drop_length]
      exact ⟨([], s), rfl, by simpa using hs⟩
    | succ k ih =>
      intro i acc s e hi hs
      have hlt : i < xs.length := by omega
      rw [List.drop_eq_getElem_cons hlt]
      obtain ⟨⟨o, s1⟩, e1, h1⟩ := step i _ acc s (List.getElem?_eq_getElem hlt) hs
      obtain ⟨⟨ys, s2⟩, e2, h2⟩ := ih (i + 1) _ s1 (by omega) hlt h1
      cases o with
      | none =>
        refine ⟨(ys, s2), ?_, by simpa using h2⟩
        unfold lcLoop
        rw [bind_ok _ e1]
        dsimp only
        rw [bind_ok _ e2]
      | some y =>
        refine ⟨(y :: ys, s2), ?_, by simpa using h2⟩
        unfold lcLoop
        rw [bind_ok _ e1]
        dsimp only
        rw [bind_ok _ e2]
  intro s hs
  have := main xs.length 0 [] s (by omega) (Nat.zero_le _) hs
  simpa using this
end
end NW
set_option autoImplicit false
set_option linter.all false
set_option maxRecDepth 100000
/-! NwEqs: the evaluator's equations, constructor by constructor (printed by a program). -/
namespace NW
/-- what comes behind is looked at when it is come to -/
theorem Res.bind_congr {α β : Type} {r r' : Res α} {k : α → Res β} (h : r = r') : r.bind k = r'.bind k := by rw [h]
theorem endOf_congr {r r' : Res (Flow × St)} (h : r = r') : endOf r = endOf r' := by rw [h]
section
variable {call : Call} {W : Nat}
@[simp] theorem q_ev_var (i : Nat) (s : St) : ev call (.var i) s = match s.ρ[i]? with
    | some (.val d) => .ok (d, s)
    | some (.own c) => match c with
      | .ins _ _ => .err
      | _ => .ok (c.d, { s with ρ := s.ρ.set i (.val c.d) })
    | _ => .err := by (conv => lhs; unfold ev) <;> rfl
@[simp] theorem q_ev_con (d : D) (s : St) : ev call (.con d) s = .ok (d, s) := by (conv => lhs; unfold ev) <;> rfl
@[simp] theorem q_ev_glo (u0 : Str) (i : Int) (s : St) : ev call (.glo u0 i) s = .ok (.int i, s) := by (conv => lhs; unfold ev) <;> rfl
@[simp] theorem q_ev_tup (es : List E) (s : St) : ev call (.tup es) s = (evs call es s).bind fun (ds, s) => .ok (.tup ds, s) := by (conv => lhs; unfold ev) <;> rfl
@[simp] theorem q_ev_lst (es : List E) (s : St) : ev call (.lst es) s = (evs call es s).bind fun (ds, s) => .ok (.lst ds, s) := by (conv => lhs; unfold ev) <;> rfl
@[simp] theorem q_ev_bin (op : BOp) (a : E) (b : E) (s : St) : ev call (.bin op a b) s = (ev call a s).bind fun (x, s) => (ev call b s).bind fun (y, s) => (Res.of (binD op x y)).bind fun d => .ok (d, s) := by (conv => lhs; unfold ev) <;> rfl
@[simp] theorem q_ev_neg (a : E) (s : St) : ev call (.neg a) s = (ev call a s).bind fun (x, s) => match x with
    | .int i => .ok (.int (-i), s)
    | _ => .err := by (conv => lhs; unfold ev) <;> rfl
@[simp] theorem q_ev_cmp (op : COp) (a : E) (b : E) (s : St) : ev call (.cmp op a b) s = (ev call a s).bind fun (x, s) => (ev call b s).bind fun (y, s) => (Res.of (cmpD op x y)).bind fun d => .ok (.bl d, s) := by (conv => lhs; unfold ev) <;> rfl
@[simp] theorem q_ev_chn (op : COp) (op' : COp) (a : E) (b : E) (c : E) (s : St) : ev call (.chn op op' a b c) s = (ev call a s).bind fun (x, s) => (ev call b s).bind fun (y, s) => (Res.of (cmpD op x y)).bind fun d =>
    if d then (ev call c s).bind fun (z, s) => (Res.of (cmpD op' y z)).bind fun d => .ok (.bl d, s) else .ok (.bl false, s) := by (conv => lhs; unfold ev) <;> rfl
@[simp] theorem q_ev_isn (n : Bool) (a : E) (s : St) : ev call (.isn n a) s = (ev call a s).bind fun (x, s) => .ok (.bl (n != decide (x = .non)), s) := by (conv => lhs; unfold ev) <;> rfl
@[simp] theorem q_ev_isb (n : Bool) (a : E) (b : E) (s : St) : ev call (.isb n a b) s = (ev call a s).bind fun (x, s) => (ev call b s).bind fun (y, s) => match x, y with
    | .bl p, .bl q => .ok (.bl (n != (p == q)), s)
    | _, _ => .err := by (conv => lhs; unfold ev) <;> rfl
@[simp] theorem q_ev_and (a : E) (b : E) (s : St) : ev call (.and a b) s = (ev call a s).bind fun (x, s) => match x with
    | .bl true => ev call b s
    | .bl false => .ok (.bl false, s)
    | _ => .err := by (conv => lhs; unfold ev) <;> rfl
@[simp] theorem q_ev_or (a : E) (b : E) (s : St) : ev call (.or a b) s = (ev call a s).bind fun (x, s) => match x with
    | .bl true => .ok (.bl true, s)
    | .bl false => ev call b s
    | _ => .err := by (conv => lhs; unfold ev) <;> rfl
@[simp] theorem q_ev_not (a : E) (s : St) : ev call (.not a) s = (ev call a s).bind fun (x, s) => match x with
    | .bl p => .ok (.bl (!p), s)
    | _ => .err := by (conv => lhs; unfold ev) <;> rfl
@[simp] theorem q_ev_ife (c : E) (a : E) (b : E) (s : St) : ev call (.ife c a b) s = (ev call c s).bind fun (x, s) => match x with
    | .bl true => ev call a s
    | .bl false => ev call b s
    | _ => .err := by (conv => lhs; unfold ev) <;> rfl
@[simp] theorem q_ev_call (f : Nat) (es : List E) (s : St) : ev call (.call f es) s = (evs call es s).bind fun (ds, s) => callR call f ds s := by (conv => lhs; unfold ev) <;> rfl
@[simp] theorem q_ev_callo (f : Nat) (es : List E) (s : St) : ev call (.callo f es) s = (evs call es s).bind fun (ds, s) => callO call f ds s := by (conv => lhs; unfold ev) <;> rfl
@[simp] theorem q_ev_callk (f : Nat) (pre : List E) (ix : List Nat) (es : List E) (s : St) : ev call (.callk f pre ix es) s = (evs call pre s).bind fun (ps, s) => (evs call es s).bind fun (ds, s) => callR call f (ps ++ ix.map fun j => ds.getD j .non) s := by (conv => lhs; unfold ev) <;> rfl
@[simp] theorem q_ev_bi (b : Bi) (es : List E) (s : St) : ev call (.bi b es) s = (evs call es s).bind fun (ds, s) => (Res.of (biD b ds)).bind fun d => .ok (d, s) := by (conv => lhs; unfold ev) <;> rfl
@[simp] theorem q_ev_isi (a : E) (ts : List Ty) (s : St) : ev call (.isi a ts) s = (ev call a s).bind fun (x, s) => if x.isiOk && ts.all Ty.plain then .ok (.bl (ts.any fun t => t.is x), s) else .err := by (conv => lhs; unfold ev) <;> rfl
@[simp] theorem q_ev_sub (a : E) (i : E) (s : St) : ev call (.sub a i) s = (ev call a s).bind fun (x, s) => (ev call i s).bind fun (y, s) => (Res.of (subD s.F x y)).bind fun d => .ok (d, s) := by (conv => lhs; unfold ev) <;> rfl
@[simp] theorem q_ev_slc (a : E) (lo : List E) (hi : List E) (s : St) : ev call (.slc a lo hi) s = (ev call a s).bind fun (x, s) => (evs call lo s).bind fun (l, s) => (evs call hi s).bind fun (h, s) =>
    match x, optInt l, optInt h with
    | .tup xs, some l, some h => .ok (.tup (cutD xs l h), s)
    | .lst xs, some l, some h => .ok (.lst (cutD xs l h), s)
    | .scr xs, some l, some h => .ok (.lst ((cutD xs l h).map .int), s)
    | _, _, _ => .err := by (conv => lhs; unfold ev) <;> rfl
@[simp] theorem q_ev_rngT (a : E) (s : St) : ev call (.rngT a) s = (ev call a s).bind fun (x, s) => match x with
    | .int n => if rngOk 0 n then .ok (.tup (rngD 0 n), s) else .err
    | _ => .err := by (conv => lhs; unfold ev) <;> rfl
@[simp] theorem q_ev_rngL (a : E) (s : St) : ev call (.rngL a) s = (ev call a s).bind fun (x, s) => match x with
    | .int n => if rngOk 0 n then .ok (.lst (rngD 0 n), s) else .err
    | _ => .err := by (conv => lhs; unfold ev) <;> rfl
@[simp] theorem q_ev_lenO (i : Nat) (s : St) : ev call (.lenO i) s = match heldOf s.ρ[i]? with
    | some d => (Res.of (lenD d)).bind fun n => .ok (.int n, s)
    | none => .err := by (conv => lhs; unfold ev) <;> rfl
@[simp] theorem q_ev_subO (i : Nat) (e : E) (s : St) : ev call (.subO i e) s = if (heldOf s.ρ[i]?).isSome = false then .err else (ev call e s).bind fun (k, s) => match heldOf s.ρ[i]? with
    | some d => (Res.of (subD s.F d k)).bind fun d => .ok (d, s)
    | none => .err := by (conv => lhs; unfold ev) <;> rfl
@[simp] theorem q_ev_inO (n : Bool) (e : E) (i : Nat) (s : St) : ev call (.inO n e i) s = (ev call e s).bind fun (k, s) => match heldOf s.ρ[i]? with
    | some d => (Res.of (cmpD (if n then .nin else .inn) k d)).bind fun d => .ok (.bl d, s)
    | none => .err := by (conv => lhs; unfold ev) <;> rfl
@[simp] theorem q_ev_eqO (n : Bool) (i : Nat) (e : E) (s : St) : ev call (.eqO n i e) s = if (heldOf s.ρ[i]?).isSome = false then .err else (ev call e s).bind fun (k, s) => match heldOf s.ρ[i]? with
    | some d => (Res.of (cmpD (if n then .ne else .eq) d k)).bind fun d => .ok (.bl d, s)
    | none => .err := by (conv => lhs; unfold ev) <;> rfl
@[simp] theorem q_ev_cpO (b : Bi) (i : Nat) (s : St) : ev call (.cpO b i) s = match heldOf s.ρ[i]? with
    | some d => (Res.of (biD b [d])).bind fun d => .ok (d, s)
    | none => .err := by (conv => lhs; unfold ev) <;> rfl
@[simp] theorem q_ev_app (i : Nat) (e : E) (s : St) : ev call (.app i e) s = if ownL s.ρ[i]? = false then .err else (ev call e s).bind fun (x, s) => match ownOf s.ρ[i]? with
    | some (.lst xs) => if xs.length < line then .ok (.non, { s with ρ := s.ρ.set i (.own (.lst (xs ++ [x]))) }) else .err
    | _ => .err := by (conv => lhs; unfold ev) <;> rfl
@[simp] theorem q_ev_ext (i : Nat) (e : E) (s : St) : ev call (.ext i e) s = if ownL s.ρ[i]? = false then .err else (ev call e s).bind fun (x, s) => match ownOf s.ρ[i]?, x with
    | some (.lst xs), .lst ys => if xs.length + ys.length ≤ line then .ok (.non, { s with ρ := s.ρ.set i (.own (.lst (xs ++ ys))) }) else .err
    | _, _ => .err := by (conv => lhs; unfold ev) <;> rfl
@[simp] theorem q_ev_pop (i : Nat) (s : St) : ev call (.pop i) s = match ownOf s.ρ[i]? with
    | some (.lst xs) => match xs.getLast? with
      | some y => .ok (y, { s with ρ := s.ρ.set i (.own (.lst xs.dropLast)) })
      | none => .err
    | _ => .err := by (conv => lhs; unfold ev) <;> rfl
@[simp] theorem q_ev_popA (i : Nat) (e : E) (s : St) : ev call (.popA i e) s = if ownL s.ρ[i]? = false then .err else (ev call e s).bind fun (k, s) => match ownOf s.ρ[i]?, k with
    | some (.lst xs), .int k => if line < xs.length then .err else match ixD xs.length k with
      | some j => match xs[j]? with
        | some y => .ok (y, { s with ρ := s.ρ.set i (.own (.lst (xs.eraseIdx j))) })
        | none => .err
      | none => .err
    | _, _ => .err := by (conv => lhs; unfold ev) <;> rfl
@[simp] theorem q_ev_idx (t : Bool) (a : E) (e : E) (s : St) : ev call (.idx t a e) s = (ev call a s).bind fun (x, s) => (ev call e s).bind fun (y, s) => (Res.of (idxD t x y)).bind fun j => .ok (.int (j : Nat), s) := by (conv => lhs; unfold ev) <;> rfl
@[simp] theorem q_ev_emp (t : Bool) (s : St) : ev call (.emp t) s = .ok (if t then .dct [] [] else .dci [] [], s) := by (conv => lhs; unfold ev) <;> rfl
@[simp] theorem q_ev_cell (e : E) (s : St) : ev call (.cell e) s = (ev call e s).bind fun (x, s) => match cellOf x with
    | some cl => .ok (.mref s.F.length, { s with F := s.F ++ [cl] })
    | none => .err := by (conv => lhs; unfold ev) <;> rfl
@[simp] theorem q_ev_attr (e : E) (c : Str) (f : Str) (s : St) : ev call (.attr e c f) s = (ev call e s).bind fun (x, s) => match insOf s.F x with
    | some (_, c', fs) => if c' = c then (Res.of (getF fs f)).bind fun d => .ok (d, s) else .err
    | none => .err := by (conv => lhs; unfold ev) <;> rfl
@[simp] theorem q_ev_meth (e : E) (c : Str) (m : Str) (f : Nat) (es : List E) (s : St) : ev call (.meth e c m f es) s = (ev call e s).bind fun (x, s) => match insOf s.F x with
    | some (_, c', fs) => if c' = c ∧ getF fs m = none then (evs call es s).bind fun (ds, s) => callR call f (x :: ds) s else .err
    | none => .err := by (conv => lhs; unfold ev) <;> rfl
@[simp] theorem q_ev_new (c : Str) (f : Nat) (es : List E) (s : St) : ev call (.new c f es) s = (evs call es s).bind fun (ds, s) => newR call c f ds s := by (conv => lhs; unfold ev) <;> rfl
@[simp] theorem q_ev_inM (n : Bool) (a : E) (b : E) (s : St) : ev call (.inM n a b) s = (ev call a s).bind fun (x, s) => (ev call b s).bind fun (y, s) => match cellAt s.F y with
    | some cl => (Res.of (cmpD (if n then .nin else .inn) x cl.d)).bind fun d => .ok (.bl d, s)
    | none => .err := by (conv => lhs; unfold ev) <;> rfl
@[simp] theorem q_ev_lenM (a : E) (s : St) : ev call (.lenM a) s = (ev call a s).bind fun (x, s) => match cellAt s.F x with
    | some cl => (Res.of (lenD cl.d)).bind fun n => .ok (.int n, s)
    | none => .err := by (conv => lhs; unfold ev) <;> rfl
@[simp] theorem q_ev_appM (a : E) (e : E) (s : St) : ev call (.appM a e) s = (ev call a s).bind fun (x, s) => match x with
    | .mref n => if ownL ((s.F[n]?).map .own) = false then .err else (ev call e s).bind fun (y, s) => match s.F[n]? with
      | some (.lst xs) => if xs.length < line then .ok (.non, { s with F := s.F.set n (.lst (xs ++ [y])) }) else .err
      | _ => .err
    | _ => .err := by (conv => lhs; unfold ev) <;> rfl
@[simp] theorem q_ev_popM (a : E) (e : E) (s : St) : ev call (.popM a e) s = (ev call a s).bind fun (x, s) => match x with
    | .mref n => if ownL ((s.F[n]?).map .own) = false then .err else (ev call e s).bind fun (k, s) => match s.F[n]?, k with
      | some (.lst xs), .int k => if line < xs.length then .err else match ixD xs.length k with
        | some j => match xs[j]? with
          | some y => .ok (y, { s with F := s.F.set n (.lst (xs.eraseIdx j)) })
          | none => .err
        | none => .err
      | _, _ => .err
    | _ => .err := by (conv => lhs; unfold ev) <;> rfl
@[simp] theorem q_ev_cpM (b : Bi) (a : E) (s : St) : ev call (.cpM b a) s = (ev call a s).bind fun (x, s) => match cellAt s.F x with
    | some cl => (Res.of (biD b [cl.d])).bind fun d => .ok (d, s)
    | none => .err := by (conv => lhs; unfold ev) <;> rfl
@[simp] theorem q_ev_eqM (n : Bool) (a : E) (e : E) (s : St) : ev call (.eqM n a e) s = (ev call a s).bind fun (x, s) => (ev call e s).bind fun (y, s) => match cellAt s.F x with
    | some cl => (Res.of (cmpD (if n then .ne else .eq) cl.d y)).bind fun d => .ok (.bl d, s)
    | none => .err := by (conv => lhs; unfold ev) <;> rfl
@[simp] theorem q_xev_call (f : Nat) (es : List E) (s : St) : xev call (.call f es) s = (strict (evs call es s)).bind fun (ds, s) => callR call f ds s := by (conv => lhs; unfold xev) <;> rfl
@[simp] theorem q_xev_new (c : Str) (f : Nat) (es : List E) (s : St) : xev call (.new c f es) s = (strict (evs call es s)).bind fun (ds, s) => newR call c f ds s := by (conv => lhs; unfold xev) <;> rfl
@[simp] theorem q_xev_meth (e : E) (c : Str) (m : Str) (f : Nat) (es : List E) (s : St) : xev call (.meth e c m f es) s = (xev call e s).bind fun (x, s) => match insOf s.F x with
    | some (_, c', fs) => if c' = c ∧ getF fs m = none then (strict (evs call es s)).bind fun (ds, s) => callR call f (x :: ds) s else .err
    | none => .err := by (conv => lhs; unfold xev) <;> rfl
@[simp] theorem q_xev_ife (c : E) (a : E) (b : E) (s : St) : xev call (.ife c a b) s = (strict (ev call c s)).bind fun (x, s) => match x with
    | .bl true => xev call a s
    | .bl false => xev call b s
    | _ => .err := by (conv => lhs; unfold xev) <;> rfl
@[simp] theorem q_xev_cmp (op : COp) (a : E) (b : E) (s : St) : xev call (.cmp op a b) s = (xev call a s).bind fun (x, s) => (strict (ev call b s)).bind fun (y, s) => (Res.of (cmpD op x y)).bind fun d => .ok (.bl d, s) := by (conv => lhs; unfold xev) <;> rfl
@[simp] theorem q_xev_app (i : Nat) (e : E) (s : St) : xev call (.app i e) s = if ownL s.ρ[i]? = false then .err else (xev call e s).bind fun (x, s) => match ownOf s.ρ[i]? with
    | some (.lst xs) => if xs.length < line then .ok (.non, { s with ρ := s.ρ.set i (.own (.lst (xs ++ [x]))) }) else .err
    | _ => .err := by (conv => lhs; unfold xev) <;> rfl
@[simp] theorem q_xev_var (z0 : Nat) (s : St) : xev call (.var z0) s = strict (ev call (.var z0) s) := rfl
@[simp] theorem q_xev_con (z0 : D) (s : St) : xev call (.con z0) s = strict (ev call (.con z0) s) := rfl
@[simp] theorem q_xev_glo (z0 : Str) (z1 : Int) (s : St) : xev call (.glo z0 z1) s = strict (ev call (.glo z0 z1) s) := rfl
@[simp] theorem q_xev_tup (z0 : List E) (s : St) : xev call (.tup z0) s = strict (ev call (.tup z0) s) := rfl
@[simp] theorem q_xev_lst (z0 : List E) (s : St) : xev call (.lst z0) s = strict (ev call (.lst z0) s) := rfl
@[simp] theorem q_xev_bin (z0 : BOp) (z1 : E) (z2 : E) (s : St) : xev call (.bin z0 z1 z2) s = strict (ev call (.bin z0 z1 z2) s) := rfl
@[simp] theorem q_xev_neg (z0 : E) (s : St) : xev call (.neg z0) s = strict (ev call (.neg z0) s) := rfl
@[simp] theorem q_xev_chn (z0 : COp) (z1 : COp) (z2 : E) (z3 : E) (z4 : E) (s : St) : xev call (.chn z0 z1 z2 z3 z4) s = strict (ev call (.chn z0 z1 z2 z3 z4) s) := rfl
@[simp] theorem q_xev_isn (z0 : Bool) (z1 : E) (s : St) : xev call (.isn z0 z1) s = strict (ev call (.isn z0 z1) s) := rfl
@[simp] theorem q_xev_isb (z0 : Bool) (z1 : E) (z2 : E) (s : St) : xev call (.isb z0 z1 z2) s = strict (ev call (.isb z0 z1 z2) s) := rfl
@[simp] theorem q_xev_and (z0 : E) (z1 : E) (s : St) : xev call (.and z0 z1) s = strict (ev call (.and z0 z1) s) := rfl
@[simp] theorem q_xev_or (z0 : E) (z1 : E) (s : St) : xev call (.or z0 z1) s = strict (ev call (.or z0 z1) s) := rfl
@[simp] theorem q_xev_not (z0 : E) (s : St) : xev call (.not z0) s = strict (ev call (.not z0) s) := rfl
@[simp] theorem q_xev_callo (z0 : Nat) (z1 : List E) (s : St) : xev call (.callo z0 z1) s = strict (ev call (.callo z0 z1) s) := rfl
@[simp] theorem q_xev_callk (z0 : Nat) (z1 : List E) (z2 : List Nat) (z3 : List E) (s : St) : xev call (.callk z0 z1 z2 z3) s = strict (ev call (.callk z0 z1 z2 z3) s) := rfl
@[simp] theorem q_xev_bi (z0 : Bi) (z1 : List E) (s : St) : xev call (.bi z0 z1) s = strict (ev call (.bi z0 z1) s) := rfl
@[simp] theorem q_xev_isi (z0 : E) (z1 : List Ty) (s : St) : xev call (.isi z0 z1) s = strict (ev call (.isi z0 z1) s) := rfl
@[simp] theorem q_xev_sub (z0 : E) (z1 : E) (s : St) : xev call (.sub z0 z1) s = strict (ev call (.sub z0 z1) s) := rfl
@[simp] theorem q_xev_slc (z0 : E) (z1 : List E) (z2 : List E) (s : St) : xev call (.slc z0 z1 z2) s = strict (ev call (.slc z0 z1 z2) s) := rfl
@[simp] theorem q_xev_rngT (z0 : E) (s : St) : xev call (.rngT z0) s = strict (ev call (.rngT z0) s) := rfl
@[simp] theorem q_xev_rngL (z0 : E) (s : St) : xev call (.rngL z0) s = strict (ev call (.rngL z0) s) := rfl
@[simp] theorem q_xev_lenO (z0 : Nat) (s : St) : xev call (.lenO z0) s = strict (ev call (.lenO z0) s) := rfl
@[simp] theorem q_xev_subO (z0 : Nat) (z1 : E) (s : St) : xev call (.subO z0 z1) s = strict (ev call (.subO z0 z1) s) := rfl
@[simp] theorem q_xev_inO (z0 : Bool) (z1 : E) (z2 : Nat) (s : St) : xev call (.inO z0 z1 z2) s = strict (ev call (.inO z0 z1 z2) s) := rfl
@[simp] theorem q_xev_eqO (z0 : Bool) (z1 : Nat) (z2 : E) (s : St) : xev call (.eqO z0 z1 z2) s = strict (ev call (.eqO z0 z1 z2) s) := rfl
@[simp] theorem q_xev_cpO (z0 : Bi) (z1 : Nat) (s : St) : xev call (.cpO z0 z1) s = strict (ev call (.cpO z0 z1) s) := rfl
@[simp] theorem q_xev_ext (z0 : Nat) (z1 : E) (s : St) : xev call (.ext z0 z1) s = strict (ev call (.ext z0 z1) s) := rfl
@[simp] theorem q_xev_pop (z0 : Nat) (s : St) : xev call (.pop z0) s = strict (ev call (.pop z0) s) := rfl
@[simp] theorem q_xev_popA (z0 : Nat) (z1 : E) (s : St) : xev call (.popA z0 z1) s = strict (ev call (.popA z0 z1) s) := rfl
@[simp] theorem q_xev_idx (z0 : Bool) (z1 : E) (z2 : E) (s : St) : xev call (.idx z0 z1 z2) s = strict (ev call (.idx z0 z1 z2) s) := rfl
@[simp] theorem q_xev_lc (z0 : List Nat) (z1 : E) (z2 : Tg) (z3 : I) (z4 : List E) (s : St) : xev call (.lc z0 z1 z2 z3 z4) s = strict (ev call (.lc z0 z1 z2 z3 z4) s) := rfl
@[simp] theorem q_xev_lc2 (z0 : List Nat) (z1 : E) (z2 : Tg) (z3 : I) (z4 : List E) (z5 : List Nat) (z6 : Tg) (z7 : I) (z8 : List E) (s : St) : xev call (.lc2 z0 z1 z2 z3 z4 z5 z6 z7 z8) s = strict (ev call (.lc2 z0 z1 z2 z3 z4 z5 z6 z7 z8) s) := rfl
@[simp] theorem q_xev_dci (z0 : List Nat) (z1 : E) (z2 : E) (z3 : Tg) (z4 : I) (z5 : List E) (s : St) : xev call (.dci z0 z1 z2 z3 z4 z5) s = strict (ev call (.dci z0 z1 z2 z3 z4 z5) s) := rfl
@[simp] theorem q_xev_dct (z0 : List Nat) (z1 : E) (z2 : E) (z3 : Tg) (z4 : I) (z5 : List E) (s : St) : xev call (.dct z0 z1 z2 z3 z4 z5) s = strict (ev call (.dct z0 z1 z2 z3 z4 z5) s) := rfl
@[simp] theorem q_xev_emp (z0 : Bool) (s : St) : xev call (.emp z0) s = strict (ev call (.emp z0) s) := rfl
@[simp] theorem q_xev_cell (z0 : E) (s : St) : xev call (.cell z0) s = strict (ev call (.cell z0) s) := rfl
@[simp] theorem q_xev_attr (z0 : E) (z1 : Str) (z2 : Str) (s : St) : xev call (.attr z0 z1 z2) s = strict (ev call (.attr z0 z1 z2) s) := rfl
@[simp] theorem q_xev_inM (z0 : Bool) (z1 : E) (z2 : E) (s : St) : xev call (.inM z0 z1 z2) s = strict (ev call (.inM z0 z1 z2) s) := rfl
@[simp] theorem q_xev_lenM (z0 : E) (s : St) : xev call (.lenM z0) s = strict (ev call (.lenM z0) s) := rfl
@[simp] theorem q_xev_appM (z0 : E) (z1 : E) (s : St) : xev call (.appM z0 z1) s = strict (ev call (.appM z0 z1) s) := rfl
@[simp] theorem q_xev_popM (z0 : E) (z1 : E) (s : St) : xev call (.popM z0 z1) s = strict (ev call (.popM z0 z1) s) := rfl
@[simp] theorem q_xev_cpM (z0 : Bi) (z1 : E) (s : St) : xev call (.cpM z0 z1) s = strict (ev call (.cpM z0 z1) s) := rfl
@[simp] theorem q_xev_eqM (z0 : Bool) (z1 : E) (z2 : E) (s : St) : xev call (.eqM z0 z1 z2) s = strict (ev call (.eqM z0 z1 z2) s) := rfl
@[simp] theorem q_run_set (i : Nat) (e : E) (s : St) : run call W (.set i e) s = (xev call e s).bind fun (x, s) => if i < s.ρ.length then .ok (.nx, { s with ρ := s.ρ.set i (.val x) }) else .err := by (conv => lhs; unfold run) <;> rfl
@[simp] theorem q_run_own (i : Nat) (e : E) (s : St) : run call W (.own i e) s = (strict (ev call e s)).bind fun (x, s) => match cellOf x with
    | some c => if i < s.ρ.length then .ok (.nx, { s with ρ := s.ρ.set i (.own c) }) else .err
    | none => .err := by (conv => lhs; unfold run) <;> rfl
@[simp] theorem q_run_tup (tg : Tg) (e : E) (s : St) : run call W (.tup tg e) s = (strict (ev call e s)).bind fun (x, s) => (Res.of (assignTg tg x s.ρ)).bind fun ρ => .ok (.nx, { s with ρ := ρ }) := by (conv => lhs; unfold run) <;> rfl
@[simp] theorem q_run_par (is : List Nat) (es : List E) (ow : List Bool) (s : St) : run call W (.par is es ow) s = (strict (evs call es s)).bind fun (xs, s) => (Res.of (parS is xs ow s.ρ)).bind fun ρ => .ok (.nx, { s with ρ := ρ }) := by (conv => lhs; unfold run) <;> rfl
@[simp] theorem q_run_seti (i : Nat) (k : E) (e : E) (s : St) : run call W (.seti i k e) s = (strict (ev call e s)).bind fun (x, s) => if (heldOf s.ρ[i]?).isSome = false then .err else (strict (ev call k s)).bind fun (k, s) => match ownOf s.ρ[i]? with
    | some c => (Res.of (setCell c k x)).bind fun c => .ok (.nx, { s with ρ := s.ρ.set i (.own c) })
    | none => .err := by (conv => lhs; unfold run) <;> rfl
@[simp] theorem q_run_setc (a : E) (k : E) (e : E) (s : St) : run call W (.setc a k e) s = (strict (ev call e s)).bind fun (x, s) => (strict (ev call a s)).bind fun (o, s) => (strict (ev call k s)).bind fun (k, s) => match o with
    | .mref n => match s.F[n]? with
      | some c => (Res.of (setCell c k x)).bind fun c => .ok (.nx, { s with F := s.F.set n c })
      | none => .err
    | _ => .err := by (conv => lhs; unfold run) <;> rfl
@[simp] theorem q_run_seta (a : E) (c : Str) (f : Str) (e : E) (s : St) : run call W (.seta a c f e) s = (xev call e s).bind fun (x, s) => (strict (ev call a s)).bind fun (o, s) => match insOf s.F o with
    | some (n, c', fs) => if c' = c ∧ fs.length < fieldMax then .ok (.nx, { s with F := s.F.set n (.ins c (setF fs f x)) }) else .err
    | none => .err := by (conv => lhs; unfold run) <;> rfl
@[simp] theorem q_run_taga (c : Str) (fs : List Str) (e : E) (s : St) : run call W (.taga c fs e) s = (strict (ev call e s)).bind fun (x, s) => match x with
    | .tup ds => match (s.ρ[0]? : Option Slot) with
      | some (.val o) => match insOf s.F o with
        | some (n, c', gs) => if c' = c ∧ gs.length + fs.length < fieldMax ∧ ds.length = fs.length then .ok (.nx, { s with F := s.F.set n (.ins c ((fs.zip ds).foldl (fun g p => setF g p.1 p.2) gs)) }) else .err
        | none => .err
      | _ => .err
    | _ => .err := by (conv => lhs; unfold run) <;> rfl
@[simp] theorem q_run_aug (i : Nat) (op : BOp) (e : E) (s : St) : run call W (.aug i op e) s = match s.ρ[i]? with
    | some (.val x) => (strict (ev call e s)).bind fun (y, s) => match x, y, op with
      | .int a, .int b, .add => .ok (.nx, { s with ρ := s.ρ.set i (.val (.int (a + b))) })
      | .int a, .int b, .sub => .ok (.nx, { s with ρ := s.ρ.set i (.val (.int (a - b))) })
      | _, _, _ => .err
    | _ => .err := by (conv => lhs; unfold run) <;> rfl
@[simp] theorem q_run_ex (e : E) (s : St) : run call W (.ex e) s = (xev call e s).bind fun (_, s) => .ok (.nx, s) := by (conv => lhs; unfold run) <;> rfl
@[simp] theorem q_run_ret (e : E) (s : St) : run call W (.ret e) s = (xev call e s).bind fun (x, s) => .ok (.ret x, s) := by (conv => lhs; unfold run) <;> rfl
@[simp] theorem q_run_reto (e : E) (s : St) : run call W (.reto e) s = (strict (ev call e s)).bind fun (x, s) => .ok (.reto x, s) := by (conv => lhs; unfold run) <;> rfl
@[simp] theorem q_run_ife (c : E) (a : List S) (b : List S) (s : St) : run call W (.ife c a b) s = (strict (ev call c s)).bind fun (x, s) => match x with
    | .bl true => runs call W a s
    | .bl false => runs call W b s
    | _ => .err := by (conv => lhs; unfold run) <;> rfl
@[simp] theorem q_run_brk  (s : St) : run call W (.brk ) s = .ok (.brk, s) := by (conv => lhs; unfold run) <;> rfl
@[simp] theorem q_run_ct  (s : St) : run call W (.ct ) s = .ok (.ct, s) := by (conv => lhs; unfold run) <;> rfl
@[simp] theorem q_run_pass  (s : St) : run call W (.pass ) s = .ok (.nx, s) := by (conv => lhs; unfold run) <;> rfl
@[simp] theorem q_run_raise (c : Str) (s : St) : run call W (.raise c) s = .exc c s := by (conv => lhs; unfold run) <;> rfl
@[simp] theorem q_run_try1 (b : List S) (c : Str) (oth : List Str) (h : D) (s : St) : run call W (.try1 b c oth h) s = match runs call W b s with
    | .exc c' s' => if c' = c then .ok (.ret h, s') else if c' ∈ oth then .exc c' s' else .err
    | r => r := by (conv => lhs; unfold run) <;> rfl
@[simp] theorem q_evs_nil (s : St) : evs call [] s = .ok ([], s) := by (conv => lhs; unfold evs) <;> rfl
@[simp] theorem q_evs_cons (e : E) (es : List E) (s : St) : evs call (e :: es) s = (ev call e s).bind fun (x, s) => (evs call es s).bind fun (xs, s) => .ok (x :: xs, s) := by (conv => lhs; unfold evs) <;> rfl
@[simp] theorem q_runs_nil (s : St) : runs call W [] s = .ok (.nx, s) := by (conv => lhs; unfold runs) <;> rfl
@[simp] theorem q_runs_cons (b : S) (bs : List S) (s : St) : runs call W (b :: bs) s = (run call W b s).bind fun (fl, s) => match fl with
  | .nx => runs call W bs s
  | fl => .ok (fl, s) := by (conv => lhs; unfold runs) <;> rfl
@[simp] theorem b_len (d : D) : biD .len [d] = (lenD d).map fun (n : Nat) => .int n := rfl
@[simp] theorem b_int (i : Int) : biD .int [.int i] = some (.int i) := rfl
@[simp] theorem b_sum (xs : List D) : biD .sum [.lst xs] = (intsOf xs).map fun l => .int l.sum := rfl
@[simp] theorem b_max2 (i j : Int) : biD .max2 [.int i, .int j] = some (.int (if j > i then j else i)) := rfl
@[simp] theorem b_min2 (i j : Int) : biD .min2 [.int i, .int j] = some (.int (if j < i then j else i)) := rfl
@[simp] theorem b_all (xs : List D) : biD .all [.lst xs] = (blsOf xs).map fun l => .bl (l.all id) := rfl
@[simp] theorem b_tupl (xs : List D) : biD .tuple [.lst xs] = some (.tup xs) := rfl
@[simp] theorem b_tupt (xs : List D) : biD .tuple [.tup xs] = some (.tup xs) := rfl
@[simp] theorem b_lstl (xs : List D) : biD .list [.lst xs] = some (.lst xs) := rfl
@[simp] theorem b_lstt (xs : List D) : biD .list [.tup xs] = some (.lst xs) := rfl
@[simp] theorem b_sorl (xs : List D) : biD .sorted [.lst xs] = if sortOk xs then some (.lst (sortL xs)) else none := rfl
@[simp] theorem b_sort (xs : List D) : biD .sorted [.tup xs] = if sortOk xs then some (.lst (sortL xs)) else none := rfl
@[simp] theorem l_tup (xs : List D) : lenD (.tup xs) = some xs.length := rfl
@[simp] theorem l_lst (xs : List D) : lenD (.lst xs) = some xs.length := rfl
@[simp] theorem l_scr (xs : List Int) : lenD (.scr xs) = some xs.length := rfl
@[simp] theorem l_dci (ks : List Int) (vs : List D) : lenD (.dci ks vs) = some ks.length := rfl
@[simp] theorem l_dct (ks vs : List D) : lenD (.dct ks vs) = some ks.length := rfl
@[simp] theorem a_int (i j : Int) : binD .add (.int i) (.int j) = some (.int (i + j)) := rfl
@[simp] theorem s_int (i j : Int) : binD .sub (.int i) (.int j) = some (.int (i - j)) := rfl
@[simp] theorem c_lt (i j : Int) : cmpD .lt (.int i) (.int j) = some (decide (i < j)) := rfl
@[simp] theorem c_gt (i j : Int) : cmpD .gt (.int i) (.int j) = some (decide (j < i)) := rfl
@[simp] theorem c_le (i j : Int) : cmpD .le (.int i) (.int j) = some (decide (i ≤ j)) := by
  show some (!decide (j < i)) = _
  congr 1
  rw [Bool.eq_iff_iff]
  simp
@[simp] theorem c_ge (i j : Int) : cmpD .ge (.int i) (.int j) = some (decide (j ≤ i)) := by
  show some (!decide (i < j)) = _
  congr 1
  rw [Bool.eq_iff_iff]
  simp
@[simp] theorem c_eq (i j : Int) : cmpD .eq (.int i) (.int j) = some (decide (i = j)) := by
  show some (i == j) = _
  rw [Bool.beq_eq_decide_eq]
@[simp] theorem c_ne (i j : Int) : cmpD .ne (.int i) (.int j) = some (!decide (i = j)) := by
  show some (!(i == j)) = _
  rw [Bool.beq_eq_decide_eq]
@[simp] theorem isi_int (i : Int) : D.isiOk (.int i) = true := rfl
@[simp] theorem isi_tup (i : List D) : D.isiOk (.tup i) = true := rfl
@[simp] theorem isi_lst (i : List D) : D.isiOk (.lst i) = true := rfl
@[simp] theorem isi_bl (i : Bool) : D.isiOk (.bl i) = true := rfl
@[simp] theorem e_ret (d : D) (s : St) : endOf (.ok (.ret d, s)) = .ok d false s.F := rfl
@[simp] theorem e_reto (d : D) (s : St) : endOf (.ok (.reto d, s)) = .ok d true s.F := rfl
/-- [e for tg in it] -/
theorem lc_map {vs : List Nat} {e : E} {tg : Tg} {it : I} {s : St} {xs : List D} {g : D → D} (hi : evI call it s = .ok (xs, s)) (ho : hasOwn s.ρ vs = false)
    (hb : ∀ x ∈ xs, ∃ ρ, assignTg tg x (wipeS s.ρ vs) = some ρ ∧ wipeS ρ vs = wipeS s.ρ vs ∧ ev call e { s with ρ := ρ } = .ok (g x, { s with ρ := ρ })) (hl : xs.length ≤ line) : ev call (.lc vs e tg it []) s = .ok (.lst (xs.map g), s) := by
  have h := lc_pure (call := call) (vs := vs) (e := e) (tg := tg) (it := it) (ifs := []) (s := s) (xs := xs) (p := fun _ => true) (g := g) hi ho (fun x hx => by
    obtain ⟨ρ, h1, h2, h3⟩ := hb x hx
    exact ⟨ρ, [], h1, h2, by simp, rfl, fun _ => h3⟩) hl
  rw [h, List.filter_eq_self.mpr fun _ _ => rfl]
/-- [.. for tg in range, rows], over a list that is a map -/
theorem lc_mapf {α : Type} {vs : List Nat} {e : E} {tg : Tg} {it : I} {s : St} {as : List α} {h : α → D} {g : α → D} (hi : evI call it s = .ok (as.map h, s)) (ho : hasOwn s.ρ vs = false)
    (hb : ∀ a ∈ as, ∃ ρ, assignTg tg (h a) (wipeS s.ρ vs) = some ρ ∧ wipeS ρ vs = wipeS s.ρ vs ∧ ev call e { s with ρ := ρ } = .ok (g a, { s with ρ := ρ })) (hl : as.length ≤ line) : ev call (.lc vs e tg it []) s = .ok (.lst (as.map g), s) := by
  have main : ∀ {xs : List D}, (∀ x ∈ xs, ∃ a ∈ as, x = h a) → ∀ t : St, wipeS t.ρ vs = wipeS s.ρ vs ∧ t.F = s.F → ∀ bs : List α, xs = bs.map h → (∀ a ∈ bs, a ∈ as) → ∃ t', (wipeS t'.ρ vs = wipeS s.ρ vs ∧ t'.F = s.F) ∧ lcLoop (lcTurn vs tg (evs call []) (ev call e)) xs t = .ok (bs.map g, t') := by
    intro xs
    induction xs with
    | nil =>
      intro _ t ht bs hbs _
      cases bs with
      | nil => exact ⟨t, ht, rfl⟩
      | cons _ _ => simp at hbs
    | cons x xs ih =>
      intro hx t ht bs hbs hm
      cases bs with
      | nil => simp at hbs
      | cons b bs =>
        simp only [List.map_cons, List.cons.injEq] at hbs
        obtain ⟨rfl, hbs⟩ := hbs
        obtain ⟨ρ, a1, a2, a3⟩ := hb b (hm b List.mem_cons_self)
        have et : ({ t with ρ := ρ } : St) = { s with ρ := ρ } := by
          obtain ⟨_, t2⟩ := ht
          cases t; cases s; simp only at t2; simp [t2]
        obtain ⟨t', h1, h2⟩ := ih (fun y hy => hx y (List.mem_cons_of_mem _ hy)) { s with ρ := ρ } ⟨a2, rfl⟩ bs hbs fun a ha => hm a (List.mem_cons_of_mem _ ha)
        refine ⟨t', h1, ?_⟩
        simp only [lcLoop]
        have e1 : lcTurn vs tg (evs call []) (ev call e) (h b) t = .ok (some (g b), { s with ρ := ρ }) := by
          unfold lcTurn
          rw [ht.1, a1, Res.of_some, Res.bind_ok, et]
          simp [guardB, boolOf, a3]
        rw [e1, Res.bind_ok, h2]
        rfl
  unfold ev
  rw [bind_ok _ hi]
  dsimp only
  rw [if_neg (by rw [ho]; exact Bool.false_ne_true)]
  obtain ⟨s', ⟨h1, h2⟩, e1⟩ := main (xs := as.map h) (fun x hx => by obtain ⟨a, ha, e⟩ := List.mem_map.mp hx; exact ⟨a, ha, e.symm⟩) s ⟨rfl, rfl⟩ as rfl fun _ h => h
  rw [bind_ok _ e1]
  dsimp only
  rw [if_pos (by rw [List.length_map]; exact hl), pb_same h1]
  cases s'
  cases s
  simp only at h2
  simp [h2]
end
end NW
set_option autoImplicit false
set_option linter.all false
set_option maxRecDepth 100000
/-! NwKeys: dict comprehensions, in plain Lean. -/
namespace NW
def addK {κ : Type} [DecidableEq κ] (ks : List κ) (k : κ) : List κ := if k ∈ ks then ks else ks ++ [k]
theorem putI_keys (ks : List Int) (vs : List D) (k : Int) (v : D) : (putI ks vs k v).1 = addK ks k := by
  unfold putI addK; split <;> rfl
theorem putT_keys (ks : List D) (vs : List D) (k v : D) : (putT ks vs k v).1 = addK ks k := by
  unfold putT addK; split <;> rfl
section
variable {κ α : Type} [DecidableEq κ]
theorem addK_mem {ks : List κ} {k x : κ} : x ∈ addK ks k ↔ x ∈ ks ∨ x = k := by
  unfold addK
  split
  · rename_i h
    exact ⟨.inl, fun z => z.elim id fun e => e ▸ h⟩
  · simp
theorem foldK_mem : ∀ {as ks : List κ} {x : κ}, x ∈ as.foldl addK ks ↔ x ∈ ks ∨ x ∈ as
  | [], ks, x => by simp
  | a :: as, ks, x => by
    rw [List.foldl_cons, foldK_mem, addK_mem]
    simp only [List.mem_cons]
    constructor
    · rintro ((h | h) | h)
      · exact .inl h
      · exact .inr (.inl h)
      · exact .inr (.inr h)
    · rintro (h | h | h)
      · exact .inl (.inl h)
      · exact .inl (.inr h)
      · exact .inr h
theorem foldK_le : ∀ (as ks : List κ), (as.foldl addK ks).length ≤ ks.length + as.length
  | [], ks => by simp
  | a :: as, ks => by
    rw [List.foldl_cons]
    have h := foldK_le as (addK ks a)
    have : (addK ks a).length ≤ ks.length + 1 := by unfold addK; split <;> simp
    simp only [List.length_cons]
    omega
/-- as many keys as items: no item comes twice -/
theorem foldK_len : ∀ (as ks : List κ), (as.foldl addK ks).length = ks.length + as.length ↔ as.Nodup ∧ ∀ a ∈ as, a ∉ ks
  | [], ks => by simp
  | a :: as, ks => by
    rw [List.foldl_cons]
    by_cases h : a ∈ ks
    · have e : addK ks a = ks := by unfold addK; rw [if_pos h]
      rw [e]
      have hle := foldK_le as ks
      constructor
      · intro z
        simp only [List.length_cons] at z
        omega
      · rintro ⟨_, z⟩
        exact absurd h (z a List.mem_cons_self)
    · have e : addK ks a = ks ++ [a] := by unfold addK; rw [if_neg h]
      have ih := foldK_len as (ks ++ [a])
      rw [e]
      have hl : (ks ++ [a]).length + as.length = ks.length + (a :: as).length := by simp; omega
      rw [hl] at ih
      rw [ih, List.nodup_cons]
      constructor
      · rintro ⟨h1, h2⟩
        refine ⟨⟨fun z => ?_, h1⟩, fun b hb => ?_⟩
        · have := h2 a z
          simp at this
        · rcases List.mem_cons.mp hb with rfl | hb
          · exact h
          · exact fun z => h2 b hb (List.mem_append_left _ z)
      · rintro ⟨⟨h1, h2⟩, h3⟩
        refine ⟨h2, fun b hb => ?_⟩
        rw [List.mem_append]
        rintro (z | z)
        · exact h3 b (List.mem_cons_of_mem _ hb) z
        · rw [List.mem_singleton.mp z] at hb; exact h1 hb
theorem foldK_len0 (as : List κ) : ((as.foldl addK []).length = as.length) ↔ as.Nodup := by
  have := foldK_len as []
  simpa using this
end
section
variable {call : Call}
/-- a dict comprehension over a list that is a map: its keys -/
theorem dc_main {α κ : Type} [DecidableEq κ] {put : List κ → List D → κ → D → List κ × List D} (hput : ∀ ks vs k v, (put ks vs k v).1 = addK ks k) {kf : D → Option κ} {vs : List Nat} {k e : E} {tg : Tg} {s : St} {h : α → D} {ky : α → κ} {kd vd : α → D} :
    ∀ {as : List α} (a : List κ × List D) (t : St), (∀ x ∈ as, ∃ ρ, assignTg tg (h x) (wipeS s.ρ vs) = some ρ ∧ wipeS ρ vs = wipeS s.ρ vs ∧ ev call k { s with ρ := ρ } = .ok (kd x, { s with ρ := ρ }) ∧ ev call e { s with ρ := ρ } = .ok (vd x, { s with ρ := ρ }) ∧ kf (kd x) = some (ky x)) →
      wipeS t.ρ vs = wipeS s.ρ vs → t.F = s.F → ∃ a' t', a'.1 = (as.map ky).foldl addK a.1 ∧ wipeS t'.ρ vs = wipeS s.ρ vs ∧ t'.F = s.F ∧ dcLoop put (dcTurn kf vs tg (evs call []) (ev call k) (ev call e)) (as.map h) a t = .ok (a', t')
  | [], a, t, _, h1, h2 => ⟨a, t, rfl, h1, h2, rfl⟩
  | x :: as, a, t, hb, h1, h2 => by
    obtain ⟨ρ, a1, a2, a3, a4, a5⟩ := hb x List.mem_cons_self
    have et : ({ t with ρ := ρ } : St) = { s with ρ := ρ } := by
      cases t; cases s; simp only at h2; simp [h2]
    obtain ⟨a', t', b1, b2, b3, b4⟩ := dc_main hput (kf := kf) (put a.1 a.2 (ky x) (vd x)) { s with ρ := ρ } (fun y hy => hb y (List.mem_cons_of_mem _ hy)) a2 rfl
    refine ⟨a', t', by rw [b1, hput, List.map_cons, List.foldl_cons], b2, b3, ?_⟩
    rw [List.map_cons]
    simp only [dcLoop]
    have e1 : dcTurn kf vs tg (evs call []) (ev call k) (ev call e) (h x) t = .ok (some (ky x, vd x), { s with ρ := ρ }) := by
      unfold dcTurn
      rw [h1, a1, Res.of_some, Res.bind_ok, et]
      simp [guardB, boolOf, a3, a4, a5]
    rw [e1, Res.bind_ok]
    exact b4
theorem dci_mapf {α : Type} {vs : List Nat} {k e : E} {tg : Tg} {it : I} {s : St} {as : List α} {h : α → D} {ky : α → Int} {vd : α → D} (hi : evI call it s = .ok (as.map h, s)) (ho : hasOwn s.ρ vs = false)
    (hb : ∀ x ∈ as, ∃ ρ, assignTg tg (h x) (wipeS s.ρ vs) = some ρ ∧ wipeS ρ vs = wipeS s.ρ vs ∧ ev call k { s with ρ := ρ } = .ok (.int (ky x), { s with ρ := ρ }) ∧ ev call e { s with ρ := ρ } = .ok (vd x, { s with ρ := ρ })) (hl : as.length ≤ line) :
    ∃ ds, ev call (.dci vs k e tg it []) s = .ok (.dci ((as.map ky).foldl addK []) ds, s) := by
  obtain ⟨a', t', b1, b2, b3, b4⟩ := dc_main (call := call) (put := putI) putI_keys (kf := intK) (k := k) (e := e) (tg := tg) (vs := vs) (s := s) (h := h) (ky := ky) (kd := fun x => .int (ky x)) (vd := vd) (as := as) ([], []) s (fun x hx => by
    obtain ⟨ρ, h1, h2, h3, h4⟩ := hb x hx
    exact ⟨ρ, h1, h2, h3, h4, rfl⟩) rfl rfl
  refine ⟨a'.2, ?_⟩
  unfold ev
  rw [bind_ok _ hi]
  dsimp only
  rw [if_neg (by simp [ho]; omega), bind_ok _ b4]
  dsimp only
  rw [pb_same b2, b1]
  cases t'
  cases s
  simp only at b3
  simp [b3]
theorem dct_mapf {α : Type} {vs : List Nat} {k e : E} {tg : Tg} {it : I} {s : St} {as : List α} {h : α → D} {ky : α → D} {vd : α → D} (hi : evI call it s = .ok (as.map h, s)) (ho : hasOwn s.ρ vs = false)
    (hb : ∀ x ∈ as, ∃ ρ, assignTg tg (h x) (wipeS s.ρ vs) = some ρ ∧ wipeS ρ vs = wipeS s.ρ vs ∧ ev call k { s with ρ := ρ } = .ok (ky x, { s with ρ := ρ }) ∧ ev call e { s with ρ := ρ } = .ok (vd x, { s with ρ := ρ }) ∧ keyT (ky x) = true) (hl : as.length ≤ line) :
    ∃ ds, ev call (.dct vs k e tg it []) s = .ok (.dct ((as.map ky).foldl addK []) ds, s) := by
  obtain ⟨a', t', b1, b2, b3, b4⟩ := dc_main (call := call) (put := putT) putT_keys (kf := tupK) (k := k) (e := e) (tg := tg) (vs := vs) (s := s) (h := h) (ky := ky) (kd := ky) (vd := vd) (as := as) ([], []) s (fun x hx => by
    obtain ⟨ρ, h1, h2, h3, h4, h5⟩ := hb x hx
    exact ⟨ρ, h1, h2, h3, h4, by unfold tupK; rw [if_pos h5]⟩) rfl rfl
  refine ⟨a'.2, ?_⟩
  unfold ev
  rw [bind_ok _ hi]
  dsimp only
  rw [if_neg (by simp [ho]; omega), bind_ok _ b4]
  dsimp only
  rw [pb_same b2, b1]
  cases t'
  cases s
  simp only at b3
  simp [b3]
end
end NW
set_option autoImplicit false
set_option linter.all false
set_option maxRecDepth 100000
/-! NwLc2p: two clauses, in plain Lean. -/
namespace NW
section
variable {call : Call}
theorem lcLoop_mapf {α : Type} {f : D → St → Res (Option D × St)} {I : St → Prop} {h g : α → D} : ∀ {as : List α}, (∀ a ∈ as, ∀ s, I s → ∃ s', I s' ∧ f (h a) s = .ok (some (g a), s')) → ∀ s, I s → ∃ s', I s' ∧ lcLoop f (as.map h) s = .ok (as.map g, s')
  | [], _, s, hs => ⟨s, hs, rfl⟩
  | a :: as, hb, s, hs => by
    obtain ⟨s1, h1, e1⟩ := hb a List.mem_cons_self s hs
    obtain ⟨s2, h2, e2⟩ := lcLoop_mapf (fun y hy => hb y (List.mem_cons_of_mem _ hy)) s1 h1
    exact ⟨s2, h2, by simp only [List.map_cons, lcLoop, e1, Res.bind_ok, e2]⟩
theorem lcLoops_mapf {α : Type} {f : D → St → Res (List D × St)} {I : St → Prop} {h : α → D} {g : α → List D} : ∀ {as : List α}, (∀ a ∈ as, ∀ s, I s → ∃ s', I s' ∧ f (h a) s = .ok (g a, s')) → ∀ s, I s → ∃ s', I s' ∧ lcLoops f (as.map h) s = .ok (as.flatMap g, s')
  | [], _, s, hs => ⟨s, hs, rfl⟩
  | a :: as, hb, s, hs => by
    obtain ⟨s1, h1, e1⟩ := hb a List.mem_cons_self s hs
    obtain ⟨s2, h2, e2⟩ := lcLoops_mapf (fun y hy => hb y (List.mem_cons_of_mem _ hy)) s1 h1
    exact ⟨s2, h2, by simp only [List.map_cons, lcLoops, e1, Res.bind_ok, e2, List.flatMap_cons]⟩
theorem run_for {W : Nat} {tg : Tg} {it : I} {b : List S} {s s1 : St} {xs : List D} (hi : evI call it s = .ok (xs, s1)) : run call W (.for tg it b) s = forLoop (fun x s => (Res.of (assignTg tg x s.ρ)).bind fun ρ => runs call W b { s with ρ := ρ }) xs s1 := by
  conv => lhs; unfold run
  rw [hi, strict_ok, Res.bind_ok]
theorem erase_perm {α : Type} : ∀ (l : List α) (j : Nat) (h : j < l.length), (l[j] :: l.eraseIdx j).Perm l
  | a :: l, 0, _ => .refl _
  | a :: l, j + 1, h => by
    have ih := erase_perm l j (by simpa using h)
    simp only [List.getElem_cons_succ, List.eraseIdx_cons_succ]
    exact (List.Perm.swap _ _ _).trans (ih.cons a)
/-- [e for tg in it for tg1 in it1] -/
theorem lc2_mapf {α β : Type} {vs vs1 : List Nat} {e : E} {tg tg1 : Tg} {it it1 : I} {s : St} {as : List α} {bs : α → List β} {h : α → D} {h1 : β → D} {g : α → β → D} (hi : evI call it s = .ok (as.map h, s)) (ho : hasOwn s.ρ vs = false)
    (hb : ∀ a ∈ as, ∃ ρ, assignTg tg (h a) (wipeS s.ρ vs) = some ρ ∧ wipeS ρ vs = wipeS s.ρ vs ∧ evI call it1 { s with ρ := ρ } = .ok ((bs a).map h1, { s with ρ := ρ }) ∧
      ∀ b ∈ bs a, ∃ ρ1, assignTg tg1 (h1 b) (wipeS ρ vs1) = some ρ1 ∧ wipeS ρ1 vs1 = wipeS ρ vs1 ∧ wipeS ρ1 vs = wipeS s.ρ vs ∧ ev call e { s with ρ := ρ1 } = .ok (g a b, { s with ρ := ρ1 }))
    (hl : (as.flatMap fun a => (bs a).map (g a)).length ≤ line) : ev call (.lc2 vs e tg it [] vs1 tg1 it1 []) s = .ok (.lst (as.flatMap fun a => (bs a).map (g a)), s) := by
  unfold ev
  rw [bind_ok _ hi]
  dsimp only
  rw [if_neg (by rw [ho]; exact Bool.false_ne_true)]
  have same : ∀ {t : St} {ρ : List Slot}, t.F = s.F → ({ t with ρ := ρ } : St) = { s with ρ := ρ } := fun {t ρ} ht => by
    cases t; cases s; simp only at ht; simp [ht]
  obtain ⟨s', ⟨h2, h3⟩, e1⟩ := lcLoops_mapf (f := lc2Turn vs tg (evs call []) (evI call it1) (lcTurn vs1 tg1 (evs call []) (ev call e))) (I := fun t => wipeS t.ρ vs = wipeS s.ρ vs ∧ t.F = s.F) (h := h) (g := fun a => (bs a).map (g a)) (as := as) (fun a ha t ⟨t1, t2⟩ => by
    obtain ⟨ρ, a1, a2, a3, a4⟩ := hb a ha
    obtain ⟨t', ⟨b1, b2, b3⟩, b4⟩ := lcLoop_mapf (f := lcTurn vs1 tg1 (evs call []) (ev call e)) (I := fun u => wipeS u.ρ vs1 = wipeS ρ vs1 ∧ wipeS u.ρ vs = wipeS s.ρ vs ∧ u.F = s.F) (h := h1) (g := g a) (as := bs a) (fun b hbb u ⟨u1, u2, u3⟩ => by
      obtain ⟨ρ1, c1, c2, c3, c4⟩ := a4 b hbb
      refine ⟨{ s with ρ := ρ1 }, ⟨c2, c3, rfl⟩, ?_⟩
      unfold lcTurn
      rw [u1, c1, Res.of_some, Res.bind_ok, same u3]
      simp [guardB, boolOf, c4]) { s with ρ := ρ } ⟨rfl, a2, rfl⟩
    refine ⟨t', ⟨b2, b3⟩, ?_⟩
    unfold lc2Turn
    rw [t1, a1, Res.of_some, Res.bind_ok, same t2]
    simp [guardB, boolOf, a3, b4]) s ⟨rfl, rfl⟩
  rw [bind_ok _ e1]
  dsimp only
  rw [if_pos hl, pb_same h2]
  cases s'
  cases s
  simp only at h3
  simp [h3]
end
end NW
set_option autoImplicit false
set_option linter.all false
set_option maxRecDepth 100000
/-! NwFeed: the drawn feed. -/
namespace NW
/-- cell n is a feed that at most B draws were taken from -/
def Feed (F : List Cell) (n B : Nat) : Prop := ∃ a b c : Int, F[n]? = some (.lst [.int a, .int b, .int c]) ∧ 0 ≤ b ∧ b < 10 ^ 41 ∧ 0 ≤ c ∧ c ≤ B
theorem Feed.mono {F : List Cell} {n B B' : Nat} (h : Feed F n B) (hb : B ≤ B') : Feed F n B' := by
  obtain ⟨a, b, c, h1, h2, h3, h4, h5⟩ := h
  exact ⟨a, b, c, h1, h2, h3, h4, by omega⟩
theorem sub_feed {F : List Cell} {n : Nat} {a b c : Int} (h : F[n]? = some (.lst [.int a, .int b, .int c])) : subD F (.mref n) (.int 0) = some (.int a) ∧ subD F (.mref n) (.int 1) = some (.int b) ∧ subD F (.mref n) (.int 2) = some (.int c) := by
  refine ⟨?_, ?_, ?_⟩ <;> (simp only [subD, h]; rfl)
theorem set_0 (a b c : D) (x : D) : setCell (.lst [a, b, c]) (.int 0) x = some (.lst [x, b, c]) := rfl
theorem set_2 (a b c : D) (x : D) : setCell (.lst [a, b, c]) (.int 2) x = some (.lst [a, b, x]) := rfl
theorem m_ok {i j : Int} (h : mulOk i j = true) : binD .mul (.int i) (.int j) = some (.int (i * j)) := by
  show (if mulOk i j then _ else _) = _
  rw [if_pos h]
theorem m_left {i j : Int} (h1 : -(2 ^ 64) < i) (h2 : i < 2 ^ 64) : mulOk i j = true := by
  unfold mulOk
  rw [decide_eq_true h1, decide_eq_true h2]
  simp
theorem m_wide {i j : Int} (h1 : i.natAbs < 2 ^ 1000) (h2 : j.natAbs < 2 ^ 1000) : mulOk i j = true := by
  unfold mulOk
  rw [decide_eq_true h1, decide_eq_true h2]
  simp
theorem d_mod {i j : Int} (h : 0 < j) : binD .mod (.int i) (.int j) = some (.int (i % j)) := by
  show (if 0 < j then _ else _) = _
  rw [if_pos h]
theorem d_fdiv {i j : Int} (h : 0 < j) (h2 : j.natAbs < 2 ^ 1000) : binD .fdiv (.int i) (.int j) = some (.int (i / j)) := by
  show (if 0 < j ∧ _ then _ else _) = _
  rw [if_pos ⟨h, h2⟩]
theorem d_pow {i j : Int} (h : 0 ≤ j) (h1 : j ≤ 1000) (h2 : i.natAbs < 2 ^ 64) : binD .pow (.int i) (.int j) = some (.int (i ^ j.toNat)) := by
  show (if 0 ≤ j ∧ _ then _ else _) = _
  rw [if_pos ⟨h, h1, h2⟩]
def c_draw (p q r t : Int) : Code := ⟨2, 4, [.ife (.cmp .gt (.sub (.var 0) (.con (.int 0))) (.con (.int 0))) [.set 3 (.bin .mod (.bi .int [.sub (.var 0) (.con (.int 0))]) (.var 1)), .setc (.var 0) (.con (.int 0)) (.bin .fdiv (.sub (.var 0) (.con (.int 0))) (.var 1)), .ret (.var 3)] [],
  .setc (.var 0) (.con (.int 2)) (.bin .add (.sub (.var 0) (.con (.int 2))) (.con (.int 1))), .set 2 (.bin .add (.sub (.var 0) (.con (.int 1))) (.bin .mul (.con (.int p)) (.sub (.var 0) (.con (.int 2))))),
  .set 2 (.bin .mod (.bi .int [.bin .add (.bin .add (.bin .mul (.bin .mul (.var 2) (.var 2)) (.var 2)) (.bin .mul (.con (.int q)) (.sub (.var 0) (.con (.int 2))))) (.con (.int r))]) (.bin .add (.bin .pow (.con (.int 10)) (.con (.int 41))) (.con (.int 81)))),
  .set 2 (.bin .mod (.bi .int [.bin .add (.bin .mul (.var 2) (.var 2)) (.con (.int t))]) (.bin .add (.bin .pow (.con (.int 10)) (.con (.int 38))) (.con (.int 133)))),
  .ret (.bin .mod (.bi .int [.bin .fdiv (.var 2) (.bin .pow (.con (.int 10)) (.con (.int 9)))]) (.var 1))]⟩
theorem nat_lt {i : Int} {k : Nat} (h0 : 0 ≤ i) (h : i < 2 ^ k) : i.natAbs < 2 ^ k := by
  have : ((i.natAbs : Nat) : Int) < ((2 ^ k : Nat) : Int) := by
    rw [Int.natAbs_of_nonneg h0]
    exact_mod_cast h
  exact_mod_cast this
set_option simprocs false in
theorem draw_run {Φ : Nat → Option Code} {W f k : Nat} {p q r t a b c m z y : Int} {F : List Cell} {n : Nat} (hf : Φ f = some (c_draw p q r t)) (h1 : F[n]? = some (.lst [.int a, .int b, .int c])) (hn : n < F.length) (ha : ¬ 0 < a) (hz : b + p * (c + 1) = z) (hy : (z * z * z + q * (c + 1) + r) % (10 ^ 41 + 81) = y) (hm : 0 < m)
    (w1 : mulOk p (c + 1) = true) (w2 : mulOk q (c + 1) = true) (w3 : mulOk z z = true) (w4 : mulOk (z * z) z = true) (w5 : mulOk y y = true) :
    callN Φ W (k + 1) f [.mref n, .int m] F = .ok (.int ((y * y + t) % (10 ^ 38 + 133) / 10 ^ 9 % m)) false (F.set n (.lst [.int a, .int b, .int (c + 1)])) := by
  rw [call_eq hf _ _ rfl]
  obtain ⟨s0, s1, s2⟩ := sub_feed h1
  have h1' : (F.set n (.lst [.int a, .int b, .int (c + 1)]))[n]? = some (.lst [.int a, .int b, .int (c + 1)]) := by simp [hn]
  obtain ⟨t0, t1, t2⟩ := sub_feed h1'
  have q1 : binD .pow (.int 10) (.int 41) = some (.int (10 ^ 41)) := d_pow (by decide) (by decide) (by decide)
  have q2 : binD .pow (.int 10) (.int 38) = some (.int (10 ^ 38)) := d_pow (by decide) (by decide) (by decide)
  have q3 : binD .pow (.int 10) (.int 9) = some (.int (10 ^ 9)) := d_pow (by decide) (by decide) (by decide)
  have q4 : binD .mod (.int (z * z * z + q * (c + 1) + r)) (.int (10 ^ 41 + 81)) = some (.int y) := by rw [d_mod (by decide), hy]
  have q5 : binD .mod (.int (y * y + t)) (.int (10 ^ 38 + 133)) = some (.int ((y * y + t) % (10 ^ 38 + 133))) := d_mod (by decide)
  have q6 : binD .fdiv (.int ((y * y + t) % (10 ^ 38 + 133))) (.int (10 ^ 9)) = some (.int ((y * y + t) % (10 ^ 38 + 133) / 10 ^ 9)) := d_fdiv (by decide) (by decide)
  have dm : ∀ x, binD .mod (.int x) (.int m) = some (.int (x % m)) := fun x => d_mod hm
  simp [c_draw, enter, s0, ha, s2, h1, set_2, t0, t1, t2, m_ok w1, m_ok w2, m_ok w3, m_ok w4, m_ok w5, hz, q1, q2, q3, q4, q5, q6, dm]
theorem draw_go {Φ : Nat → Option Code} {W f k : Nat} {p q r t : Int} (hf : Φ f = some (c_draw p q r t)) (hp : 0 ≤ p ∧ p < 2 ^ 40) (hq : 0 ≤ q ∧ q < 2 ^ 40) {F : List Cell} {n B : Nat} (h : Feed F n B) (hB : B ≤ 10 ^ 9) {m : Int} (hm : 0 < m) (hm2 : m < 2 ^ 900) :
    ∃ x F', callN Φ W (k + 1) f [.mref n, .int m] F = .ok (.int x) false F' ∧ 0 ≤ x ∧ x < m ∧ Feed F' n (B + 1) := by
  obtain ⟨a, b, c, h1, h2, h3, h4, h5⟩ := h
  obtain ⟨s0, s1, s2⟩ := sub_feed h1
  have hn : n < F.length := (List.getElem?_eq_some_iff.mp h1).1
  rw [call_eq hf _ _ rfl]
  have hm3 : m.natAbs < 2 ^ 1000 := by
    have : m < 2 ^ 1000 := Int.lt_trans hm2 (by decide)
    exact nat_lt (by omega) this
  by_cases ha : 0 < a
  · refine ⟨a % m, F.set n (.lst [.int (a / m), .int b, .int c]), ?_, Int.emod_nonneg _ (by omega), Int.emod_lt_of_pos _ hm, ⟨a / m, b, c, by simp [hn], h2, h3, h4, by omega⟩⟩
    simp [c_draw, enter, s0, ha, d_mod hm, d_fdiv hm hm3, h1, set_0]
  · let F1 := F.set n (.lst [.int a, .int b, .int (c + 1)])
    have h1' : F1[n]? = some (.lst [.int a, .int b, .int (c + 1)]) := by simp [F1, hn]
    obtain ⟨t0, t1, t2⟩ := sub_feed h1'
    have hc : 0 ≤ c + 1 ∧ c + 1 ≤ 10 ^ 9 + 1 := by omega
    have pc : 0 ≤ p * (c + 1) ∧ p * (c + 1) ≤ 2 ^ 40 * (10 ^ 9 + 1) := ⟨Int.mul_nonneg hp.1 hc.1, Int.mul_le_mul (by omega) hc.2 hc.1 (by decide)⟩
    have z0 : 0 ≤ b + p * (c + 1) := by omega
    have z1 : b + p * (c + 1) < 2 ^ 200 := by omega
    generalize hz : b + p * (c + 1) = z at z0 z1
    have w1 : mulOk p (c + 1) = true := m_left (by omega) (by omega)
    have w2 : mulOk q (c + 1) = true := m_left (by omega) (by omega)
    have w3 : mulOk z z = true := m_wide (nat_lt z0 (Int.lt_trans z1 (by decide))) (nat_lt z0 (Int.lt_trans z1 (by decide)))
    have zz : 0 ≤ z * z ∧ z * z < 2 ^ 400 := ⟨Int.mul_nonneg z0 z0, by
      have : z * z ≤ (2 ^ 200 - 1) * (2 ^ 200 - 1) := Int.mul_le_mul (by omega) (by omega) z0 (by decide)
      exact Int.lt_of_le_of_lt this (by decide)⟩
    have w4 : mulOk (z * z) z = true := m_wide (nat_lt zz.1 (Int.lt_trans zz.2 (by decide))) (nat_lt z0 (Int.lt_trans z1 (by decide)))
    have p41 : (0 : Int) < 10 ^ 41 + 81 := by decide
    have p38 : (0 : Int) < 10 ^ 38 + 133 := by decide
    have p9 : (0 : Int) < 10 ^ 9 := by decide
    let y := (z * z * z + q * (c + 1) + r) % (10 ^ 41 + 81)
    have y0 : 0 ≤ y := Int.emod_nonneg _ (by decide)
    have y1 : y < 2 ^ 200 := Int.lt_trans (Int.emod_lt_of_pos _ p41) (by decide)
    have w5 : mulOk y y = true := m_wide (nat_lt y0 (Int.lt_trans y1 (by decide))) (nat_lt y0 (Int.lt_trans y1 (by decide)))
    refine ⟨(y * y + t) % (10 ^ 38 + 133) / 10 ^ 9 % m, F1, ?_, Int.emod_nonneg _ (by omega), Int.emod_lt_of_pos _ hm, ⟨a, b, c + 1, h1', h2, h3, by omega, by omega⟩⟩
    rw [← call_eq hf [.mref n, .int m] F rfl]
    exact draw_run hf h1 hn ha hz rfl hm w1 w2 w3 w4 w5
end NW
set_option autoImplicit false
set_option linter.all false
set_option maxRecDepth 100000
/-! NwLib: a law's table holds the common defs at their numbers. -/
namespace NW
open PySem
/-- the turns that a while loop may take -/
def WW : Nat := 1000000
def c_feed (a b m c e g : Int) : Code := ⟨2, 3, [.set 2 (.bin .add (.bin .mul (.con (.int a)) (.var 1)) (.bin .mul (.con (.int b)) (.bi .sum [.slc (.var 0) [] [.con (.int m)]]))), .ife (.cmp .lt (.var 1) (.bi .len [.var 0])) [.set 2 (.sub (.var 0) (.var 1))] [],
  .reto (.lst [.bi .max2 [.con (.int 0), .bin .sub (.var 2) (.bin .pow (.con (.int 10)) (.con (.int 18)))], .bin .mod (.bi .int [.bin .add (.bin .add (.bin .mul (.var 2) (.con (.int c))) (.bin .mul (.con (.int e)) (.var 1))) (.con (.int g))]) (.bin .add (.bin .pow (.con (.int 10)) (.con (.int 40))) (.con (.int 121))), .con (.int 0)])]⟩
class Lib (Φ : Nat → Option Code) : Prop where
  has : ∀ n c, libL[n]? = some c → Φ n = some c
class Drw (Φ : Nat → Option Code) : Prop where
  exD : ∃ p q r t : Int, 0 ≤ p ∧ p < 2 ^ 40 ∧ 0 ≤ q ∧ q < 2 ^ 40 ∧ Φ N._law_draw = some (c_draw p q r t)
class Fee (Φ : Nat → Option Code) : Prop where
  exF : ∃ a b m c e g : Int, (0 ≤ a ∧ a < 2 ^ 40) ∧ (0 ≤ b ∧ b < 2 ^ 40) ∧ (0 ≤ m ∧ m ≤ 1000) ∧ (0 ≤ c ∧ c < 2 ^ 40) ∧ (0 ≤ e ∧ e < 2 ^ 40) ∧ Φ N._law_feed = some (c_feed a b m c e g)
theorem lib_has {Φ : Nat → Option Code} [h : Lib Φ] {n : Nat} {c : Code} (e : libL[n]? = some c) : Φ n = some c := h.has n c e
end NW
set_option autoImplicit false
set_option linter.all false
set_option maxRecDepth 100000
namespace NW.K03
open PySem NW
def c__law_draw : Code := c_draw 179424673 67867967 29 982451653
def c__law_feed : Code := c_feed 3037 23 3 89 41 47
def N._law_all_ways : Nat := 902
def N._law_right : Nat := 903
def N.law : Nat := 904
def c__law_all_ways : Code := ⟨2, 7, [.own 2 (.lst []), .for (.t [.v 3, .t [.v 4, .v 5]]) (.enum (.var 1)) [.ex (.ext 2 (.lc [6] (.tup [.var 3, .var 6]) (.v 6) (.it (.call N._law_rows [.rngL (.sub (.var 0) (.con (.int 0))), .var 4])) []))], .ret (.var 2)]⟩
def c__law_right : Code := ⟨1, 20, [.set 1 (.tup [.tup [.con (.int 0), .tup [.tup []]]]), .set 2 (.call N._law_kinds [.var 0, .bin .add (.con (.int 1)) (.call N._law_draw [.var 0, .con (.int 3)]), .con (.int 3), .con (.int 0)]), .set 3 (.bi .tuple [.call N._law_mixed [.var 0, .bin .add (.var 1) (.call N._law_kinds [.var 0, .call N._law_draw [.var 0, .con (.int 3)], .con (.int 3), .con (.int 0)])]]), .set 4 (.lc [10] (.call N._law_ways [.var 10, .var 3]) (.v 10) (.it (.var 2)) []), .for (.t [.v 9, .v 10]) (.enum (.var 2)) [.for (.v 11) (.it (.call N._law_all_ways [.var 10, .var 3])) [.own 12 (.lc [15] (.call N._law_one [.var 0, .var 15]) (.v 15) (.it (.var 4)) []), .seti 12 (.var 9) (.var 11), .set 13 (.cmp .inn (.var 11) (.sub (.var 4) (.var 9))), .ife (.cmp .eq (.call N._law_draw [.var 0, .con (.int 4)]) (.con (.int 0))) [.set 14 (.call N._law_draw [.var 0, .bi .len [.var 2]]), .seti 12 (.var 14) (.call N._law_one [.var 0, .call N._law_all_ways [.sub (.var 2) (.var 14), .var 3]]), .set 13 (.cmp .eq (.lc [17, 15] (.con (.int 1)) (.t [.v 17, .v 15]) (.zip (.var 12) (.var 4)) [.cmp .nin (.var 17) (.var 15)]) (.lst []))] [], .ife (.not (.call N._law_same [.call N.is_map [.var 2, .var 3, .cpO .tuple 12], .var 13])) [.ret (.con (.bl false))] []]], .set 5 (.bi .tuple [.call N._law_mixed [.var 0, .bin .add (.var 1) (.call N._law_kinds [.var 0, .call N._law_draw [.var 0, .con (.int 2)], .con (.int 3), .con (.int 0)])]]), .set 6 (.bi .tuple [.lc [15] (.call N._law_one [.var 0, .var 15]) (.v 15) (.it (.var 4)) []]), .set 7 (.bi .tuple [.lc [10] (.call N._law_one [.var 0, .call N._law_ways [.var 10, .var 5]]) (.v 10) (.it (.var 3)) []]), .own 8 (.lst [.call N.is_map [.var 3, .var 5, .var 7], .callk N.is_map [] [2, 1, 0] [.call N._law_behind [.var 5, .var 6, .var 7], .var 5, .var 2]]), .ex (.app 8 (.call N.is_map [.var 2, .var 2, .bi .tuple [.lc [16, 18, 19] (.tup [.var 16, .rngT (.var 18)]) (.t [.v 16, .t [.v 18, .v 19]]) (.enum (.var 2)) []]])), .ex (.ext 8 (.lst [.call N.is_map [.tup [], .var 3, .tup []], .call N.is_map [.tup [], .tup [], .tup []], .call N.is_map [.var 2, .tup [], .bin .mul (.tup [.tup [.con (.int 0), .tup []]]) (.bi .len [.var 2])], .call N.is_map [.tup [], .var 3, .tup [.tup [.con (.int 0), .tup []]]]])), .ret (.call N._law_same [.var 8, .lst [.con (.bl true), .con (.bl true), .con (.bl true), .con (.bl true), .con (.bl true), .con (.bl false), .con (.bl false)]])]⟩
def c_law : Code := ⟨1, 2, [.for (.v 1) (.rng (.bi .max2 [.con (.int 1), .bi .min2 [.bi .len [.var 0], .con (.int 2)]])) [.ife (.not (.call N._law_right [.cell (.callo N._law_feed [.var 0, .var 1])])) [.ret (.con (.bl false))] []], .ret (.con (.bl true))]⟩
def ownL : List Code := [c__law_draw, c__law_feed, c__law_all_ways, c__law_right, c_law]
/-- a table that holds the law's own defs, too -/
class Own (Φ : Nat → Option Code) : Prop extends Lib Φ, Drw Φ, Fee Φ where
  own : ∀ n c, (if n < 900 then none else ownL[n - 900]?) = some c → Φ n = some c
theorem own_has {Φ : Nat → Option Code} [h : Own Φ] {n : Nat} {c : Code} (e : (if n < 900 then none else ownL[n - 900]?) = some c) : Φ n = some c := h.own n c e
def Phi : Nat → Option Code := fun n => if n < 900 then libL[n]? else ownL[n - 900]?
instance : Own Phi where
  has := fun n c h => by
    unfold Phi
    rw [if_pos (Nat.lt_of_lt_of_le (List.getElem?_eq_some_iff.mp h).1 (by decide))]
    exact h
  toDrw := ⟨⟨179424673, 67867967, 29, 982451653, by decide, by decide, by decide, by decide, rfl⟩⟩
  toFee := ⟨⟨3037, 23, 3, 89, 41, 47, by decide, by decide, by decide, by decide, by decide, rfl⟩⟩
  own := fun n c h => by
    unfold Phi
    by_cases z : n < 900
    · rw [if_pos z] at h; cases h
    · rw [if_neg z] at h ⊢; exact h
end NW.K03
set_option autoImplicit false
set_option linter.all false
set_option maxRecDepth 100000
/-! NwS1: what k02's defs compute. -/
namespace NW
open PySem
variable {Φ : Nat → Option Code} {W : Nat} [Lib Φ]

/-- a row of ints -/
def R (xs : List Int) : D := .tup (xs.map .int)
/-- rows -/
def RR (xss : List (List Int)) : D := .tup (xss.map R)
/-- the row turned -/
def tr (t rs : List Int) : List Int := t.map fun a => rs.getD a.toNat 0

theorem is_integer_eq (n : Nat) (lo hi i : Int) (F : List Cell) : callN Φ W (n + 1) N.is_integer [.int i, .int lo, .int hi] F = .ok (.bl (decide (lo ≤ i) && decide (i ≤ hi))) false F := by
  rw [call_eq (c := c_is_integer) (lib_has rfl) _ _ rfl]
  simp [c_is_integer, enter, Ty.is, Ty.plain]
  by_cases h1 : lo ≤ i <;> simp [h1]
theorem atD_nn {α : Type} {xs : List α} {a : Int} (h0 : 0 ≤ a) (h1 : a < xs.length) : atD xs a = some (xs[a.toNat]'(by omega)) := by
  unfold atD ixD
  rw [if_pos h0, if_pos h1]
  simp
theorem sub_R {xs : List Int} {a : Int} (h0 : 0 ≤ a) (h1 : a < xs.length) (F : List Cell) : subD F (R xs) (.int a) = some (.int (xs.getD a.toNat 0)) := by
  show atD (xs.map D.int) a = _
  rw [atD_nn h0 (by rw [List.length_map]; exact h1)]
  rw [List.getElem_map, List.getD_eq_getElem?_getD, List.getElem?_eq_getElem (by omega)]
  rfl
theorem turned_gen {f : Nat} (hf : Φ f = some c_turned_by) (n : Nat) (t rs : List Int) (F : List Cell) (h : ∀ a ∈ t, 0 ≤ a ∧ a < rs.length) (hl : t.length ≤ line) : callN Φ W (n + 1) f [R t, R rs] F = .ok (R (tr t rs)) false F := by
  rw [call_eq hf _ _ rfl]
  have e : ev (callN Φ W n) (.lc [2] (.sub (.var 1) (.var 2)) (.v 2) (.it (.var 0)) []) ⟨[.val (R t), .val (R rs), .no], F⟩ = .ok (.lst (t.map fun a => .int (rs.getD a.toNat 0)), ⟨[.val (R t), .val (R rs), .no], F⟩) := by
    refine lc_mapf (as := t) (h := D.int) ?_ ?_ (fun a ha => ?_) hl
    · simp [evI, R, itemsOf]
    · simp [hasOwn, ownOf]
    · obtain ⟨h0, h1⟩ := h a ha
      exact ⟨[.val (R t), .val (R rs), .val (.int a)], by simp [assignTg, wipeS], by simp [wipeS], by simp [sub_R h0 h1]⟩
  simp [c_turned_by, enter, e]
  simp [tr, R, Function.comp_def]
theorem turned_eq (n : Nat) (t rs : List Int) (F : List Cell) (h : ∀ a ∈ t, 0 ≤ a ∧ a < rs.length) (hl : t.length ≤ line) : callN Φ W (n + 1) N.turned_by [R t, R rs] F = .ok (R (tr t rs)) false F := turned_gen (lib_has rfl) n t rs F h hl
theorem lturned_eq (n : Nat) (t rs : List Int) (F : List Cell) (h : ∀ a ∈ t, 0 ≤ a ∧ a < rs.length) (hl : t.length ≤ line) : callN Φ W (n + 1) N._law_turned [R t, R rs] F = .ok (R (tr t rs)) false F := turned_gen (lib_has rfl) n t rs F h hl
end NW
set_option autoImplicit false
set_option linter.all false
set_option maxRecDepth 100000
/-! NwS2: k02's tests of rows and groups. -/
namespace NW
open PySem
variable {Φ : Nat → Option Code} {W : Nat} [Lib Φ]

/-- 0, 1, .. -/
def rng (m : Int) : List Int := (List.range m.toNat).map fun (i : Nat) => (i : Int)
theorem rngD_R (m : Int) : D.tup (rngD 0 m) = R (rng m) := by
  unfold rngD R rng
  simp [Function.comp_def]
theorem still_eq (n : Nat) (m : Int) (F : List Cell) (h : rngOk 0 m = true) : callN Φ W (n + 1) N.still [.int m] F = .ok (R (rng m)) false F := by
  rw [call_eq (c := c_still) (lib_has rfl) _ _ rfl]
  simp [c_still, enter, h, rngD_R]
/-- is it a row of unlike ints in the bounds -/
def unl (lo hi : Int) (xs : List Int) : Bool := xs.all (fun x => decide (lo ≤ x) && decide (x ≤ hi)) && decide xs.Nodup
theorem blsOf_map {α : Type} (as : List α) (f : α → Bool) : blsOf (as.map fun a => .bl (f a)) = some (as.map f) := by
  induction as with
  | nil => rfl
  | cons a as ih => simp [blsOf, ih]
theorem is_row_unlike_eq (n : Nat) (lo hi : Int) (xs : List Int) (F : List Cell) (hl : xs.length ≤ line) : callN Φ W (n + 2) N.is_row_unlike [R xs, .int lo, .int hi] F = .ok (.bl (unl lo hi xs)) false F := by
  rw [call_eq (c := c_is_row_unlike) (lib_has rfl) _ _ rfl]
  have e1 : ev (callN Φ W (n + 1)) (.lc [3] (.call N.is_integer [.var 3, .var 1, .var 2]) (.v 3) (.it (.var 0)) []) ⟨[.val (R xs), .val (.int lo), .val (.int hi), .no], F⟩ = .ok (.lst (xs.map fun x => .bl (decide (lo ≤ x) && decide (x ≤ hi))), ⟨[.val (R xs), .val (.int lo), .val (.int hi), .no], F⟩) := by
    refine lc_mapf (as := xs) (h := D.int) ?_ ?_ (fun a ha => ?_) hl
    · simp [evI, R, itemsOf]
    · simp [hasOwn, ownOf]
    · exact ⟨[.val (R xs), .val (.int lo), .val (.int hi), .val (.int a)], by simp [assignTg, wipeS], by simp [wipeS], by simp [callR, is_integer_eq]⟩
  obtain ⟨ds, e2⟩ := dci_mapf (call := callN Φ W (n + 1)) (vs := [3]) (k := .var 3) (e := .con (.bl true)) (tg := .v 3) (it := .it (.var 0)) (s := ⟨[.val (R xs), .val (.int lo), .val (.int hi), .no], F⟩) (as := xs) (h := D.int) (ky := fun x => x) (vd := fun _ => .bl true)
    (by simp [evI, R, itemsOf]) (by simp [hasOwn, ownOf]) (fun a ha => ⟨[.val (R xs), .val (.int lo), .val (.int hi), .val (.int a)], by simp [assignTg, wipeS], by simp [wipeS], by simp, by simp⟩) hl
  simp only [List.map_id'] at e2
  have e3 : lenD (R xs) = some xs.length := by simp [R]
  have e4 : D.isiOk (R xs) = true := rfl
  have e5 : Ty.tuple.is (R xs) = true := rfl
  cases h1 : xs.all (fun x => decide (lo ≤ x) && decide (x ≤ hi)) with
  | true =>
    simp [c_is_row_unlike, enter, e1, e4, e5, Ty.plain, blsOf_map, e2, e3, h1, unl]
    have := foldK_len0 xs
    rw [← this]
    omega
  | false => simp [c_is_row_unlike, enter, e1, e4, e5, Ty.plain, blsOf_map, e2, e3, h1, unl]
end NW
set_option autoImplicit false
set_option linter.all false
set_option maxRecDepth 100000
/-! NwS3: is_group_form. -/
namespace NW
open PySem
variable {Φ : Nat → Option Code} {W : Nat} [Lib Φ]

theorem R_inj {a b : List Int} (h : R a = R b) : a = b := by
  unfold R at h
  injection h with h
  exact List.map_inj_right (fun x y e => by injection e) |>.mp h
theorem das_ints (n : Nat) : ∀ xs : List Int, D.das n (xs.map D.int) = true
  | [] => by simp [D.das]
  | x :: xs => by simp [D.das, D.da, das_ints n xs]
theorem pls_ints (n : Nat) : ∀ xs : List Int, D.pls n (xs.map D.int) = true
  | [] => by simp [D.pls]
  | x :: xs => by simp [D.pls, D.pl, pls_ints n xs]
@[simp] theorem da_R (n : Nat) (xs : List Int) : D.da (n + 1) (R xs) = true := by simp [R, D.da, das_ints]
@[simp] theorem pl_R (n : Nat) (xs : List Int) : D.pl (n + 1) (R xs) = true := by simp [R, D.pl, pls_ints]
@[simp] theorem keyT_R (xs : List Int) : keyT (R xs) = true := pl_R 7 xs
@[simp] theorem isi_R (xs : List Int) : D.isiOk (R xs) = true := rfl
@[simp] theorem isi_RR (xs : List (List Int)) : D.isiOk (RR xs) = true := rfl
@[simp] theorem len_R (xs : List Int) : lenD (R xs) = some xs.length := by simp [R]
@[simp] theorem len_RR (xs : List (List Int)) : lenD (RR xs) = some xs.length := by simp [RR]
theorem eqvs_ints : ∀ a b : List Int, D.eqvs (a.map D.int) (b.map D.int) = decide (a = b)
  | [], [] => by simp [D.eqvs]
  | [], _ :: _ => by simp [D.eqvs]
  | _ :: _, [] => by simp [D.eqvs]
  | x :: a, y :: b => by
    simp only [List.map_cons, D.eqvs, D.eqv, eqvs_ints a b]
    rw [Bool.eq_iff_iff]
    simp
theorem eqv_R (a b : List Int) : D.eqv (R a) (R b) = decide (a = b) := by
  show D.eqvs _ _ = _
  exact eqvs_ints a b
theorem ords_ints : ∀ a b : List Int, D.ords (a.map D.int) (b.map D.int) = true
  | [], b => by simp [D.ords]
  | _ :: _, [] => by simp [D.ords]
  | x :: a, y :: b => by simp [D.ords, D.ord, ords_ints a b]
theorem ord_R (a b : List Int) : D.ord (R a) (R b) = true := ords_ints a b
@[simp] theorem cmp_lt_R (a b : List Int) : cmpD .lt (R a) (R b) = some (D.lt (R a) (R b)) := by
  show ltD _ _ = _
  unfold ltD
  simp [ord_R]
@[simp] theorem cmp_ge_R (a b : List Int) : cmpD .ge (R a) (R b) = some (!D.lt (R a) (R b)) := by
  show (ltD _ _).map _ = _
  unfold ltD
  simp [ord_R]
@[simp] theorem cmp_ne_R (a b : List Int) : cmpD .ne (R a) (R b) = some (!decide (a = b)) := by
  show (eqD _ _).map _ = _
  unfold eqD
  simp [eqv_R]
@[simp] theorem cmp_eq_R (a b : List Int) : cmpD .eq (R a) (R b) = some (decide (a = b)) := by
  show eqD _ _ = _
  unfold eqD
  simp [eqv_R]
theorem in_there (x : List Int) (rows : List (List Int)) (ds : List D) : cmpD .inn (R x) (.dct ((rows.map R).foldl addK []) ds) = some (decide (x ∈ rows)) := by
  show (if keyT (R x) then some (decide (R x ∈ (rows.map R).foldl addK [])) else none) = _
  rw [if_pos (keyT_R x)]
  congr 1
  rw [Bool.eq_iff_iff, decide_eq_true_eq, decide_eq_true_eq, foldK_mem]
  constructor
  · rintro (h | h)
    · simp at h
    · obtain ⟨y, hy, e⟩ := List.mem_map.mp h
      rw [← R_inj e]; exact hy
  · intro h
    exact .inr (List.mem_map.mpr ⟨x, h, rfl⟩)
/-- a turning of m -/
def turn (m : Int) (xs : List Int) : Bool := unl 0 (m - 1) xs && decide ((xs.length : Int) = m)
theorem is_turning_eq (n : Nat) (m : Int) (xs : List Int) (F : List Cell) (hl : xs.length ≤ line) : callN Φ W (n + 3) N.is_turning_form [R xs, .int m] F = .ok (.bl (turn m xs)) false F := by
  rw [call_eq (c := c_is_turning_form) (lib_has rfl) _ _ rfl]
  have e := is_row_unlike_eq (Φ := Φ) (W := W) n 0 (m - 1) xs F hl
  cases h : unl 0 (m - 1) xs <;> (rw [h] at e; simp [c_is_turning_form, enter, callR, e, turn, h])
/-- each row ahead of the next one -/
def asc (rows : List (List Int)) : Bool := (rows.zip rows.tail).all fun p => D.lt (R p.1) (R p.2)
def closed (rows : List (List Int)) : Bool := rows.all fun a => rows.all fun b => decide (tr a b ∈ rows)
/-- a group of turnings of m -/
def gf (m : Int) (rows : List (List Int)) : Bool := decide (1 ≤ rows.length) && decide (rows.length ≤ 120) && rows.all (turn m) && decide (rows.head? = some (rng m)) && asc rows && closed rows
theorem turn_mem {m : Int} {a b : List Int} (ha : turn m a = true) (hb : turn m b = true) : ∀ x ∈ a, 0 ≤ x ∧ x < b.length := by
  unfold turn unl at ha hb
  simp only [Bool.and_eq_true, List.all_eq_true, decide_eq_true_eq] at ha hb
  intro x hx
  have := ha.1.1 x hx
  omega
theorem zip_rows (rows : List (List Int)) : zipD (rows.map R) (cutD (rows.map R) (some 1) none) = (rows.zip rows.tail).map fun p => .tup [R p.1, R p.2] := by
  have e : cutD (rows.map R) (some 1) none = rows.tail.map R := by
    cases rows with
    | nil => rfl
    | cons r rows =>
      unfold cutD endD
      simp
      apply List.take_of_length_le
      simp
  rw [e]
  unfold zipD
  rw [List.zip_map, List.map_map]
  rfl
theorem all_flat (rows : List (List Int)) (p : List Int → List Int → Bool) : blsOf (rows.flatMap fun a => rows.map fun b => .bl (p a b)) = some (rows.flatMap fun a => rows.map (p a)) := by
  have : (rows.flatMap fun a => rows.map fun b => D.bl (p a b)) = (rows.flatMap fun a => rows.map (p a)).map D.bl := by
    rw [List.map_flatMap]
    simp [Function.comp_def]
  rw [this]
  have := blsOf_map (rows.flatMap fun a => rows.map (p a)) id
  simpa using this
theorem is_group_eq (n : Nat) (m : Int) (rows : List (List Int)) (F : List Cell) (hm : rngOk 0 m = true) (hl : ∀ r ∈ rows, r.length ≤ line) : callN Φ W (n + 4) N.is_group_form [.int m, RR rows] F = .ok (.bl (gf m rows)) false F := by
  rw [call_eq (c := c_is_group_form) (lib_has rfl) _ _ rfl]
  have t5 : Ty.tuple.is (RR rows) = true := rfl
  by_cases h0 : ¬ (1 ≤ rows.length)
  · have : ¬ ((1 : Int) ≤ rows.length) := by omega
    simp [c_is_group_form, enter, t5, Ty.plain, this, gf, h0]
  have h0 : 1 ≤ rows.length := Decidable.not_not.mp h0
  have h0' : (1 : Int) ≤ rows.length := by omega
  by_cases h120 : ¬ (rows.length ≤ 120)
  · have : ¬ ((rows.length : Int) ≤ 120) := by omega
    simp [c_is_group_form, enter, t5, Ty.plain, h0', this, gf, h120]
  have h120 : rows.length ≤ 120 := Decidable.not_not.mp h120
  have h120' : (rows.length : Int) ≤ 120 := by omega
  have hlen : rows.length ≤ line := by unfold line; omega
  have e1 : ev (callN Φ W (n + 3)) (.lc [3] (.call N.is_turning_form [.var 3, .var 0]) (.v 3) (.it (.var 1)) []) ⟨[.val (.int m), .val (RR rows), .no, .no, .no], F⟩ = .ok (.lst (rows.map fun r => .bl (turn m r)), ⟨[.val (.int m), .val (RR rows), .no, .no, .no], F⟩) := by
    refine lc_mapf (as := rows) (h := R) ?_ ?_ (fun a ha => ?_) hlen
    · simp [evI, RR, itemsOf]
    · simp [hasOwn, ownOf]
    · exact ⟨[.val (.int m), .val (RR rows), .no, .val (R a), .no], by simp [assignTg, wipeS], by simp [wipeS], by simp [callR, is_turning_eq n m a F (hl a ha)]⟩
  cases h1 : rows.all (turn m) with
  | false => simp [c_is_group_form, enter, t5, Ty.plain, h0', h120', e1, blsOf_map, h1, gf]
  | true =>
  have h1' : ∀ r ∈ rows, turn m r = true := by simpa using h1
  obtain ⟨r0, rest, hr⟩ : ∃ r0 rest, rows = r0 :: rest := by
    cases rows with
    | nil => simp at h0
    | cons r0 rest => exact ⟨r0, rest, rfl⟩
  have e2 : subD F (RR rows) (.int 0) = some (R r0) := by
    rw [hr]
    show atD _ _ = _
    rw [atD_nn (by omega) (by simp)]
    rfl
  have e2' := still_eq (Φ := Φ) (W := W) (n + 2) m F hm
  have e0 : rows.head? = some r0 := by rw [hr]; rfl
  by_cases h2 : ¬ (r0 = rng m)
  · simp [c_is_group_form, enter, t5, Ty.plain, h0', h120', e1, blsOf_map, h1, gf, e2, callR, e2', h2, e0]
  have h2 : r0 = rng m := Decidable.not_not.mp h2
  have e3 : ev (callN Φ W (n + 3)) (.lc [3, 4] (.cmp .lt (.var 3) (.var 4)) (.t [.v 3, .v 4]) (.zip (.var 1) (.slc (.var 1) [.con (.int 1)] [])) []) ⟨[.val (.int m), .val (RR rows), .no, .no, .no], F⟩ = .ok (.lst ((rows.zip rows.tail).map fun p => .bl (D.lt (R p.1) (R p.2))), ⟨[.val (.int m), .val (RR rows), .no, .no, .no], F⟩) := by
    refine lc_mapf (as := rows.zip rows.tail) (h := fun p => .tup [R p.1, R p.2]) ?_ ?_ (fun a ha => ?_) (by simp; omega)
    · simp [evI, RR, optInt, zip_rows]
    · simp [hasOwn, ownOf]
    · exact ⟨[.val (.int m), .val (RR rows), .no, .val (R a.1), .val (R a.2)], by simp [assignTg, assignTgs, wipeS], by simp [wipeS], by simp⟩
  cases h3 : asc rows with
  | false =>
    unfold asc at h3
    simp [c_is_group_form, enter, t5, Ty.plain, h0', h120', e1, blsOf_map, h1, gf, e2, callR, e2', h2, e0, e3, asc, h3]
  | true =>
  have h3' := h3
  unfold asc at h3
  obtain ⟨ds, e4⟩ := dct_mapf (call := callN Φ W (n + 3)) (vs := [3]) (k := .var 3) (e := .con (.bl true)) (tg := .v 3) (it := .it (.var 1)) (s := ⟨[.val (.int m), .val (RR rows), .no, .no, .no], F⟩) (as := rows) (h := R) (ky := R) (vd := fun _ => .bl true)
    (by simp [evI, RR, itemsOf]) (by simp [hasOwn, ownOf]) (fun a ha => ⟨[.val (.int m), .val (RR rows), .no, .val (R a), .no], by simp [assignTg, wipeS], by simp [wipeS], by simp, by simp, by simp⟩) hlen
  have e5 : ev (callN Φ W (n + 3)) (.lc2 [3, 4] (.cmp .inn (.call N.turned_by [.var 3, .var 4]) (.var 2)) (.v 3) (.it (.var 1)) [] [4] (.v 4) (.it (.var 1)) []) ⟨[.val (.int m), .val (RR rows), .val (.dct ((rows.map R).foldl addK []) ds), .no, .no], F⟩ =
      .ok (.lst (rows.flatMap fun a => rows.map fun b => .bl (decide (tr a b ∈ rows))), ⟨[.val (.int m), .val (RR rows), .val (.dct ((rows.map R).foldl addK []) ds), .no, .no], F⟩) := by
    refine lc2_mapf (as := rows) (bs := fun _ => rows) (h := R) (h1 := R) (g := fun a b => .bl (decide (tr a b ∈ rows))) ?_ ?_ (fun a ha => ?_) ?_
    · simp [evI, RR, itemsOf]
    · simp [hasOwn, ownOf]
    · refine ⟨[.val (.int m), .val (RR rows), .val (.dct ((rows.map R).foldl addK []) ds), .val (R a), .no], by simp [assignTg, wipeS], by simp [wipeS], by simp [evI, RR, itemsOf], fun b hb => ?_⟩
      refine ⟨[.val (.int m), .val (RR rows), .val (.dct ((rows.map R).foldl addK []) ds), .val (R a), .val (R b)], by simp [assignTg, wipeS], by simp [wipeS], by simp [wipeS], ?_⟩
      have := turned_eq (Φ := Φ) (W := W) (n + 2) a b F (turn_mem (h1' a ha) (h1' b hb)) (hl a ha)
      simp [callR, this, in_there]
    · have : (rows.flatMap fun a => rows.map fun b => D.bl (decide (tr a b ∈ rows))).length = rows.length * rows.length := by
        rw [List.length_flatMap]
        simp [List.map_const', List.sum_replicate_nat]
      rw [this]
      have : rows.length * rows.length ≤ 120 * 120 := Nat.mul_le_mul h120 h120
      unfold line
      omega
  cases h4 : closed rows with
  | false =>
    unfold closed at h4
    simp [c_is_group_form, enter, t5, Ty.plain, h0', h120', e1, blsOf_map, h1, gf, e2, callR, e2', h2, e0, e3, h3, h3', e4, e5, all_flat, closed, h4]
  | true =>
    unfold closed at h4
    simp [c_is_group_form, enter, t5, Ty.plain, h0', h120', e1, blsOf_map, h1, gf, e2, callR, e2', h2, e0, e3, h3, h3', e4, e5, all_flat, closed, h4]
    exact ⟨h0, h120⟩
end NW
set_option autoImplicit false
set_option linter.all false
set_option maxRecDepth 100000
/-! NwS4: is_set. -/
namespace NW
open PySem
variable {Φ : Nat → Option Code} {W : Nat} [Lib Φ]

/-- a kind: how many names, its group -/
abbrev Kind := Int × List (List Int)
def KD (k : Kind) : D := .tup [.int k.1, RR k.2]
def KS (ks : List Kind) : D := .tup (ks.map KD)
def kf (k : Kind) : Bool := decide (0 ≤ k.1) && decide (k.1 ≤ 6) && gf k.1 k.2
def small (k : Kind) : Prop := ∀ r ∈ k.2, r.length ≤ line
theorem is_many_eq (n : Nat) (m : Int) (F : List Cell) : callN Φ W (n + 2) N.is_many [.int m] F = .ok (.bl (decide (0 ≤ m) && decide (m ≤ 6))) false F := by
  rw [call_eq (c := c_is_many) (lib_has rfl) _ _ rfl]
  simp [c_is_many, enter, callR, is_integer_eq]
theorem sub_0 (a b : D) (F : List Cell) : subD F (.tup [a, b]) (.int 0) = some a := rfl
theorem sub_1 (a b : D) (F : List Cell) : subD F (.tup [a, b]) (.int 1) = some b := rfl
theorem is_kind_eq (n : Nat) (k : Kind) (F : List Cell) (hs : small k) : callN Φ W (n + 5) N.is_kind_form [KD k] F = .ok (.bl (kf k)) false F := by
  rw [call_eq (c := c_is_kind_form) (lib_has rfl) _ _ rfl]
  have t5 : Ty.tuple.is (KD k) = true := rfl
  have i5 : D.isiOk (KD k) = true := rfl
  have l5 : lenD (KD k) = some 2 := rfl
  have s0 : subD F (KD k) (.int 0) = some (.int k.1) := rfl
  have s1 : subD F (KD k) (.int 1) = some (RR k.2) := rfl
  have e1 := is_many_eq (Φ := Φ) (W := W) (n + 2) k.1 F
  by_cases h0 : 0 ≤ k.1
  · by_cases h6 : k.1 ≤ 6
    · have hm : rngOk 0 k.1 = true := by unfold rngOk line; simp; omega
      have e2 := is_group_eq (Φ := Φ) (W := W) n k.1 k.2 F hm hs
      simp [c_is_kind_form, enter, t5, i5, l5, s0, s1, Ty.plain, callR, e1, h0, h6, e2, kf]
    · simp [c_is_kind_form, enter, t5, i5, l5, s0, s1, Ty.plain, callR, e1, h0, h6, kf]
  · simp [c_is_kind_form, enter, t5, i5, l5, s0, s1, Ty.plain, callR, e1, h0, kf]
def sf (ks : List Kind) : Bool := decide (ks.length ≤ 300) && ks.all kf
theorem is_set_form_eq (n : Nat) (ks : List Kind) (F : List Cell) (hs : ∀ k ∈ ks, small k) : callN Φ W (n + 6) N.is_set_form [KS ks] F = .ok (.bl (sf ks)) false F := by
  rw [call_eq (c := c_is_set_form) (lib_has rfl) _ _ rfl]
  have t5 : Ty.tuple.is (KS ks) = true := rfl
  have i5 : D.isiOk (KS ks) = true := rfl
  have l5 : lenD (KS ks) = some ks.length := by simp [KS]
  by_cases h : ks.length ≤ 300
  · have h' : ¬ ((300 : Int) < ks.length) := by omega
    have e1 : ev (callN Φ W (n + 5)) (.lc [1] (.call N.is_kind_form [.var 1]) (.v 1) (.it (.var 0)) []) ⟨[.val (KS ks), .no], F⟩ = .ok (.lst (ks.map fun k => .bl (kf k)), ⟨[.val (KS ks), .no], F⟩) := by
      refine lc_mapf (as := ks) (h := KD) ?_ ?_ (fun a ha => ?_) (by unfold line; omega)
      · simp [evI, KS, itemsOf]
      · simp [hasOwn, ownOf]
      · exact ⟨[.val (KS ks), .val (KD a)], by simp [assignTg, wipeS], by simp [wipeS], by simp [callR, is_kind_eq n a F (hs a ha)]⟩
    simp [c_is_set_form, enter, t5, i5, l5, Ty.plain, h', e1, blsOf_map, sf, h]
  · have h' : (300 : Int) < ks.length := by omega
    simp [c_is_set_form, enter, t5, i5, l5, Ty.plain, h', sf, h]
theorem is_set_eq (n : Nat) (ks : List Kind) (F : List Cell) (hs : ∀ k ∈ ks, small k) : callN Φ W (n + 7) N.is_set [KS ks] F = .ok (.bl (sf ks)) false F := by
  rw [call_eq (c := c_is_set) (lib_has rfl) _ _ rfl]
  simp [c_is_set, enter, callR, is_set_form_eq n ks F hs]

end NW
set_option autoImplicit false
set_option linter.all false
set_option maxRecDepth 100000
/-! NwS5: what is drawn. -/
namespace NW
open PySem
variable {Φ : Nat → Option Code} {W : Nat} [Lib Φ] [Drw Φ]

theorem draw (k : Nat) {F : List Cell} {n B : Nat} (h : Feed F n B) (hB : B ≤ 10 ^ 9) {m : Int} (hm : 0 < m) (hm2 : m ≤ 10 ^ 9) : ∃ x F', callN Φ W (k + 1) N._law_draw [.mref n, .int m] F = .ok (.int x) false F' ∧ 0 ≤ x ∧ x < m ∧ Feed F' n (B + 1) := by
  obtain ⟨p, q, r, t, h1, h2, h3, h4, hf⟩ := Drw.exD (Φ := Φ)
  exact draw_go hf ⟨h1, h2⟩ ⟨h3, h4⟩ h hB hm (Int.lt_of_le_of_lt hm2 (by decide))
theorem one (k : Nat) {F : List Cell} {n B : Nat} (h : Feed F n B) (hB : B ≤ 10 ^ 9) {xs : List D} (hx : xs ≠ []) (hl : xs.length ≤ line) {d : D} (hd : d = .lst xs ∨ d = .tup xs) : ∃ x ∈ xs, ∃ F', callN Φ W (k + 2) N._law_one [.mref n, d] F = .ok x false F' ∧ Feed F' n (B + 1) := by
  have h0 : 0 < (xs.length : Int) := by have := List.length_pos_iff.mpr hx; omega
  have h9 : (xs.length : Int) ≤ 10 ^ 9 := by unfold line at hl; omega
  obtain ⟨i, F', e, i0, i1, hF⟩ := draw (Φ := Φ) (W := W) k h hB h0 h9
  have hi : i.toNat < xs.length := by omega
  refine ⟨xs[i.toNat], List.getElem_mem hi, F', ?_, hF⟩
  rw [call_eq (c := c__law_one) (lib_has rfl) _ _ rfl]
  have hlen : lenD d = some xs.length := by rcases hd with rfl | rfl <;> rfl
  have hsub : subD F' d (.int i) = some xs[i.toNat] := by
    rcases hd with rfl | rfl <;> exact atD_nn i0 i1
  simp [c__law_one, enter, hlen, callR, e, hsub]
theorem mixed (k : Nat) {F : List Cell} {n B : Nat} (h : Feed F n B) {xs : List D} (hl : xs.length ≤ line) (hB : B + xs.length ≤ 10 ^ 9) {d : D} (hd : d = .lst xs ∨ d = .tup xs) : ∃ ys F', callN Φ W (k + 2) N._law_mixed [.mref n, d] F = .ok (.lst ys) false F' ∧ ys.Perm xs ∧ Feed F' n (B + xs.length) := by
  rw [call_eq (c := c__law_mixed) (lib_has rfl) _ _ rfl]
  have hlen : lenD d = some xs.length := by rcases hd with rfl | rfl <;> rfl
  have hlst : biD .list [d] = some (.lst xs) := by rcases hd with rfl | rfl <;> rfl
  have rl : (rngD 0 xs.length).length = xs.length := by unfold rngD; simp
  have loop := for_inv (f := fun x s => (Res.of (assignTg (.v 2) x s.ρ)).bind fun ρ => runs (callN Φ W (k + 1)) W [.ex (.app 4 (.popA 3 (.call N._law_draw [.var 0, .lenO 3])))] { s with ρ := ρ }) (xs := rngD 0 xs.length)
    (Q := fun r => ∃ l f sl F', r = (.nx, ⟨[.val (.mref n), .val d, sl, .own (.lst l), .own (.lst f)], F'⟩) ∧ f.length = xs.length ∧ (f ++ l).Perm xs ∧ Feed F' n (B + xs.length))
    (fun i s => ∃ l f sl F', s = ⟨[.val (.mref n), .val d, sl, .own (.lst l), .own (.lst f)], F'⟩ ∧ f.length = i ∧ (f ++ l).Perm xs ∧ Feed F' n (B + i)) (fun i x s ex ⟨l, f, sl, F', es, hf, hp, hF⟩ => by
      have hi : i < xs.length := by rw [← rl]; exact (List.getElem?_eq_some_iff.mp ex).1
      have hll : l.length = xs.length - i := by
        have := hp.length_eq
        simp at this
        omega
      have h0 : (0 : Int) < l.length := by omega
      have h9 : (l.length : Int) ≤ 10 ^ 9 := by unfold line at hl; omega
      obtain ⟨j, F'', e, j0, j1, hF'⟩ := draw (Φ := Φ) (W := W) k hF (by omega) h0 h9
      have hj : j.toNat < l.length := by omega
      have ej : ixD l.length j = some j.toNat := by unfold ixD; rw [if_pos j0, if_pos j1]
      have hline : ¬ line < l.length := by omega
      have hfl : f.length < line := by omega
      have eg : l[j.toNat]? = some l[j.toNat] := List.getElem?_eq_getElem hj
      subst es
      refine ⟨(.nx, ⟨[.val (.mref n), .val d, .val x, .own (.lst (l.eraseIdx j.toNat)), .own (.lst (f ++ [l[j.toNat]]))], F''⟩), ?_, .inl ⟨.inl rfl, ?_⟩⟩
      · simp [assignTg, ownL, ownOf, heldOf, Cell.d, callR, e, ej, hline, hfl, hj]
      · refine ⟨_, _, _, _, rfl, by simp [hf], ?_, by rw [← Nat.add_assoc]; exact hF'⟩
        refine List.Perm.trans ?_ hp
        rw [List.append_assoc]
        refine List.Perm.append_left f ?_
        exact erase_perm l _ hj) (fun s ⟨l, f, sl, F', es, hf, hp, hF⟩ => ⟨l, f, sl, F', by rw [es], by rw [hf, rl], hp, by rw [rl] at hF; exact hF⟩)
    ⟨[.val (.mref n), .val d, .no, .own (.lst xs), .own (.lst [])], F⟩ ⟨xs, [], .no, F, rfl, rfl, .refl _, h⟩
  obtain ⟨r, e, l, f, sl, F', er, hf, hp, hF⟩ := loop
  have hl0 : l = [] := by
    have := hp.length_eq
    simp at this
    apply List.eq_nil_of_length_eq_zero
    omega
  subst hl0 er
  rw [List.append_nil] at hp
  refine ⟨f, F', ?_, hp, hF⟩
  have hr : rngOk 0 xs.length = true := by unfold rngOk line; unfold line at hl; simp; omega
  have hi : evI (callN Φ W (k + 1)) (.rng (.bi .len [.var 1])) ⟨[.val (.mref n), .val d, .no, .own (.lst xs), .own (.lst [])], F⟩ = .ok (rngD 0 xs.length, ⟨[.val (.mref n), .val d, .no, .own (.lst xs), .own (.lst [])], F⟩) := by
    simp [evI, hlen, hr]
  have hfor := (run_for (W := W) (tg := .v 2) (b := [.ex (.app 4 (.popA 3 (.call N._law_draw [.var 0, .lenO 3])))]) hi).trans e
  simp [c__law_mixed, enter, hlst, parS, cellOf, hfor, Cell.d]
end NW
set_option autoImplicit false
set_option linter.all false
set_option maxRecDepth 100000
/-! NwS6: _law_same on bools. -/
namespace NW
open PySem
variable {Φ : Nat → Option Code} {W : Nat} [Lib Φ]
theorem cmp_eq_bl (a b : Bool) : cmpD .eq (.bl a) (.bl b) = some (a == b) := rfl
theorem cmp_ne_bl (a b : Bool) : cmpD .ne (.bl a) (.bl b) = some (!(a == b)) := rfl
theorem same_bool (k : Nat) (a b : Bool) (F : List Cell) : callN Φ W (k + 1) N._law_same [.bl a, .bl b] F = .ok (.bl (a == b)) false F := by
  rw [call_eq (c := c__law_same) (lib_has rfl) _ _ rfl]
  simp [c__law_same, enter, Ty.plain, Ty.is, cmp_eq_bl]
theorem zip_bls (ts : List Bool) : zipD (ts.map D.bl) (ts.map D.bl) = ts.map fun b => .tup [.bl b, .bl b] := by
  unfold zipD
  rw [List.zip_map, List.map_map]
  induction ts with
  | nil => rfl
  | cons t ts ih => simp [ih]
theorem same_bools (k : Nat) (ts : List Bool) (F : List Cell) (hl : ts.length ≤ line) : callN Φ W (k + 2) N._law_same [.lst (ts.map .bl), .lst (ts.map .bl)] F = .ok (.bl true) false F := by
  rw [call_eq (c := c__law_same) (lib_has rfl) _ _ rfl]
  generalize hd : D.lst (ts.map D.bl) = d
  have hn : d ≠ .non := by rw [← hd]; exact fun z => by cases z
  have hi : d.isiOk = true := by rw [← hd]; rfl
  have hlen : lenD d = some ts.length := by rw [← hd]; simp
  have t1 : Ty.bool.is d = false := by rw [← hd]; rfl
  have t2 : Ty.int.is d = false := by rw [← hd]; rfl
  have t3 : Ty.str.is d = false := by rw [← hd]; rfl
  have t4 : Ty.list.is d = true := by rw [← hd]; rfl
  have t5 : Ty.tuple.is d = false := by rw [← hd]; rfl
  have e : ev (callN Φ W (k + 1)) (.lc [2, 3] (.con (.int 1)) (.t [.v 2, .v 3]) (.zip (.var 0) (.var 1)) [.not (.call N._law_same [.var 2, .var 3])]) ⟨[.val d, .val d, .no, .no], F⟩ = .ok (.lst [], ⟨[.val d, .val d, .no, .no], F⟩) := by
    have := lc_pure (call := callN Φ W (k + 1)) (vs := [2, 3]) (e := .con (.int 1)) (tg := .t [.v 2, .v 3]) (it := .zip (.var 0) (.var 1)) (ifs := [.not (.call N._law_same [.var 2, .var 3])]) (s := ⟨[.val d, .val d, .no, .no], F⟩) (xs := ts.map fun b => .tup [.bl b, .bl b]) (p := fun _ => false) (g := fun d => d)
      (by rw [← hd]; simp [evI, zip_bls]) (by simp [hasOwn, ownOf]) (fun x hx => by
        obtain ⟨b, hb, rfl⟩ := List.mem_map.mp hx
        exact ⟨[.val d, .val d, .val (.bl b), .val (.bl b)], [.bl false], by simp [assignTg, assignTgs, wipeS], by simp [wipeS], by simp [callR, same_bool], rfl, fun z => by cases z⟩) (by simpa using hl)
    rw [this, List.filter_eq_nil_iff.mpr (fun _ _ => Bool.false_ne_true)]
    rfl
  have c0 : cmpD .eq (.lst []) (.lst []) = some true := rfl
  simp [c__law_same, enter, Ty.plain, hn, hi, t1, t2, t3, t4, t5, hlen, cmp_ne_bl, e, c0]
end NW
set_option autoImplicit false
set_option linter.all false
set_option maxRecDepth 100000
/-! NwS7: all turnings. -/
namespace NW
open PySem
variable {Φ : Nat → Option Code} {W : Nat} [Lib Φ]
theorem rngD_map (m : Int) : rngD 0 m = (rng m).map D.int := by
  unfold rngD rng
  simp [Function.comp_def]
theorem any_int (a : Int) (row : List Int) : ((row.map D.int).any fun z => D.eqv z (.int a)) = decide (a ∈ row) := by
  induction row with
  | nil => rfl
  | cons r row ih =>
    rw [List.map_cons, List.any_cons, ih]
    show ((r == a) || decide (a ∈ row)) = _
    rw [Bool.eq_iff_iff]
    simp only [Bool.or_eq_true, beq_iff_eq, decide_eq_true_eq, List.mem_cons]
    exact ⟨fun h => h.elim (fun e => .inl e.symm) .inr, fun h => h.elim (fun e => .inl e.symm) .inr⟩
@[simp] theorem nin_R (a : Int) (row : List Int) : cmpD .nin (.int a) (R row) = some (!decide (a ∈ row)) := by
  show (inL (.int a) (row.map D.int)).map _ = _
  unfold inL
  rw [if_pos (by simp [D.da, das_ints]), any_int]
  rfl
theorem add_R (row : List Int) (a : Int) (h : row.length + 1 ≤ line) : binD .add (R row) (.tup [.int a]) = some (R (row ++ [a])) := by
  show (if (row.map D.int).length + 1 ≤ line then _ else _) = _
  rw [if_pos (by simpa using h)]
  simp [R]
/-- each row with one more place -/
def ext1 (m : Int) (row : List Int) : List (List Int) := ((rng m).filter fun a => !decide (a ∈ row)).map fun a => row ++ [a]
def longer (m : Int) (rows : List (List Int)) : List (List Int) := rows.flatMap (ext1 m)
theorem rng_len (m : Int) : (rng m).length = m.toNat := by unfold rng; simp
theorem ext1_len (m : Int) (row : List Int) : (ext1 m row).length ≤ m.toNat := by
  unfold ext1
  rw [List.length_map]
  exact Nat.le_trans (List.length_filter_le _ _) (by rw [rng_len]; exact Nat.le_refl _)
theorem longer_len (m : Int) (rows : List (List Int)) : (longer m rows).length ≤ rows.length * m.toNat := by
  induction rows with
  | nil => simp [longer]
  | cons r rows ih =>
    have := ext1_len m r
    simp only [longer, List.flatMap_cons, List.length_append, List.length_cons] at ih ⊢
    rw [Nat.succ_mul]
    omega
theorem ext_ev {call : Call} {F : List Cell} {m : Int} {row : List Int} {d : D} {cl : Cell} (h : row.length + 1 ≤ line) (hm : rngOk 0 m = true) (hm2 : m.toNat ≤ line) : ev call (.lc [4] (.bin .add (.var 3) (.tup [.var 4])) (.v 4) (.rng (.var 1)) [.cmp .nin (.var 4) (.var 3)]) ⟨[.val d, .val (.int m), .own cl, .val (R row), .no], F⟩ =
    .ok (.lst ((ext1 m row).map R), ⟨[.val d, .val (.int m), .own cl, .val (R row), .no], F⟩) := by
  have := lc_pure (call := call) (vs := [4]) (e := .bin .add (.var 3) (.tup [.var 4])) (tg := .v 4) (it := .rng (.var 1)) (ifs := [.cmp .nin (.var 4) (.var 3)]) (s := ⟨[.val d, .val (.int m), .own cl, .val (R row), .no], F⟩) (xs := rngD 0 m)
    (p := fun d => match d with | .int a => !decide (a ∈ row) | _ => false) (g := fun d => match d with | .int a => R (row ++ [a]) | d => d) (by simp [evI, hm]) (by simp [hasOwn, ownOf]) (fun x hx => by
      rw [rngD_map] at hx
      obtain ⟨a, ha, rfl⟩ := List.mem_map.mp hx
      exact ⟨[.val d, .val (.int m), .own cl, .val (R row), .val (.int a)], [.bl (!decide (a ∈ row))], by simp [assignTg, wipeS], by simp [wipeS], by simp, rfl, fun _ => by simp [add_R row a h]⟩) (by rw [rngD_map, List.length_map, rng_len]; exact hm2)
  rw [this, rngD_map, List.filter_map, List.map_map]
  unfold ext1
  rw [List.map_map]
  rfl
theorem longer_take (m : Int) (rows : List (List Int)) {i : Nat} {r : List Int} (h : rows[i]? = some r) : longer m (rows.take (i + 1)) = longer m (rows.take i) ++ ext1 m r := by
  have : rows.take (i + 1) = rows.take i ++ [r] := by
    rw [List.take_succ, h]
    rfl
  rw [this]
  unfold longer
  rw [List.flatMap_append]
  simp
theorem longer_eq (k : Nat) (m : Int) (rows : List (List Int)) (F : List Cell) (hm : rngOk 0 m = true) (hm2 : m.toNat ≤ line) (h : ∀ r ∈ rows, r.length + 1 ≤ line) (hl : rows.length * m.toNat ≤ line) : callN Φ W (k + 1) N._law_longer [.lst (rows.map R), .int m] F = .ok (.lst ((longer m rows).map R)) false F := by
  rw [call_eq (c := c__law_longer) (lib_has rfl) _ _ rfl]
  have loop := for_inv (f := fun x s => (Res.of (assignTg (.v 3) x s.ρ)).bind fun ρ => runs (callN Φ W k) W [.ex (.ext 2 (.lc [4] (.bin .add (.var 3) (.tup [.var 4])) (.v 4) (.rng (.var 1)) [.cmp .nin (.var 4) (.var 3)]))] { s with ρ := ρ }) (xs := rows.map R)
    (Q := fun r => ∃ sl, r = (.nx, ⟨[.val (.lst (rows.map R)), .val (.int m), .own (.lst ((longer m rows).map R)), sl, .no], F⟩))
    (fun i s => ∃ sl, s = ⟨[.val (.lst (rows.map R)), .val (.int m), .own (.lst ((longer m (rows.take i)).map R)), sl, .no], F⟩) (fun i x s ex ⟨sl, es⟩ => by
      rw [List.getElem?_map, Option.map_eq_some_iff] at ex
      obtain ⟨r, er, rfl⟩ := ex
      have hi := (List.getElem?_eq_some_iff.mp er).1
      have hr := h r (List.mem_of_getElem? er)
      have e := ext_ev (call := callN Φ W k) (F := F) (d := .lst (rows.map R)) (cl := .lst ((longer m (rows.take i)).map R)) hr hm hm2
      have hlen : (longer m (rows.take i)).length + (ext1 m r).length ≤ line := by
        have h1 := longer_len m (rows.take i)
        have h2 := ext1_len m r
        have h3 : (rows.take i).length = i := by rw [List.length_take]; omega
        have h4 : (i + 1) * m.toNat ≤ rows.length * m.toNat := Nat.mul_le_mul_right _ hi
        rw [h3] at h1
        rw [Nat.succ_mul] at h4
        omega
      subst es
      refine ⟨(.nx, ⟨[.val (.lst (rows.map R)), .val (.int m), .own (.lst ((longer m (rows.take (i + 1))).map R)), .val (R r), .no], F⟩), ?_, .inl ⟨.inl rfl, _, rfl⟩⟩
      rw [longer_take m rows er]
      simp [assignTg, ownL, ownOf, e, hlen]) (fun s ⟨sl, es⟩ => ⟨sl, by rw [es, List.length_map, List.take_length]⟩)
    ⟨[.val (.lst (rows.map R)), .val (.int m), .own (.lst []), .no, .no], F⟩ ⟨.no, by simp [longer]⟩
  obtain ⟨r, e, sl, er⟩ := loop
  subst er
  have hi : evI (callN Φ W k) (.it (.var 0)) ⟨[.val (.lst (rows.map R)), .val (.int m), .own (.lst []), .no, .no], F⟩ = .ok (rows.map R, ⟨[.val (.lst (rows.map R)), .val (.int m), .own (.lst []), .no, .no], F⟩) := by
    simp [evI, itemsOf]
  have hfor := (run_for (W := W) (tg := .v 3) (b := [.ex (.ext 2 (.lc [4] (.bin .add (.var 3) (.tup [.var 4])) (.v 4) (.rng (.var 1)) [.cmp .nin (.var 4) (.var 3)]))]) hi).trans e
  simp [c__law_longer, enter, cellOf, hfor, Cell.d]
end NW
set_option autoImplicit false
set_option linter.all false
set_option maxRecDepth 100000
/-! NwS8: all turnings of few places. -/
namespace NW
open PySem
variable {Φ : Nat → Option Code} {W : Nat} [Lib Φ]
def tn (m : Int) : Nat → List (List Int)
  | 0 => [[]]
  | i + 1 => longer m (tn m i)
def tns (m : Int) : List (List Int) := tn m m.toNat
theorem tn_len (m : Int) : ∀ i, (tn m i).length ≤ m.toNat ^ i
  | 0 => by simp [tn]
  | i + 1 => by
    have h1 := longer_len m (tn m i)
    have h2 := Nat.mul_le_mul_right m.toNat (tn_len m i)
    rw [Nat.pow_succ]
    exact Nat.le_trans h1 h2
theorem ext1_mem {m : Int} {row r : List Int} (h : r ∈ ext1 m row) : ∃ a, r = row ++ [a] ∧ 0 ≤ a ∧ a < m ∧ a ∉ row := by
  unfold ext1 at h
  obtain ⟨a, ha, rfl⟩ := List.mem_map.mp h
  obtain ⟨h1, h2⟩ := List.mem_filter.mp ha
  unfold rng at h1
  obtain ⟨i, hi, rfl⟩ := List.mem_map.mp h1
  have := List.mem_range.mp hi
  exact ⟨_, rfl, by omega, by omega, by simpa using h2⟩
theorem tn_row {m : Int} : ∀ {i : Nat} {r : List Int}, r ∈ tn m i → r.length = i ∧ r.Nodup ∧ ∀ x ∈ r, 0 ≤ x ∧ x < m
  | 0, r, h => by
    simp [tn] at h
    subst h
    exact ⟨rfl, List.nodup_nil, fun x hx => by cases hx⟩
  | i + 1, r, h => by
    unfold tn longer at h
    obtain ⟨row, h1, h2⟩ := List.mem_flatMap.mp h
    obtain ⟨g1, g2, g3⟩ := tn_row h1
    obtain ⟨a, rfl, a1, a2, a3⟩ := ext1_mem h2
    refine ⟨by simp [g1], ?_, fun x hx => ?_⟩
    · rw [List.nodup_append]
      exact ⟨g2, by simp, fun x hx y hy => by rw [List.mem_singleton.mp hy]; exact fun z => a3 (z ▸ hx)⟩
    · rcases List.mem_append.mp hx with hx | hx
      · exact g3 x hx
      · rw [List.mem_singleton.mp hx]; exact ⟨a1, a2⟩
theorem pow_le {m : Int} (h0 : 0 ≤ m) (h6 : m ≤ 6) {i : Nat} (hi : (i : Int) < m) : m.toNat ^ i * m.toNat ≤ line := by
  rw [← Nat.pow_succ]
  have h1 : m.toNat ^ (i + 1) ≤ 6 ^ (i + 1) := Nat.pow_le_pow_left (by omega) _
  have h2 : 6 ^ (i + 1) ≤ 6 ^ 6 := Nat.pow_le_pow_right (by decide) (by omega)
  exact Nat.le_trans (Nat.le_trans h1 h2) (by decide)
theorem turnings_eq (k : Nat) (m : Int) (F : List Cell) (h0 : 0 ≤ m) (h6 : m ≤ 6) : callN Φ W (k + 2) N._law_turnings [.int m] F = .ok (.lst ((tns m).map R)) false F := by
  have hm : rngOk 0 m = true := by unfold rngOk line; simp; omega
  rw [call_eq (c := c__law_turnings) (lib_has rfl) _ _ rfl]
  have rl : (rngD 0 m).length = m.toNat := by rw [rngD_map, List.length_map, rng_len]
  have loop := for_inv (f := fun x s => (Res.of (assignTg (.v 2) x s.ρ)).bind fun ρ => runs (callN Φ W (k + 1)) W [.set 1 (.call N._law_longer [.var 1, .var 0])] { s with ρ := ρ }) (xs := rngD 0 m)
    (Q := fun r => ∃ sl, r = (.nx, ⟨[.val (.int m), .val (.lst ((tns m).map R)), sl], F⟩))
    (fun i s => ∃ sl, s = ⟨[.val (.int m), .val (.lst ((tn m i).map R)), sl], F⟩) (fun i x s ex ⟨sl, es⟩ => by
      have hi : i < m.toNat := by rw [← rl]; exact (List.getElem?_eq_some_iff.mp ex).1
      have e := longer_eq (Φ := Φ) (W := W) k m (tn m i) F hm (by unfold line; omega) (fun r hr => by rw [(tn_row hr).1]; unfold line; omega) (Nat.le_trans (Nat.mul_le_mul_right _ (tn_len m i)) (pow_le h0 h6 (by omega)))
      subst es
      refine ⟨(.nx, ⟨[.val (.int m), .val (.lst ((tn m (i + 1)).map R)), .val x], F⟩), ?_, .inl ⟨.inl rfl, _, rfl⟩⟩
      simp [assignTg, callR, e, tn]) (fun s ⟨sl, es⟩ => ⟨sl, by rw [es, rl]; rfl⟩)
    ⟨[.val (.int m), .val (.lst [.tup []]), .no], F⟩ ⟨.no, rfl⟩
  obtain ⟨r, e, sl, er⟩ := loop
  subst er
  have hi : evI (callN Φ W (k + 1)) (.rng (.var 0)) ⟨[.val (.int m), .val (.lst [.tup []]), .no], F⟩ = .ok (rngD 0 m, ⟨[.val (.int m), .val (.lst [.tup []]), .no], F⟩) := by
    simp [evI, hm]
  have hfor := (run_for (W := W) (tg := .v 2) (b := [.set 1 (.call N._law_longer [.var 1, .var 0])]) hi).trans e
  simp [c__law_turnings, enter, hfor]
end NW
set_option autoImplicit false
set_option linter.all false
set_option maxRecDepth 100000
/-! NwS9: _law_closed. -/
namespace NW
open PySem
variable {Φ : Nat → Option Code} {W : Nat} [Lib Φ]
def add1 (cur : List Int) (f : List (List Int)) (g : List Int) : List (List Int) := if tr g cur ∈ f then f else f ++ [tr g cur]
def addG (gens : List (List Int)) (cur : List Int) (f : List (List Int)) : List (List Int) := gens.foldl (add1 cur) f
def clo (gens : List (List Int)) : Nat → Nat → List (List Int) → List (List Int)
  | 0, _, f => f
  | k + 1, t, f => if f.length ≤ t then f else clo gens k (t + 1) (addG gens (f.getD t []) f)
theorem add1_len (cur : List Int) (f : List (List Int)) (g : List Int) : (add1 cur f g).length ≤ f.length + 1 := by
  unfold add1; split <;> simp
theorem addG_len (gens : List (List Int)) (cur : List Int) : ∀ f : List (List Int), (addG gens cur f).length ≤ f.length + gens.length := by
  induction gens with
  | nil => intro f; simp [addG]
  | cons g gens ih =>
    intro f
    have h1 := ih (add1 cur f g)
    have h2 := add1_len cur f g
    simp only [addG, List.foldl_cons, List.length_cons] at h1 ⊢
    omega
/-- rows of m places that each hold places -/
def Pl (m : Nat) (r : List Int) : Prop := r.length = m ∧ ∀ a ∈ r, 0 ≤ a ∧ a < (m : Int)
theorem Pl_tr {m : Nat} {g x : List Int} (hg : Pl m g) (hx : Pl m x) : Pl m (tr g x) := by
  refine ⟨by simp [tr, hg.1], fun a ha => ?_⟩
  unfold tr at ha
  obtain ⟨b, hb, rfl⟩ := List.mem_map.mp ha
  have ⟨h0, h1⟩ := hg.2 b hb
  have hl : b.toNat < x.length := by rw [hx.1]; omega
  rw [List.getD_eq_getElem?_getD, List.getElem?_eq_getElem hl]
  exact hx.2 _ (List.getElem_mem hl)
theorem add1_all {P : List Int → Prop} {cur : List Int} {f : List (List Int)} {g : List Int} (h : ∀ r ∈ f, P r) (hg : P (tr g cur)) : ∀ r ∈ add1 cur f g, P r := by
  intro r hr
  unfold add1 at hr
  split at hr
  · exact h r hr
  · rcases List.mem_append.mp hr with hr | hr
    · exact h r hr
    · rw [List.mem_singleton.mp hr]; exact hg
theorem addG_all {P : List Int → Prop} {cur : List Int} : ∀ {gens f : List (List Int)}, (∀ r ∈ f, P r) → (∀ g ∈ gens, P (tr g cur)) → ∀ r ∈ addG gens cur f, P r
  | [], f, h, _ => h
  | g :: gens, f, h, hg => by
    unfold addG
    rw [List.foldl_cons]
    exact addG_all (add1_all h (hg g (List.mem_cons_self ..))) fun g' h' => hg g' (List.mem_cons_of_mem _ h')
end NW
set_option autoImplicit false
set_option linter.all false
set_option maxRecDepth 100000
/-! NwSA: the walk of _law_closed: its two loops. -/
namespace NW
open PySem
variable {Φ : Nat → Option Code} {W : Nat} [Lib Φ]
theorem das_R (n : Nat) : ∀ xs : List (List Int), D.das (n + 1) (xs.map R) = true
  | [] => by simp [D.das]
  | x :: xs => by simp [D.das, das_R n xs]
theorem any_R (a : List Int) (rows : List (List Int)) : ((rows.map R).any fun z => D.eqv z (R a)) = decide (a ∈ rows) := by
  induction rows with
  | nil => rfl
  | cons r rows ih =>
    rw [List.map_cons, List.any_cons, ih, eqv_R]
    rw [Bool.eq_iff_iff]
    simp only [Bool.or_eq_true, decide_eq_true_eq, List.mem_cons]
    exact ⟨fun h => h.elim (fun e => .inl e.symm) .inr, fun h => h.elim (fun e => .inl e.symm) .inr⟩
@[simp] theorem nin_RR (a : List Int) (rows : List (List Int)) : cmpD .nin (R a) (.lst (rows.map R)) = some (!decide (a ∈ rows)) := by
  show (inL (R a) (rows.map R)).map _ = _
  unfold inL
  rw [if_pos (by simp [D.da, das_R]), any_R]
  rfl
theorem sub_RR (F : List Cell) (rows : List (List Int)) {t : Nat} (h : t < rows.length) : subD F (.lst (rows.map R)) (.int t) = some (R (rows.getD t [])) := by
  show atD (rows.map R) t = _
  unfold atD ixD
  have h1 : (0:Int) ≤ t ∧ (t:Int) < rows.length := by omega
  simp [h]
theorem addG_pre (cur : List Int) : ∀ (gens f : List (List Int)), ∃ e, addG gens cur f = f ++ e
  | [], f => ⟨[], by simp [addG]⟩
  | g :: gens, f => by
    obtain ⟨e, h⟩ := addG_pre cur gens (add1 cur f g)
    have : ∃ e1, add1 cur f g = f ++ e1 := by
      unfold add1
      split
      · exact ⟨[], by simp⟩
      · exact ⟨_, rfl⟩
    obtain ⟨e1, h1⟩ := this
    refine ⟨e1 ++ e, ?_⟩
    show addG gens cur (add1 cur f g) = _
    rw [h, h1, List.append_assoc]
theorem addG_get {gens f : List (List Int)} {cur : List Int} {t : Nat} (h : t < f.length) : (addG gens cur f).getD t [] = f.getD t [] ∧ t < (addG gens cur f).length := by
  obtain ⟨e, h1⟩ := addG_pre cur gens f
  rw [h1]
  refine ⟨?_, by simp; omega⟩
  simp only [List.getD_eq_getElem?_getD, List.getElem?_append_left h]
/-- the loop over the given turnings -/
abbrev clIn : List S := [.set 5 (.call N._law_turned [.var 4, .subO 2 (.var 3)]), .ife (.inO true (.var 5) 2) [.ex (.app 2 (.var 5))] []]
theorem inner_eq (k : Nat) {m t : Nat} {gens f : List (List Int)} {F : List Cell} {sl4 sl5 : Slot} (hg : ∀ g ∈ gens, Pl m g) (hf : ∀ r ∈ f, Pl m r) (ht : t < f.length) (hm : m ≤ line) (hl : f.length + gens.length ≤ line) :
    ∃ sl4' sl5', run (callN Φ W (k + 1)) W (.for (.v 4) (.it (.var 1)) clIn) ⟨[.val (.int m), .val (.lst (gens.map R)), .own (.lst (f.map R)), .val (.int t), sl4, sl5], F⟩ =
      .ok (.nx, ⟨[.val (.int m), .val (.lst (gens.map R)), .own (.lst ((addG gens (f.getD t []) f).map R)), .val (.int t), sl4', sl5'], F⟩) := by
  have loop := for_inv (f := fun x s => (Res.of (assignTg (.v 4) x s.ρ)).bind fun ρ => runs (callN Φ W (k + 1)) W clIn { s with ρ := ρ }) (xs := gens.map R)
    (Q := fun r => ∃ a b, r = (.nx, ⟨[.val (.int m), .val (.lst (gens.map R)), .own (.lst ((addG gens (f.getD t []) f).map R)), .val (.int t), a, b], F⟩))
    (fun i s => ∃ a b, s = ⟨[.val (.int m), .val (.lst (gens.map R)), .own (.lst ((addG (gens.take i) (f.getD t []) f).map R)), .val (.int t), a, b], F⟩) (fun i x s ex ⟨a, b, es⟩ => by
      rw [List.getElem?_map, Option.map_eq_some_iff] at ex
      obtain ⟨g, eg, rfl⟩ := ex
      have hi := (List.getElem?_eq_some_iff.mp eg).1
      have hgg := hg g (List.mem_of_getElem? eg)
      have htk : gens.take (i + 1) = gens.take i ++ [g] := by rw [List.take_succ, eg]; rfl
      have hst : addG (gens.take (i + 1)) (f.getD t []) f = add1 (f.getD t []) (addG (gens.take i) (f.getD t []) f) g := by
        unfold addG; rw [htk, List.foldl_append]; rfl
      have hlen := addG_len (gens.take i) (f.getD t []) f
      have htl : (gens.take i).length = i := by rw [List.length_take]; omega
      have hpre : (addG (gens.take i) (f.getD t []) f).getD t [] = f.getD t [] ∧ t < (addG (gens.take i) (f.getD t []) f).length := by
        exact addG_get ht
      generalize hcu : f.getD t [] = cur at *
      have hcm : Pl m cur := by
        rw [← hcu, List.getD_eq_getElem?_getD, List.getElem?_eq_getElem ht]; exact hf _ (List.getElem_mem ht)
      have et := lturned_eq (Φ := Φ) (W := W) k g cur F (fun a ha => by rw [hcm.1]; exact hgg.2 a ha) (by rw [hgg.1]; exact hm)
      have es2 := sub_RR F (addG (gens.take i) cur f) hpre.2
      rw [hpre.1] at es2
      subst es
      generalize addG (gens.take i) cur f = f1 at *
      refine ⟨(.nx, ⟨[.val (.int m), .val (.lst (gens.map R)), .own (.lst ((addG (gens.take (i + 1)) cur f).map R)), .val (.int t), .val (R g), .val (R (tr g cur))], F⟩), ?_, .inl ⟨.inl rfl, _, _, rfl⟩⟩
      rw [hst]
      unfold add1
      cases hd : decide (tr g cur ∈ f1) with
      | true => simp [assignTg, ownL, ownOf, heldOf, Cell.d, es2, callR, et, of_decide_eq_true hd]
      | false =>
        have h1 : f1.length < line := by omega
        simp [assignTg, ownL, ownOf, heldOf, Cell.d, es2, callR, et, of_decide_eq_false hd, h1]) (fun s ⟨a, b, es⟩ => ⟨a, b, by rw [es, List.length_map, List.take_length]⟩)
    ⟨[.val (.int m), .val (.lst (gens.map R)), .own (.lst (f.map R)), .val (.int t), sl4, sl5], F⟩ ⟨sl4, sl5, rfl⟩
  obtain ⟨r, e, a, b, er⟩ := loop
  subst er
  have hi : evI (callN Φ W (k + 1)) (.it (.var 1)) ⟨[.val (.int m), .val (.lst (gens.map R)), .own (.lst (f.map R)), .val (.int t), sl4, sl5], F⟩ = .ok (gens.map R, ⟨[.val (.int m), .val (.lst (gens.map R)), .own (.lst (f.map R)), .val (.int t), sl4, sl5], F⟩) := by
    simp [evI, itemsOf]
  exact ⟨a, b, (run_for (W := W) (tg := .v 4) (b := clIn) hi).trans e⟩
end NW
set_option autoImplicit false
set_option linter.all false
set_option maxRecDepth 100000
/-! NwSB: the walk of _law_closed: the outer loop and the whole. -/
namespace NW
open PySem
variable {Φ : Nat → Option Code} {W : Nat} [Lib Φ]
theorem pls_ints' (n : Nat) (xs : List Int) : D.pls n (xs.map D.int) = true := pls_ints n xs
theorem sortOk_RR (rows : List (List Int)) : sortOk (rows.map R) = true := by
  unfold sortOk
  rw [List.all_eq_true]
  intro x hx
  obtain ⟨a, _, rfl⟩ := List.mem_map.mp hx
  rw [Bool.and_eq_true, List.all_eq_true]
  refine ⟨pl_R 59 a, fun y hy => ?_⟩
  obtain ⟨b, _, rfl⟩ := List.mem_map.mp hy
  exact ord_R a b
abbrev clOut : List S := [.ife (.cmp .ge (.var 3) (.lenO 2)) [.brk] [], .for (.v 4) (.it (.var 1)) clIn]
/-- t steps of the outer loop -/
def cs (gens : List (List Int)) : Nat → List (List Int) → List (List Int)
  | 0, f => f
  | t + 1, f => addG gens ((cs gens t f).getD t []) (cs gens t f)
theorem cs_len (gens : List (List Int)) (f : List (List Int)) : ∀ t, (cs gens t f).length ≤ f.length + t * gens.length
  | 0 => by simp [cs]
  | t + 1 => by
    have h1 := addG_len gens ((cs gens t f).getD t []) (cs gens t f)
    have h2 := cs_len gens f t
    rw [Nat.succ_mul]
    show (addG _ _ _).length ≤ _
    omega
/-- the outer loop as far as it goes -/
def Done (gens : List (List Int)) (f0 f : List (List Int)) : Prop := ∃ t, t ≤ 720 ∧ f = cs gens t f0 ∧ (∀ u < t, u < (cs gens u f0).length) ∧ (f.length ≤ t ∨ t = 720)
theorem cs_all {P : List Int → Prop} {gens f : List (List Int)} (h : ∀ r ∈ f, P r) (hg : ∀ g ∈ gens, ∀ x, P x → P (tr g x)) : ∀ t, (∀ u < t, u < (cs gens u f).length) → ∀ r ∈ cs gens t f, P r
  | 0, _ => h
  | t + 1, hu => by
    have ih := cs_all h hg t fun u hu' => hu u (by omega)
    have ht := hu t (by omega)
    refine addG_all ih fun g hg' => hg g hg' _ ?_
    rw [List.getD_eq_getElem?_getD, List.getElem?_eq_getElem ht]
    exact ih _ (List.getElem_mem ht)
theorem outer_eq (k : Nat) {m : Nat} {gens f : List (List Int)} {F : List Cell} {sl3 sl4 sl5 : Slot} (hg : ∀ g ∈ gens, Pl m g) (hf : ∀ r ∈ f, Pl m r) (hm : m ≤ line) (hl : f.length + 721 * gens.length ≤ line) :
    ∃ f' a b c, Done gens f f' ∧ run (callN Φ W (k + 1)) W (.for (.v 3) (.rng (.con (.int 720))) clOut) ⟨[.val (.int m), .val (.lst (gens.map R)), .own (.lst (f.map R)), sl3, sl4, sl5], F⟩ =
      .ok (.nx, ⟨[.val (.int m), .val (.lst (gens.map R)), .own (.lst (f'.map R)), a, b, c], F⟩) := by
  have loop := for_inv (f := fun x s => (Res.of (assignTg (.v 3) x s.ρ)).bind fun ρ => runs (callN Φ W (k + 1)) W clOut { s with ρ := ρ }) (xs := rngD 0 720)
    (Q := fun r => ∃ f' a b c, Done gens f f' ∧ r = (.nx, ⟨[.val (.int m), .val (.lst (gens.map R)), .own (.lst (f'.map R)), a, b, c], F⟩))
    (fun i s => (∀ u < i, u < (cs gens u f).length) ∧ ∃ a b c, s = ⟨[.val (.int m), .val (.lst (gens.map R)), .own (.lst ((cs gens i f).map R)), a, b, c], F⟩) (fun i x s ex ⟨hu, a, b, c, es⟩ => by
      have hi : i < 720 := by have := (List.getElem?_eq_some_iff.mp ex).1; simpa [rngD] using this
      have hx : x = .int i := by
        have := ex
        simp [rngD, hi] at this
        exact this.symm
      subst hx; subst es
      have hall := cs_all hf (fun g hg' x hx => Pl_tr (hg g hg') hx) i hu
      have hcl := cs_len gens f i
      by_cases hb : (cs gens i f).length ≤ i
      · refine ⟨(.brk, ⟨[.val (.int m), .val (.lst (gens.map R)), .own (.lst ((cs gens i f).map R)), .val (.int i), b, c], F⟩), ?_, .inr (.inl ⟨rfl, _, _, _, _, ⟨i, by omega, rfl, hu, .inl hb⟩, rfl⟩)⟩
        simp [assignTg, heldOf, Cell.d, hb]
      · have hmul : i * gens.length ≤ 720 * gens.length := Nat.mul_le_mul_right _ (by omega)
        obtain ⟨a', b', e⟩ := inner_eq (Φ := Φ) (W := W) (k := k) (F := F) (sl4 := b) (sl5 := c) hg hall (t := i) (by omega) hm (by omega)
        refine ⟨(.nx, ⟨[.val (.int m), .val (.lst (gens.map R)), .own (.lst ((cs gens (i + 1) f).map R)), .val (.int i), a', b'], F⟩), ?_, .inl ⟨.inl rfl, fun u hu' => ?_, _, _, _, rfl⟩⟩
        · have e2 := e
          unfold clIn at e2
          simp [assignTg, heldOf, Cell.d, hb, e2, cs]
        · by_cases h : u = i
          · subst h; omega
          · exact hu u (by omega)) (fun s ⟨hu, a, b, c, es⟩ => ⟨_, a, b, c, ⟨720, by omega, rfl, by simpa [rngD] using hu, .inr rfl⟩, by rw [es]; simp [rngD]⟩)
    ⟨[.val (.int m), .val (.lst (gens.map R)), .own (.lst (f.map R)), sl3, sl4, sl5], F⟩ ⟨fun u hu => by omega, sl3, sl4, sl5, rfl⟩
  obtain ⟨r, e, f', a, b, c, hd, er⟩ := loop
  subst er
  have hi : evI (callN Φ W (k + 1)) (.rng (.con (.int 720))) ⟨[.val (.int m), .val (.lst (gens.map R)), .own (.lst (f.map R)), sl3, sl4, sl5], F⟩ = .ok (rngD 0 720, ⟨[.val (.int m), .val (.lst (gens.map R)), .own (.lst (f.map R)), sl3, sl4, sl5], F⟩) := by
    simp [evI, rngOk, line]
  exact ⟨f', a, b, c, hd, (run_for (W := W) (tg := .v 3) (b := clOut) hi).trans e⟩
end NW
set_option autoImplicit false
set_option linter.all false
set_option maxRecDepth 100000
/-! NwSC: the walk of _law_closed: the whole. -/
namespace NW
open PySem
variable {Φ : Nat → Option Code} {W : Nat} [Lib Φ]
theorem Pl_rng (m : Nat) : Pl m (rng m) := by
  refine ⟨by simp [rng], fun a ha => ?_⟩
  unfold rng at ha
  obtain ⟨i, hi, rfl⟩ := List.mem_map.mp ha
  have := List.mem_range.mp hi
  omega
theorem closed_eq (k : Nat) {m : Nat} {gens : List (List Int)} {F : List Cell} (hg : ∀ g ∈ gens, Pl m g) (hm : m ≤ 900000) (hl : gens.length ≤ 1000) :
    ∃ f', Done gens [rng m] f' ∧ callN Φ W (k + 2) N._law_closed [.int m, .lst (gens.map R)] F = .ok (.tup (sortL (f'.map R))) false F := by
  obtain ⟨f', a, b, c, hd, e⟩ := outer_eq (Φ := Φ) (W := W) (k := k) (F := F) (sl3 := .no) (sl4 := .no) (sl5 := .no) hg (f := [rng m]) (fun r hr => by rw [List.mem_singleton.mp hr]; exact Pl_rng m) (by unfold line; omega) (by unfold line; simp; omega)
  refine ⟨f', hd, ?_⟩
  rw [call_eq (c := c__law_closed) (lib_has rfl) _ _ rfl]
  have hm : rngOk 0 (m : Int) = true := by unfold rngOk line; simp; omega
  have hr : D.tup (rngD 0 (m : Int)) = R (rng m) := by rw [rngD_map]; rfl
  unfold clOut clIn at e
  simp only [List.map_cons, List.map_nil] at e
  simp [c__law_closed, enter, cellOf, Cell.d, heldOf, hm, hr, e, sortOk_RR]
end NW
set_option autoImplicit false
set_option linter.all false
set_option maxRecDepth 100000
/-! NwSD: plain facts of the closed rows. -/
namespace NW
open PySem
variable {Φ : Nat → Option Code} {W : Nat} [Lib Φ]
theorem add1_nodup {cur g : List Int} {f : List (List Int)} (h : f.Nodup) : (add1 cur f g).Nodup := by
  unfold add1
  split
  · exact h
  · rename_i hn
    rw [List.nodup_append]
    exact ⟨h, by simp, fun x hx y hy => by rw [List.mem_singleton.mp hy]; exact fun z => hn (z ▸ hx)⟩
theorem addG_nodup {cur : List Int} : ∀ {gens f : List (List Int)}, f.Nodup → (addG gens cur f).Nodup
  | [], _, h => h
  | g :: gens, f, h => by
    show (addG gens cur (add1 cur f g)).Nodup
    exact addG_nodup (add1_nodup h)
theorem cs_nodup {gens f : List (List Int)} (h : f.Nodup) : ∀ t, (cs gens t f).Nodup
  | 0 => h
  | t + 1 => addG_nodup (cs_nodup h t)
theorem addG_mem {cur : List Int} : ∀ {gens f : List (List Int)} {g : List Int}, g ∈ gens → tr g cur ∈ addG gens cur f
  | g' :: gens, f, g, h => by
    show _ ∈ addG gens cur (add1 cur f g')
    rcases List.mem_cons.mp h with h | h
    · subst h
      have h1 : tr g cur ∈ add1 cur f g := by
        unfold add1
        split
        · assumption
        · simp
      obtain ⟨e, he⟩ := addG_pre cur gens (add1 cur f g)
      rw [he]
      exact List.mem_append_left _ h1
    · exact addG_mem h
theorem cs_pre (gens f : List (List Int)) (t : Nat) : ∀ d, ∃ e, cs gens (t + d) f = cs gens t f ++ e
  | 0 => ⟨[], by simp⟩
  | d + 1 => by
    obtain ⟨e, h⟩ := cs_pre gens f t d
    obtain ⟨e1, h1⟩ := addG_pre ((cs gens (t + d) f).getD (t + d) []) gens (cs gens (t + d) f)
    refine ⟨e ++ e1, ?_⟩
    exact h1.trans (by rw [h, List.append_assoc])
/-- when the loop has stopped by itself, every turned row is there -/
theorem cs_closed {gens f : List (List Int)} {t : Nat} (hs : (cs gens t f).length ≤ t) {g x : List Int} (hg : g ∈ gens) (hx : x ∈ cs gens t f) (hu : ∀ u < t, u < (cs gens u f).length) : tr g x ∈ cs gens t f := by
  obtain ⟨i, hi, rfl⟩ := List.getElem_of_mem hx
  have h1 := hu i (by omega)
  obtain ⟨e, he⟩ := cs_pre gens f i (t - i)
  obtain ⟨e1, he1⟩ := cs_pre gens f (i + 1) (t - (i + 1))
  rw [show i + (t - i) = t by omega] at he
  rw [show i + 1 + (t - (i + 1)) = t by omega] at he1
  have hget : (cs gens t f)[i] = (cs gens i f).getD i [] := by
    rw [List.getD_eq_getElem?_getD, List.getElem?_eq_getElem h1]
    simp only [he, List.getElem_append_left h1, Option.getD_some]
  rw [hget, he1]
  exact List.mem_append_left _ (addG_mem hg)
end NW
set_option autoImplicit false
set_option linter.all false
set_option maxRecDepth 100000
/-! NwSE: the closed rows are a group. -/
namespace NW
open PySem
variable {Φ : Nat → Option Code} {W : Nat} [Lib Φ]
theorem tr_tr {m : Nat} {g x y : List Int} (hg : Pl m g) (hx : Pl m x) : tr (tr g x) y = tr g (tr x y) := by
  unfold tr
  rw [List.map_map]
  refine List.map_congr_left fun a ha => ?_
  have ⟨h0, h1⟩ := hg.2 a ha
  have hl : a.toNat < x.length := by rw [hx.1]; omega
  simp [List.getD_eq_getElem?_getD, List.getElem?_eq_getElem hl]
theorem tr_rng {m : Nat} {y : List Int} (hy : Pl m y) : tr (rng m) y = y := by
  unfold tr rng
  apply List.ext_getElem
  · simp [hy.1]
  · intro i h1 h2
    simp [List.getD_eq_getElem?_getD, List.getElem?_eq_getElem h2]
theorem cs_group {m : Nat} {gens : List (List Int)} {t : Nat} (hg : ∀ g ∈ gens, Pl m g) (hs : (cs gens t [rng m]).length ≤ t) (hu : ∀ u < t, u < (cs gens u [rng m]).length) {y : List Int} (hy : y ∈ cs gens t [rng m]) :
    ∀ x ∈ cs gens t [rng m], tr x y ∈ cs gens t [rng m] := by
  have hall : ∀ s ≤ t, ∀ r ∈ cs gens s [rng m], Pl m r := fun s hs' => cs_all (fun r hr => by rw [List.mem_singleton.mp hr]; exact Pl_rng m) (fun g hg' x hx => Pl_tr (hg g hg') hx) s fun u hu' => hu u (by omega)
  have hyP := hall t (Nat.le_refl _) y hy
  have key : ∀ s ≤ t, ∀ x ∈ cs gens s [rng m], Pl m x ∧ tr x y ∈ cs gens t [rng m] := by
    intro s
    induction s with
    | zero =>
      intro _ x hx
      rw [List.mem_singleton.mp hx, tr_rng hyP]
      exact ⟨Pl_rng m, hy⟩
    | succ s ih =>
      intro hs' x hx
      have ih := ih (by omega)
      refine addG_all (P := fun x => Pl m x ∧ tr x y ∈ cs gens t [rng m]) ih (fun g hg' => ?_) x hx
      have h1 := hu s (by omega)
      have h2 := ih ((cs gens s [rng m]).getD s []) (by rw [List.getD_eq_getElem?_getD, List.getElem?_eq_getElem h1]; exact List.getElem_mem h1)
      refine ⟨Pl_tr (hg g hg') h2.1, ?_⟩
      rw [tr_tr (hg g hg') h2.1]
      exact cs_closed hs hg' h2.2 hu
  exact fun x hx => (key t (Nat.le_refl _) x hx).2
end NW
set_option autoImplicit false
set_option linter.all false
set_option maxRecDepth 100000
/-! NwSF: counting. -/
namespace NW
open PySem
variable {Φ : Nat → Option Code} {W : Nat} [Lib Φ]
theorem nodup_le {α : Type} [DecidableEq α] : ∀ {xs L : List α}, xs.Nodup → (∀ x ∈ xs, x ∈ L) → xs.length ≤ L.length
  | [], _, _, _ => Nat.zero_le _
  | x :: xs, L, h, hs => by
    have hx := hs x (List.mem_cons_self ..)
    have ⟨h1, h2⟩ := List.nodup_cons.mp h
    have ih := nodup_le (xs := xs) (L := L.erase x) h2 fun y hy => by
      have : y ≠ x := fun e => h1 (e ▸ hy)
      exact (List.mem_erase_of_ne this).mpr (hs y (List.mem_cons_of_mem _ hy))
    rw [List.length_erase_of_mem hx] at ih
    have := List.length_pos_of_mem hx
    simp only [List.length_cons]
    omega
/-- all rows of i places under m -/
def al (m : Nat) : Nat → List (List Int)
  | 0 => [[]]
  | i + 1 => (rng m).flatMap fun a => (al m i).map (a :: ·)
theorem al_mem {m : Nat} : ∀ {r : List Int}, (∀ a ∈ r, 0 ≤ a ∧ a < (m : Int)) → r ∈ al m r.length
  | [], _ => by simp [al]
  | a :: r, h => by
    have ih := al_mem (m := m) (r := r) fun b hb => h b (List.mem_cons_of_mem _ hb)
    have ha := h a (List.mem_cons_self ..)
    show _ ∈ (rng m).flatMap _
    rw [List.mem_flatMap]
    refine ⟨a, ?_, List.mem_map.mpr ⟨r, ih, rfl⟩⟩
    unfold rng
    exact List.mem_map.mpr ⟨a.toNat, by simp; omega, by omega⟩
theorem al_len : ∀ m ≤ 3, (al m m).length ≤ 27 := by decide
theorem few {m : Nat} (h : m ≤ 3) {f : List (List Int)} (hn : f.Nodup) (hp : ∀ r ∈ f, Pl m r) : f.length ≤ 27 :=
  Nat.le_trans (nodup_le (L := al m m) hn fun r hr => by
    have h1 := al_mem (hp r hr).2
    rwa [(hp r hr).1] at h1) (al_len m h)
end NW
set_option autoImplicit false
set_option linter.all false
set_option maxRecDepth 100000
/-! NwSG: sorted rows. -/
namespace NW
open PySem
variable {Φ : Nat → Option Code} {W : Nat} [Lib Φ]
/-- a row ahead of another -/
def lx : List Int → List Int → Bool
  | [], [] => false
  | [], _ :: _ => true
  | _ :: _, [] => false
  | x :: xs, y :: ys => if x = y then lx xs ys else decide (x < y)
theorem lts_ints : ∀ a b : List Int, D.lts (a.map D.int) (b.map D.int) = lx a b
  | [], [] => by simp [D.lts, lx]
  | [], _ :: _ => by simp [D.lts, lx]
  | _ :: _, [] => by simp [D.lts, lx]
  | x :: a, y :: b => by simp [D.lts, lx, lts_ints a b, D.lt]
theorem lt_R (a b : List Int) : D.lt (R a) (R b) = lx a b := by
  show D.lts _ _ = _
  exact lts_ints a b
theorem lx_irr : ∀ a : List Int, lx a a = false
  | [] => rfl
  | x :: a => by simp [lx, lx_irr a]
theorem lx_tot : ∀ a b : List Int, a ≠ b → lx a b = false → lx b a = true
  | [], [], h, _ => absurd rfl h
  | [], _ :: _, _, h => by simp [lx] at h
  | _ :: _, [], _, _ => by simp [lx]
  | x :: a, y :: b, h, g => by
    unfold lx at g ⊢
    by_cases e : x = y
    · subst e
      simp at h g ⊢
      exact lx_tot a b h g
    · rw [if_neg e] at g
      rw [if_neg (Ne.symm e)]
      simp at g ⊢
      omega
theorem lx_tr : ∀ a b c : List Int, lx a b = true → lx b c = true → lx a c = true
  | [], [], _, h, _ => by simp [lx] at h
  | [], _ :: _, [], _, g => by simp [lx] at g
  | [], _ :: _, _ :: _, _, _ => by simp [lx]
  | _ :: _, [], _, h, _ => by simp [lx] at h
  | _ :: _, _ :: _, [], _, g => by simp [lx] at g
  | x :: a, y :: b, z :: c, h, g => by
    unfold lx at h g ⊢
    by_cases e : x = y
    · subst e
      simp at h
      by_cases e2 : x = z
      · subst e2
        simp at g ⊢
        exact lx_tr a b c h g
      · simpa [e2] using g
    · simp [e] at h
      by_cases e2 : y = z
      · subst e2
        simp [e]
        omega
      · simp [e2] at g
        have : x ≠ z := by omega
        simp [this]
        omega
def insR (x : List Int) : List (List Int) → List (List Int)
  | [] => [x]
  | y :: ys => if lx y x then y :: insR x ys else x :: y :: ys
def sortR : List (List Int) → List (List Int)
  | [] => []
  | x :: xs => insR x (sortR xs)
theorem insD_map (x : List Int) : ∀ l : List (List Int), insD (R x) (l.map R) = (insR x l).map R
  | [] => rfl
  | y :: ys => by
    simp only [List.map_cons, insD, insR, lt_R, insD_map x ys]
    split <;> simp
theorem sortL_map : ∀ l : List (List Int), sortL (l.map R) = (sortR l).map R
  | [] => rfl
  | x :: xs => by simp only [List.map_cons, sortL, sortR, sortL_map xs, insD_map]
theorem insR_perm (x : List Int) : ∀ l, (insR x l).Perm (x :: l)
  | [] => .refl _
  | y :: ys => by
    unfold insR
    split
    · exact ((insR_perm x ys).cons y).trans (List.Perm.swap _ _ _)
    · exact .refl _
theorem sortR_perm : ∀ l, (sortR l).Perm l
  | [] => .refl _
  | x :: xs => (insR_perm x _).trans ((sortR_perm xs).cons x)
theorem insR_asc (x : List Int) : ∀ l, x ∉ l → l.Pairwise (fun a b => lx a b = true) → (insR x l).Pairwise (fun a b => lx a b = true)
  | [], _, _ => by simp [insR]
  | y :: ys, hx, h => by
    have ⟨h1, h2⟩ := List.pairwise_cons.mp h
    have hxy : x ≠ y := fun e => hx (e ▸ List.mem_cons_self ..)
    unfold insR
    split
    · rename_i g
      refine List.pairwise_cons.mpr ⟨fun b hb => ?_, insR_asc x ys (fun m => hx (List.mem_cons_of_mem _ m)) h2⟩
      rcases List.mem_cons.mp ((insR_perm x ys).mem_iff.mp hb) with hb | hb
      · rw [hb]; exact g
      · exact h1 b hb
    · rename_i g
      have g1 := lx_tot y x (Ne.symm hxy) (by simpa using g)
      refine List.pairwise_cons.mpr ⟨fun b hb => ?_, h⟩
      rcases List.mem_cons.mp hb with hb | hb
      · rw [hb]; exact g1
      · exact lx_tr _ _ _ g1 (h1 b hb)
theorem sortR_asc : ∀ l : List (List Int), l.Nodup → (sortR l).Pairwise (fun a b => lx a b = true)
  | [], _ => List.Pairwise.nil
  | x :: xs, h => by
    have ⟨h1, h2⟩ := List.nodup_cons.mp h
    exact insR_asc x _ (fun m => h1 ((sortR_perm xs).mem_iff.mp m)) (sortR_asc xs h2)
end NW
set_option autoImplicit false
set_option linter.all false
set_option maxRecDepth 100000
/-! NwSH: turnings: what is closed is a group. -/
namespace NW
open PySem
theorem turn_iff {m : Nat} {r : List Int} : turn m r = true ↔ Pl m r ∧ r.Nodup := by
  unfold turn unl Pl
  simp only [Bool.and_eq_true, List.all_eq_true, decide_eq_true_eq]
  constructor
  · rintro ⟨⟨h1, h2⟩, h3⟩
    exact ⟨⟨by omega, fun a ha => by have := h1 a ha; omega⟩, h2⟩
  · rintro ⟨⟨h1, h2⟩, h3⟩
    exact ⟨⟨fun a ha => by have := h2 a ha; omega, h3⟩, by omega⟩
theorem getD_inj {x : List Int} (hx : x.Nodup) {i j : Nat} (hi : i < x.length) (hj : j < x.length) (h : x.getD i 0 = x.getD j 0) : i = j := by
  simp only [List.getD_eq_getElem?_getD, List.getElem?_eq_getElem hi, List.getElem?_eq_getElem hj, Option.getD_some] at h
  exact (List.getElem_inj hx).mp h
theorem tr_nodup {m : Nat} {g x : List Int} (hg : Pl m g) (gn : g.Nodup) (hx : Pl m x) (xn : x.Nodup) : (tr g x).Nodup := by
  unfold tr
  rw [List.Nodup, List.pairwise_map]
  refine List.Pairwise.imp_of_mem ?_ gn
  intro a b ha hb hab e
  have h1 := hg.2 a ha
  have h2 := hg.2 b hb
  have := getD_inj xn (by rw [hx.1]; omega) (by rw [hx.1]; omega) e
  omega
theorem turn_tr {m : Nat} {g x : List Int} (hg : turn m g = true) (hx : turn m x = true) : turn m (tr g x) = true := by
  rw [turn_iff] at *
  exact ⟨Pl_tr hg.1 hx.1, tr_nodup hg.1 hg.2 hx.1 hx.2⟩
theorem rng_nodup (m : Nat) : (rng m).Nodup := by
  unfold rng
  rw [List.Nodup, List.pairwise_map]
  refine List.Pairwise.imp ?_ List.nodup_range
  intro a b h e
  exact h (by exact_mod_cast e)
theorem turn_rng (m : Nat) : turn m (rng m) = true := turn_iff.mpr ⟨Pl_rng m, rng_nodup m⟩
theorem mem_rng {m : Nat} {a : Int} : a ∈ rng m ↔ 0 ≤ a ∧ a < m := by
  unfold rng
  simp only [List.mem_map, List.mem_range]
  constructor
  · rintro ⟨i, hi, rfl⟩; omega
  · intro h; exact ⟨a.toNat, by omega, by omega⟩
theorem mem_tn {m : Nat} : ∀ {i : Nat} {r : List Int}, r.length = i → r.Nodup → (∀ a ∈ r, 0 ≤ a ∧ a < (m : Int)) → r ∈ tn m i
  | 0, r, h, _, _ => by
    rw [List.eq_nil_of_length_eq_zero h]
    simp [tn]
  | i + 1, r, h, hn, hp => by
    have hne : r ≠ [] := fun e => by rw [e] at h; simp at h
    have e : r = r.dropLast ++ [r.getLast hne] := (List.dropLast_concat_getLast hne).symm
    rw [e] at hn hp
    have ⟨n1, n2, n3⟩ := List.nodup_append.mp hn
    have ih := mem_tn (m := m) (i := i) (r := r.dropLast) (by rw [List.length_dropLast, h]; rfl) n1 fun a ha => hp a (List.mem_append_left _ ha)
    have hl := hp (r.getLast hne) (by simp)
    rw [e]
    unfold tn longer
    rw [List.mem_flatMap]
    refine ⟨_, ih, ?_⟩
    unfold ext1
    rw [List.mem_map]
    refine ⟨_, List.mem_filter.mpr ⟨mem_rng.mpr hl, ?_⟩, rfl⟩
    have : r.getLast hne ∉ r.dropLast := fun z => n3 _ z _ (by simp) rfl
    simpa using this
theorem mem_tns {m : Nat} {r : List Int} : r ∈ tns m ↔ turn m r = true := by
  rw [turn_iff]
  constructor
  · intro h
    have ⟨h1, h2, h3⟩ := tn_row h
    exact ⟨⟨by simpa using h1, h3⟩, h2⟩
  · rintro ⟨⟨h1, h2⟩, h3⟩
    exact mem_tn (i := (m : Int).toNat) (by simpa using h1) h3 h2
theorem tns_len5 : ∀ m ≤ 5, (tns ((m : Nat) : Int)).length ≤ 120 := by decide +kernel
theorem tns_len4 : ∀ m ≤ 4, (tns ((m : Nat) : Int)).length ≤ 24 := by decide +kernel
theorem tns_len6 : ∀ m ≤ 6, (tns ((m : Nat) : Int)).length ≤ 720 := by decide +kernel
/-- ascending rows -/
def Asc (g : List (List Int)) : Prop := g.Pairwise fun a b => lx a b = true
/-- a group of m places -/
structure Grp (m : Nat) (g : List (List Int)) : Prop where
  rows : ∀ r ∈ g, turn m r = true
  asc : Asc g
  still : rng m ∈ g
  mul : ∀ a ∈ g, ∀ b ∈ g, tr a b ∈ g
theorem asc_nodup {g : List (List Int)} (h : Asc g) : g.Nodup := by
  refine List.Pairwise.imp ?_ h
  intro a b h e
  rw [e, lx_irr] at h
  cases h
theorem turns_len {m : Nat} {g : List (List Int)} (hn : g.Nodup) (h : ∀ r ∈ g, turn m r = true) : g.length ≤ (tns m).length := nodup_le hn fun r hr => mem_tns.mpr (h r hr)
theorem Grp.len {m : Nat} {g : List (List Int)} (h : Grp m g) : g.length ≤ (tns m).length := turns_len (asc_nodup h.asc) h.rows
/-- what is done is a group -/
theorem done_grp {m : Nat} (hm : m ≤ 6) {gens f : List (List Int)} (hg : ∀ g ∈ gens, turn m g = true) (h : Done gens [rng m] f) : Grp m (sortR f) := by
  obtain ⟨t, ht, rfl, hu, hs⟩ := h
  have hall : ∀ r ∈ cs gens t [rng m], turn m r = true := cs_all (P := fun r => turn m r = true) (fun r hr => by rw [List.mem_singleton.mp hr]; exact turn_rng m) (fun g hg' x hx => turn_tr (hg g hg') hx) t hu
  have hn : (cs gens t [rng m]).Nodup := cs_nodup (by simp) t
  have hlen := Nat.le_trans (turns_len hn hall) (tns_len6 m hm)
  have hs' : (cs gens t [rng m]).length ≤ t := by rcases hs with h | h <;> omega
  have hp := sortR_perm (cs gens t [rng m])
  have hgP : ∀ g ∈ gens, Pl m g := fun g hg' => (turn_iff.mp (hg g hg')).1
  refine ⟨fun r hr => hall r (hp.mem_iff.mp hr), sortR_asc _ hn, hp.mem_iff.mpr ?_, fun a ha b hb => hp.mem_iff.mpr (cs_group hgP hs' hu (hp.mem_iff.mp hb) a (hp.mem_iff.mp ha))⟩
  obtain ⟨e, he⟩ := cs_pre gens [rng m] 0 t
  rw [Nat.zero_add] at he
  rw [he]
  exact List.mem_append_left _ (by simp [cs])
end NW
set_option autoImplicit false
set_option linter.all false
set_option maxRecDepth 100000
/-! NwSI: sorted ints; the first turning is the still one. -/
namespace NW
open PySem
def insI (x : Int) : List Int → List Int
  | [] => [x]
  | y :: ys => if y < x then y :: insI x ys else x :: y :: ys
def sortI : List Int → List Int
  | [] => []
  | x :: xs => insI x (sortI xs)
theorem insD_int (x : Int) : ∀ l : List Int, insD (.int x) (l.map D.int) = (insI x l).map D.int
  | [] => rfl
  | y :: ys => by
    simp only [List.map_cons, insD, insI, D.lt, insD_int x ys, decide_eq_true_eq]
    split <;> simp
theorem sortL_int : ∀ l : List Int, sortL (l.map D.int) = (sortI l).map D.int
  | [] => rfl
  | x :: xs => by simp only [List.map_cons, sortL, sortI, sortL_int xs, insD_int]
theorem insI_perm (x : Int) : ∀ l, (insI x l).Perm (x :: l)
  | [] => .refl _
  | y :: ys => by
    unfold insI
    split
    · exact ((insI_perm x ys).cons y).trans (List.Perm.swap _ _ _)
    · exact .refl _
theorem sortI_perm : ∀ l, (sortI l).Perm l
  | [] => .refl _
  | x :: xs => (insI_perm x _).trans ((sortI_perm xs).cons x)
theorem insI_asc (x : Int) : ∀ l, l.Pairwise (· ≤ ·) → (insI x l).Pairwise (· ≤ ·)
  | [], _ => by simp [insI]
  | y :: ys, h => by
    have ⟨h1, h2⟩ := List.pairwise_cons.mp h
    unfold insI
    split
    · rename_i g
      refine List.pairwise_cons.mpr ⟨fun b hb => ?_, insI_asc x ys h2⟩
      rcases List.mem_cons.mp ((insI_perm x ys).mem_iff.mp hb) with hb | hb
      · omega
      · exact h1 b hb
    · rename_i g
      refine List.pairwise_cons.mpr ⟨fun b hb => ?_, h⟩
      rcases List.mem_cons.mp hb with hb | hb
      · omega
      · have := h1 b hb; omega
theorem sortI_asc : ∀ l : List Int, (sortI l).Pairwise (· ≤ ·)
  | [] => List.Pairwise.nil
  | x :: xs => insI_asc x _ (sortI_asc xs)
theorem sortI_eq {l k : List Int} (h : l.Perm k) (hk : k.Pairwise (· ≤ ·)) : sortI l = k :=
  List.Perm.eq_of_pairwise (le := (· ≤ ·)) (fun a b _ _ h1 h2 => by omega) (sortI_asc l) hk ((sortI_perm l).trans h)
theorem rng_asc (m : Nat) : (rng m).Pairwise (· < ·) := by
  unfold rng
  rw [List.pairwise_map]
  exact List.Pairwise.imp (fun h => by omega) List.pairwise_lt_range
theorem perm_of_nodup {α : Type} [DecidableEq α] : ∀ {xs L : List α}, xs.Nodup → (∀ x ∈ xs, x ∈ L) → L.length ≤ xs.length → xs.Perm L
  | [], L, _, _, h => by rw [List.eq_nil_of_length_eq_zero (Nat.le_zero.mp h)]
  | x :: xs, L, h, hs, hl => by
    have hx := hs x (List.mem_cons_self ..)
    have ⟨h1, h2⟩ := List.nodup_cons.mp h
    have ih := perm_of_nodup (xs := xs) (L := L.erase x) h2 (fun y hy => by
      have : y ≠ x := fun e => h1 (e ▸ hy)
      exact (List.mem_erase_of_ne this).mpr (hs y (List.mem_cons_of_mem _ hy))) (by
      rw [List.length_erase_of_mem hx]
      simp only [List.length_cons] at hl
      omega)
    exact (ih.cons x).trans (List.perm_cons_erase hx).symm
theorem turn_perm {m : Nat} {r : List Int} (h : turn m r = true) : r.Perm (rng m) := by
  rw [turn_iff] at h
  obtain ⟨⟨h1, h2⟩, h3⟩ := h
  exact perm_of_nodup h3 (fun a ha => mem_rng.mpr (h2 a ha)) (by simp [h1, rng])
theorem sortI_turn {m : Nat} {r : List Int} : sortI r = rng m ↔ turn m r = true := by
  constructor
  · intro h
    have hp := (sortI_perm r).symm
    rw [h] at hp
    rw [turn_iff]
    refine ⟨⟨by rw [hp.length_eq]; simp [rng], fun a ha => mem_rng.mp (hp.mem_iff.mp ha)⟩, hp.nodup_iff.mpr (rng_nodup m)⟩
  · intro h
    exact sortI_eq (turn_perm h) ((rng_asc m).imp fun h => by omega)
/-- s, s + 1, .. -/
def rngF (s : Int) : Nat → List Int
  | 0 => []
  | k + 1 => s :: rngF (s + 1) k
theorem rngF_least : ∀ {k : Nat} {s : Int} {r : List Int}, r.length = k → r.Nodup → (∀ a ∈ r, s ≤ a) → r = rngF s k ∨ lx (rngF s k) r = true
  | 0, s, r, h, _, _ => .inl (by rw [List.eq_nil_of_length_eq_zero h]; rfl)
  | k + 1, s, [], h, _, _ => by simp at h
  | k + 1, s, a :: r, h, hn, hp => by
    have ⟨n1, n2⟩ := List.nodup_cons.mp hn
    have ha := hp a (List.mem_cons_self ..)
    by_cases e : s = a
    · subst e
      rcases rngF_least (k := k) (s := s + 1) (r := r) (by simpa using h) n2 (fun b hb => by
        have := hp b (List.mem_cons_of_mem _ hb)
        have : b ≠ s := fun z => n1 (z ▸ hb)
        omega) with h1 | h1
      · exact .inl (by rw [h1]; rfl)
      · exact .inr (by simp [rngF, lx, h1])
    · exact .inr (by simp only [rngF, lx, if_neg e, decide_eq_true_eq]; omega)
theorem rngF_rng (k : Nat) : ∀ (s : Nat), rngF s k = (List.range' s k).map fun (i : Nat) => (i : Int) := by
  induction k with
  | zero => intro s; rfl
  | succ k ih =>
    intro s
    have := ih (s + 1)
    simp only [rngF, List.range'_succ, List.map_cons]
    rw [← this]
    rfl
theorem rng_least {m : Nat} {r : List Int} (h : turn m r = true) : r = rng m ∨ lx (rng m) r = true := by
  have e : rng m = rngF 0 m := by
    have := rngF_rng m 0
    rw [← List.range_eq_range'] at this
    exact this.symm
  rw [turn_iff] at h
  rw [e]
  exact rngF_least h.1.1 h.2 fun a ha => (h.1.2 a ha).1
theorem Grp.head {m : Nat} {g : List (List Int)} (h : Grp m g) : ∃ rest, g = rng m :: rest := by
  cases g with
  | nil => exact absurd h.still (by simp)
  | cons a rest =>
    refine ⟨rest, ?_⟩
    rcases List.mem_cons.mp h.still with e | e
    · rw [e]
    · have h1 := (List.pairwise_cons.mp h.asc).1 _ e
      rcases rng_least (h.rows a (List.mem_cons_self ..)) with z | z
      · rw [z]
      · have := lx_tr _ _ _ h1 z
        rw [lx_irr] at this
        cases this
theorem asc_iff {g : List (List Int)} : asc g = true ↔ Asc g := by
  unfold asc Asc
  induction g with
  | nil => simp
  | cons a g ih =>
    cases g with
    | nil => simp
    | cons b g =>
      simp only [List.tail_cons, List.zip_cons_cons, List.all_cons, lt_R] at ih ⊢
      rw [Bool.and_eq_true, List.pairwise_cons]
      have ih' : (((b :: g).zip g).all fun p => lx p.1 p.2) = true ↔ _ := ih
      rw [ih']
      constructor
      · rintro ⟨h1, h2⟩
        refine ⟨fun c hc => ?_, h2⟩
        rcases List.mem_cons.mp hc with rfl | hc
        · exact h1
        · exact lx_tr _ _ _ h1 ((List.pairwise_cons.mp h2).1 c hc)
      · rintro ⟨h1, h2⟩
        exact ⟨h1 b (List.mem_cons_self ..), h2⟩
theorem closed_iff {g : List (List Int)} : closed g = true ↔ ∀ a ∈ g, ∀ b ∈ g, tr a b ∈ g := by
  unfold closed
  simp
theorem gf_iff {m : Nat} {g : List (List Int)} : gf m g = true ↔ Grp m g ∧ g.length ≤ 120 := by
  unfold gf
  simp only [Bool.and_eq_true, List.all_eq_true, decide_eq_true_eq, asc_iff, closed_iff]
  constructor
  · rintro ⟨⟨⟨⟨⟨h1, h2⟩, h3⟩, h4⟩, h5⟩, h6⟩
    exact ⟨⟨h3, h5, List.mem_of_mem_head? h4, h6⟩, h2⟩
  · rintro ⟨h, h2⟩
    obtain ⟨rest, e⟩ := h.head
    exact ⟨⟨⟨⟨⟨by rw [e]; simp, h2⟩, h.rows⟩, by rw [e]; rfl⟩, h.asc⟩, h.mul⟩
end NW
set_option autoImplicit false
set_option linter.all false
set_option maxRecDepth 100000
/-! NwWalk: comprehensions and loops, as they are mostly met. -/
namespace NW
section
variable {call : Call} {W : Nat}
@[simp] theorem at_v (i : Nat) (d : D) (ρ : List Slot) : assignTg (.v i) d ρ = if i < ρ.length then some (ρ.set i (.val d)) else none := by simp [assignTg]
@[simp] theorem at_t (ts : List Tg) (ds : List D) (ρ : List Slot) : assignTg (.t ts) (.tup ds) ρ = assignTgs ts ds ρ := by simp [assignTg]
@[simp] theorem at_nil (ρ : List Slot) : assignTgs [] [] ρ = some ρ := by simp [assignTgs]
@[simp] theorem at_cons (t : Tg) (ts : List Tg) (d : D) (ds : List D) (ρ : List Slot) : assignTgs (t :: ts) (d :: ds) ρ = (assignTg t d ρ).bind (assignTgs ts ds) := by simp [assignTgs]
theorem pw_set {ρ : List Slot} {i : Nat} {sl : Slot} : ∀ {vs : List Nat}, i ∈ vs → wipeS (ρ.set i sl) vs = wipeS ρ vs
  | [], h => by cases h
  | v :: vs, h => by
    simp only [wipeS]
    by_cases hv : i ∈ vs
    · rw [pw_set hv]
    · have hi : i = v := (List.mem_cons.mp h).resolve_right hv
      subst hi
      apply List.ext_getElem?
      intro j
      by_cases hj : i = j
      · subst hj
        by_cases hl : i < ρ.length
        · rw [List.getElem?_set_self (by rw [pw_length]; simpa using hl), List.getElem?_set_self (by rw [pw_length]; exact hl)]
        · rw [List.getElem?_eq_none (by simp [pw_length]; omega), List.getElem?_eq_none (by simp [pw_length]; omega)]
      · rw [List.getElem?_set_ne hj, List.getElem?_set_ne hj]
        by_cases hjv : j ∈ vs
        · have : ∀ ρ : List Slot, ρ.length = ρ.length → (wipeS ρ vs)[j]? = if j < ρ.length then some .no else none := by
            intro ρ _
            clear hj hv h
            induction vs with
            | nil => cases hjv
            | cons u vs ih =>
              simp only [wipeS]
              by_cases hu : u = j
              · subst hu
                by_cases hl : u < ρ.length
                · rw [List.getElem?_set_self (by rw [pw_length]; exact hl), if_pos hl]
                · rw [List.getElem?_eq_none (by simp [pw_length]; omega), if_neg hl]
              · rw [List.getElem?_set_ne hu]
                exact ih ((List.mem_cons.mp hjv).resolve_left (Ne.symm hu))
          rw [this _ rfl, this _ rfl, List.length_set]
        · rw [pw_out hjv, pw_out hjv, List.getElem?_set_ne hj]
theorem pw_wipe (ρ : List Slot) : ∀ vs : List Nat, wipeS (wipeS ρ vs) vs = wipeS ρ vs
  | [] => rfl
  | v :: vs => by
    have main : ∀ us : List Nat, (∀ u ∈ vs, u ∈ us) → v ∈ us → True := fun _ _ _ => trivial
    apply List.ext_getElem?
    intro j
    have key : ∀ (ρ : List Slot) (us : List Nat), j ∈ us → (wipeS ρ us)[j]? = if j < ρ.length then some .no else none := by
      intro ρ us h
      induction us with
      | nil => cases h
      | cons u us ih =>
        simp only [wipeS]
        by_cases hu : u = j
        · subst hu
          by_cases hl : u < ρ.length
          · rw [List.getElem?_set_self (by rw [pw_length]; exact hl), if_pos hl]
          · rw [List.getElem?_eq_none (by simp [pw_length]; omega), if_neg hl]
        · rw [List.getElem?_set_ne hu]
          exact ih ((List.mem_cons.mp h).resolve_left (Ne.symm hu))
    by_cases hj : j ∈ v :: vs
    · rw [key _ _ hj, key _ _ hj, pw_length]
    · rw [pw_out hj]
theorem pw_sets {ρ : List Slot} {i : Nat} {sl : Slot} {vs : List Nat} (h : i ∈ vs) : wipeS ((wipeS ρ vs).set i sl) vs = wipeS ρ vs := by
  rw [pw_set h, pw_wipe]
/-- [e for v in it] -/
theorem lc_v {α : Type} {vs : List Nat} {e : E} {i : Nat} {it : I} {ρ : List Slot} {F : List Cell} (as : List α) (h g : α → D) (hi : evI call it ⟨ρ, F⟩ = .ok (as.map h, ⟨ρ, F⟩)) (ho : hasOwn ρ vs = false) (hm : i ∈ vs) (hr : i < ρ.length)
    (hb : ∀ a ∈ as, ev call e ⟨(wipeS ρ vs).set i (.val (h a)), F⟩ = .ok (g a, ⟨(wipeS ρ vs).set i (.val (h a)), F⟩)) (hl : as.length ≤ line) : ev call (.lc vs e (.v i) it []) ⟨ρ, F⟩ = .ok (.lst (as.map g), ⟨ρ, F⟩) :=
  lc_mapf hi ho (fun a ha => ⟨(wipeS ρ vs).set i (.val (h a)), by simp [pw_length, hr], pw_sets hm, hb a ha⟩) hl
theorem lc_filt {α : Type} {vs : List Nat} {e : E} {tg : Tg} {it : I} {ifs : List E} {s : St} (as : List α) (p : α → Bool) (h g : α → D) (hi : evI call it s = .ok (as.map h, s)) (ho : hasOwn s.ρ vs = false)
    (hb : ∀ a ∈ as, ∃ ρ bs, assignTg tg (h a) (wipeS s.ρ vs) = some ρ ∧ wipeS ρ vs = wipeS s.ρ vs ∧ evs call ifs { s with ρ := ρ } = .ok (bs, { s with ρ := ρ }) ∧ boolOf bs = some (p a) ∧ (p a = true → ev call e { s with ρ := ρ } = .ok (g a, { s with ρ := ρ })))
    (hl : as.length ≤ line) : ev call (.lc vs e tg it ifs) s = .ok (.lst ((as.filter p).map g), s) := by
  have main : ∀ t : St, wipeS t.ρ vs = wipeS s.ρ vs ∧ t.F = s.F → ∀ bs : List α, (∀ a ∈ bs, a ∈ as) → ∃ t', (wipeS t'.ρ vs = wipeS s.ρ vs ∧ t'.F = s.F) ∧ lcLoop (lcTurn vs tg (evs call ifs) (ev call e)) (bs.map h) t = .ok ((bs.filter p).map g, t') := by
    intro t ht bs
    induction bs generalizing t with
    | nil => exact fun _ => ⟨t, ht, rfl⟩
    | cons b bs ih =>
      intro hm
      obtain ⟨ρ, bl, a1, a2, a3, a4, a5⟩ := hb b (hm b List.mem_cons_self)
      have et : ({ t with ρ := ρ } : St) = { s with ρ := ρ } := by
        obtain ⟨_, t2⟩ := ht
        cases t; cases s; simp only at t2; simp [t2]
      obtain ⟨t', h1, h2⟩ := ih { s with ρ := ρ } ⟨a2, rfl⟩ fun a ha => hm a (List.mem_cons_of_mem _ ha)
      refine ⟨t', h1, ?_⟩
      simp only [List.map_cons, lcLoop]
      have e1 : lcTurn vs tg (evs call ifs) (ev call e) (h b) t = .ok (if p b then some (g b) else none, { s with ρ := ρ }) := by
        unfold lcTurn
        rw [ht.1, a1, Res.of_some, Res.bind_ok, et, bind_ok _ a3]
        simp only [guardB, a4]
        cases hp : p b with
        | true => simp only [a5 hp, Res.bind_ok, if_true]
        | false => simp
      rw [e1, Res.bind_ok]
      cases hp : p b <;> simp [h2, List.filter_cons, hp]
  unfold ev
  rw [bind_ok _ hi]
  dsimp only
  rw [if_neg (by rw [ho]; exact Bool.false_ne_true)]
  obtain ⟨s', ⟨h1, h2⟩, e1⟩ := main s ⟨rfl, rfl⟩ as fun _ h => h
  rw [bind_ok _ e1]
  dsimp only
  rw [if_pos (by rw [List.length_map]; exact Nat.le_trans (List.length_filter_le _ _) hl), pb_same h1]
  cases s'
  cases s
  simp only at h2
  simp [h2]
/-- [e for v in it if c] -/
theorem lc_vf {α : Type} {vs : List Nat} {e c : E} {i : Nat} {it : I} {ρ : List Slot} {F : List Cell} (as : List α) (p : α → Bool) (h g : α → D) (hi : evI call it ⟨ρ, F⟩ = .ok (as.map h, ⟨ρ, F⟩)) (ho : hasOwn ρ vs = false) (hm : i ∈ vs) (hr : i < ρ.length)
    (hc : ∀ a ∈ as, ev call c ⟨(wipeS ρ vs).set i (.val (h a)), F⟩ = .ok (.bl (p a), ⟨(wipeS ρ vs).set i (.val (h a)), F⟩))
    (hb : ∀ a ∈ as, p a = true → ev call e ⟨(wipeS ρ vs).set i (.val (h a)), F⟩ = .ok (g a, ⟨(wipeS ρ vs).set i (.val (h a)), F⟩)) (hl : as.length ≤ line) : ev call (.lc vs e (.v i) it [c]) ⟨ρ, F⟩ = .ok (.lst ((as.filter p).map g), ⟨ρ, F⟩) :=
  lc_filt as p h g hi ho (fun a ha => ⟨(wipeS ρ vs).set i (.val (h a)), [.bl (p a)], by simp [pw_length, hr], pw_sets hm, by simp [hc a ha], rfl, hb a ha⟩) hl
/-- [e for v in it], where e may change the cells -/
theorem lc_inv {vs : List Nat} {e : E} {i : Nat} {it : I} {ρ : List Slot} {F F1 : List Cell} (xs : List D) (I : Nat → List D → List Cell → Prop) (hi : evI call it ⟨ρ, F⟩ = .ok (xs, ⟨ρ, F1⟩)) (ho : hasOwn ρ vs = false) (hm : i ∈ vs) (hr : i < ρ.length) (hl : xs.length ≤ line) (h0 : I 0 [] F1)
    (step : ∀ j x acc F, xs[j]? = some x → I j acc F → ∃ y F', ev call e ⟨(wipeS ρ vs).set i (.val x), F⟩ = .ok (y, ⟨(wipeS ρ vs).set i (.val x), F'⟩) ∧ I (j + 1) (acc ++ [y]) F') :
    ∃ ys F', ev call (.lc vs e (.v i) it []) ⟨ρ, F⟩ = .ok (.lst ys, ⟨ρ, F'⟩) ∧ ys.length = xs.length ∧ I xs.length ys F' := by
  obtain ⟨⟨ys, s'⟩, e1, h1, h2, h3⟩ := lcLoop_inv (f := lcTurn vs (.v i) (evs call []) (ev call e)) (xs := xs) (fun j acc t => wipeS t.ρ vs = wipeS ρ vs ∧ acc.length = j ∧ I j acc t.F) (fun j x acc t hx ⟨t1, t2, t3⟩ => by
    obtain ⟨y, F', e2, h⟩ := step j x acc t.F hx t3
    refine ⟨(some y, ⟨(wipeS ρ vs).set i (.val x), F'⟩), ?_, pw_sets hm, by simp [t2], h⟩
    unfold lcTurn
    have a1 : assignTg (.v i) x (wipeS t.ρ vs) = some ((wipeS ρ vs).set i (.val x)) := by rw [t1]; simp [pw_length, hr]
    rw [a1, Res.of_some, Res.bind_ok]
    simp [guardB, boolOf, e2]) ⟨ρ, F1⟩ ⟨rfl, rfl, h0⟩
  refine ⟨ys, s'.F, ?_, h2, h3⟩
  unfold ev
  rw [bind_ok _ hi]
  dsimp only
  rw [if_neg (by rw [ho]; exact Bool.false_ne_true), bind_ok _ e1]
  dsimp only
  rw [if_pos (by have : ys.length = xs.length := h2; omega), pb_same h1]
/-- [e for v in it if c], where both may change the cells -/
theorem lc_invf {vs : List Nat} {e c : E} {i : Nat} {it : I} {ρ : List Slot} {F F1 : List Cell} (xs : List D) (I : Nat → List D → List Cell → Prop) (hi : evI call it ⟨ρ, F⟩ = .ok (xs, ⟨ρ, F1⟩)) (ho : hasOwn ρ vs = false) (hm : i ∈ vs) (hr : i < ρ.length) (hl : xs.length ≤ line) (h0 : I 0 [] F1)
    (step : ∀ j x acc F, xs[j]? = some x → I j acc F → ∃ b F', ev call c ⟨(wipeS ρ vs).set i (.val x), F⟩ = .ok (.bl b, ⟨(wipeS ρ vs).set i (.val x), F'⟩) ∧ (b = false → I (j + 1) acc F') ∧ (b = true → ∃ y F'', ev call e ⟨(wipeS ρ vs).set i (.val x), F'⟩ = .ok (y, ⟨(wipeS ρ vs).set i (.val x), F''⟩) ∧ I (j + 1) (acc ++ [y]) F'')) :
    ∃ ys F', ev call (.lc vs e (.v i) it [c]) ⟨ρ, F⟩ = .ok (.lst ys, ⟨ρ, F'⟩) ∧ ys.length ≤ xs.length ∧ I xs.length ys F' := by
  obtain ⟨⟨ys, s'⟩, e1, h1, h2, h3⟩ := lcLoop_inv (f := lcTurn vs (.v i) (evs call [c]) (ev call e)) (xs := xs) (fun j acc t => wipeS t.ρ vs = wipeS ρ vs ∧ acc.length ≤ j ∧ I j acc t.F) (fun j x acc t hx ⟨t1, t2, t3⟩ => by
    obtain ⟨b, F', e2, hf, ht⟩ := step j x acc t.F hx t3
    have a1 : assignTg (.v i) x (wipeS t.ρ vs) = some ((wipeS ρ vs).set i (.val x)) := by rw [t1]; simp [pw_length, hr]
    cases b with
    | false =>
      refine ⟨(none, ⟨(wipeS ρ vs).set i (.val x), F'⟩), ?_, pw_sets hm, by simp; omega, by simpa using hf rfl⟩
      unfold lcTurn
      rw [a1, Res.of_some, Res.bind_ok]
      simp [guardB, boolOf, e2]
    | true =>
      obtain ⟨y, F'', e3, h⟩ := ht rfl
      refine ⟨(some y, ⟨(wipeS ρ vs).set i (.val x), F''⟩), ?_, pw_sets hm, by simp; omega, h⟩
      unfold lcTurn
      rw [a1, Res.of_some, Res.bind_ok]
      simp [guardB, boolOf, e2, e3]) ⟨ρ, F1⟩ ⟨rfl, Nat.le_refl _, h0⟩
  refine ⟨ys, s'.F, ?_, h2, h3⟩
  unfold ev
  rw [bind_ok _ hi]
  dsimp only
  rw [if_neg (by rw [ho]; exact Bool.false_ne_true), bind_ok _ e1]
  dsimp only
  rw [if_pos (by have : ys.length ≤ xs.length := h2; omega), pb_same h1]
theorem perm_unmap {α β : Type} (f : α → β) (u : β → α) (hu : ∀ a, u (f a) = a) {ys : List β} {g : List α} (hp : ys.Perm (g.map f)) : ∃ l : List α, ys = l.map f ∧ l.Perm g := by
  refine ⟨ys.map u, ?_, ?_⟩
  · rw [List.map_map]
    have : ys.map (f ∘ u) = ys.map id := List.map_congr_left fun y hy => by
      obtain ⟨a, _, rfl⟩ := List.mem_map.mp (hp.mem_iff.mp hy)
      simp [hu]
    rw [this, List.map_id]
  · have := hp.map u
    rw [List.map_map] at this
    have e : g.map (u ∘ f) = g := List.map_id'' hu g
    rwa [e] at this
theorem cut_take {α : Type} (xs : List α) (i : Nat) : cutD xs none (some (i : Int)) = xs.take i := by
  unfold cutD endD
  dsimp only
  rw [if_neg (by omega)]
  simp
theorem cut_drop {α : Type} (xs : List α) (i : Nat) : cutD xs (some (i : Int)) none = xs.drop i := by
  unfold cutD endD
  dsimp only
  rw [if_neg (by omega)]
  simp only [Int.toNat_natCast]
  by_cases h : i ≤ xs.length
  · rw [Nat.min_eq_left h]
    apply List.take_of_length_le
    simp
  · rw [Nat.min_eq_right (by omega), List.drop_of_length_le (Nat.le_refl _), List.drop_of_length_le (by omega)]
    simp
theorem cut_drop1 {α : Type} (xs : List α) (i : Nat) : cutD xs (some ((i : Int) + 1)) none = xs.drop (i + 1) := cut_drop xs (i + 1)
/-- for v in it: a loop that ends of itself -/
theorem for_v {i : Nat} {it : I} {b : List S} {ρ : List Slot} {F F1 : List Cell} (xs : List D) (I : Nat → List Slot → List Cell → Prop) (hi : evI call it ⟨ρ, F⟩ = .ok (xs, ⟨ρ, F1⟩)) (h0 : I 0 ρ F1)
    (step : ∀ j x ρ F, xs[j]? = some x → I j ρ F → i < ρ.length ∧ ∃ fl ρ' F', runs call W b ⟨ρ.set i (.val x), F⟩ = .ok (fl, ⟨ρ', F'⟩) ∧ (fl = .nx ∨ fl = .ct) ∧ I (j + 1) ρ' F') :
    ∃ ρ' F', run call W (.for (.v i) it b) ⟨ρ, F⟩ = .ok (.nx, ⟨ρ', F'⟩) ∧ I xs.length ρ' F' := by
  obtain ⟨r, e, ρ', F', h1, h2⟩ := for_inv (f := fun x s => (Res.of (assignTg (.v i) x s.ρ)).bind fun ρ => runs call W b { s with ρ := ρ }) (xs := xs) (Q := fun r => ∃ ρ' F', r = (.nx, ⟨ρ', F'⟩) ∧ I xs.length ρ' F') (fun j s => I j s.ρ s.F)
    (fun j x s hx h => by
      obtain ⟨hl, fl, ρ', F', e, hf, h'⟩ := step j x s.ρ s.F hx h
      refine ⟨(fl, ⟨ρ', F'⟩), ?_, .inl ⟨hf, h'⟩⟩
      simp [hl, e]) (fun s h => ⟨s.ρ, s.F, rfl, h⟩) ⟨ρ, F1⟩ h0
  subst h1
  exact ⟨ρ', F', (run_for hi).trans e, h2⟩
end
end NW
set_option autoImplicit false
set_option linter.all false
set_option maxRecDepth 100000
/-! NwSJ: drawn groups and kinds. -/
namespace NW
open PySem
variable {Φ : Nat → Option Code} {W : Nat} [Lib Φ] [Drw Φ]
theorem rngD_len (n : Nat) : (rngD 0 n).length = n := by unfold rngD; simp
theorem rngD_get {n j : Nat} {x : D} (h : (rngD 0 n)[j]? = some x) : j < n ∧ x = .int j := by
  have hj := (List.getElem?_eq_some_iff.mp h).1
  rw [rngD_len] at hj
  simp [rngD, hj] at h
  exact ⟨hj, h.symm⟩
theorem tns_ne (m : Nat) : tns m ≠ [] := fun h => by
  have := mem_tns.mpr (turn_rng m)
  rw [h] at this
  cases this
theorem group (k : Nat) {F : List Cell} {n B : Nat} (h : Feed F n B) (hB : B ≤ 10 ^ 9 - 10) {m : Nat} (hm : m ≤ 6) : ∃ g F', callN Φ W (k + 3) N._law_group [.mref n, .int m] F = .ok (RR g) false F' ∧ Grp m g ∧ Feed F' n (B + 3) := by
  have e1 := turnings_eq (Φ := Φ) (W := W) k m F (by omega) (by omega)
  obtain ⟨x, hx, F1, e2, hF1⟩ := one (Φ := Φ) (W := W) k h (by omega) (xs := [.int 0, .int 0, .int 1, .int 1, .int 2]) (by simp) (by decide) (.inl rfl)
  obtain ⟨c, rfl, hc⟩ : ∃ c : Nat, x = .int c ∧ c ≤ 2 := by
    simp at hx
    rcases hx with rfl | rfl | rfl
    · exact ⟨0, rfl, by omega⟩
    · exact ⟨1, rfl, by omega⟩
    · exact ⟨2, rfl, by omega⟩
  have hr : rngOk 0 (c : Int) = true := by unfold rngOk line; simp; omega
  have hlen : (tns (m : Int)).length ≤ 720 := tns_len6 m hm
  obtain ⟨ys, F2, e3, hl, gens, rfl, hg, hF2⟩ := lc_inv (call := callN Φ W (k + 2)) (vs := [3]) (e := .call N._law_one [.var 0, .var 2]) (i := 3) (it := .rng (.call N._law_one [.var 0, .lst [.con (.int 0), .con (.int 0), .con (.int 1), .con (.int 1), .con (.int 2)]]))
    (ρ := [.val (.mref n), .val (.int m), .val (.lst ((tns m).map R)), .no]) (F := F) (F1 := F1) (rngD 0 c) (fun j acc F => ∃ gens : List (List Int), acc = gens.map R ∧ (∀ g ∈ gens, turn m g = true) ∧ Feed F n (B + 1 + j)) (by simp [evI, callR, e2, hr]) (by simp [hasOwn, ownOf]) (by simp) (by simp) (by rw [rngD_len]; unfold line; omega)
    ⟨[], rfl, by simp, hF1⟩ (fun j x acc F hx ⟨gens, ea, hg, hF⟩ => by
      have ⟨hj, _⟩ := rngD_get hx
      obtain ⟨y, hy, F', e4, hF'⟩ := one (Φ := Φ) (W := W) k hF (by omega) (xs := (tns m).map R) (by simp [tns_ne]) (by unfold line; simp; omega) (.inl rfl)
      obtain ⟨r, hr, rfl⟩ := List.mem_map.mp hy
      refine ⟨R r, F', by simp [wipeS, callR, e4], gens ++ [r], by simp [ea], fun g hg' => ?_, hF'⟩
      rcases List.mem_append.mp hg' with h | h
      · exact hg g h
      · rw [List.mem_singleton.mp h]; exact mem_tns.mp hr)
  rw [rngD_len] at hl hF2
  obtain ⟨f', hd, e5⟩ := closed_eq (Φ := Φ) (W := W) k (m := m) (gens := gens) (F := F2) (fun g hg' => (turn_iff.mp (hg g hg')).1) (by omega) (by simp at hl; omega)
  refine ⟨sortR f', F2, ?_, done_grp hm hg hd, hF2.mono (by omega)⟩
  rw [call_eq (c := c__law_group) (lib_has rfl) _ _ rfl]
  simp [c__law_group, enter, callR, e1, e3, e5, sortL_map, RR]
/-- a drawn kind -/
def KOk (lo hi : Nat) (k : Kind) : Prop := ∃ m : Nat, k.1 = m ∧ lo ≤ m ∧ m ≤ hi ∧ Grp m k.2
theorem kinds (k : Nat) {F : List Cell} {n B : Nat} (h : Feed F n B) {many most least : Nat} (hB : B + 4 * many ≤ 10 ^ 9 - 10) (hl : least ≤ most) (hm : most ≤ 6) (hmany : many ≤ 1000) :
    ∃ ks : List Kind, ∃ F', callN Φ W (k + 4) N._law_kinds [.mref n, .int many, .int most, .int least] F = .ok (KS ks) false F' ∧ ks.length = many ∧ (∀ q ∈ ks, KOk least most q) ∧ Feed F' n (B + 4 * many) := by
  have hr : rngOk 0 (many : Int) = true := by unfold rngOk line; simp; omega
  obtain ⟨ρ', F', e, s5, s6, ks, rfl, h1, h2, h3⟩ := for_v (call := callN Φ W (k + 3)) (W := W) (i := 5) (it := .rng (.var 1)) (b := [.set 6 (.bin .add (.var 3) (.call N._law_draw [.var 0, .bin .sub (.bin .add (.var 2) (.con (.int 1))) (.var 3)])), .ex (.app 4 (.tup [.var 6, .call N._law_group [.var 0, .var 6]]))])
    (ρ := [.val (.mref n), .val (.int many), .val (.int most), .val (.int least), .own (.lst []), .no, .no]) (F := F) (F1 := F) (rngD 0 many)
    (fun j ρ F => ∃ s5 s6, ∃ ks : List Kind, ρ = [.val (.mref n), .val (.int many), .val (.int most), .val (.int least), .own (.lst (ks.map KD)), s5, s6] ∧ ks.length = j ∧ (∀ q ∈ ks, KOk least most q) ∧ Feed F n (B + 4 * j)) (by simp [evI, hr]) ⟨.no, .no, [], rfl, rfl, by simp, h⟩
    (fun j x ρ F hx ⟨s5, s6, ks, eρ, h1, h2, h3⟩ => by
      have ⟨hj, ex⟩ := rngD_get hx
      obtain ⟨i, F1, e1, i0, i1, hF1⟩ := draw (Φ := Φ) (W := W) (k + 2) h3 (by omega) (m := (most : Int) + 1 - least) (by omega) (by omega)
      obtain ⟨m, hm'⟩ : ∃ m : Nat, (least : Int) + i = m := ⟨least + i.toNat, by omega⟩
      obtain ⟨g, F2, e2, hg, hF2⟩ := group (Φ := Φ) (W := W) k hF1 (by omega) (m := m) (by omega)
      have hll : ks.length < line := by unfold line; omega
      subst eρ
      refine ⟨by simp, .nx, [.val (.mref n), .val (.int many), .val (.int most), .val (.int least), .own (.lst (ks.map KD ++ [KD ((m : Int), g)])), .val x, .val (.int m)], F2, ?_, .inl rfl, .val x, .val (.int m), ks ++ [((m : Int), g)], by simp, by simp [h1], fun q hq => ?_, hF2.mono (by omega)⟩
      · simp [callR, e1, hm', e2, ownL, ownOf, hll, KD]
      · rcases List.mem_append.mp hq with hq | hq
        · exact h2 q hq
        · rw [List.mem_singleton.mp hq]; exact ⟨m, rfl, by omega, by omega, hg⟩)
  rw [rngD_len] at h1 h3
  refine ⟨ks, F', ?_, h1, h2, h3⟩
  rw [call_eq (c := c__law_kinds) (lib_has rfl) _ _ rfl]
  simp [c__law_kinds, enter, cellOf, e, heldOf, Cell.d, KS]
end NW
set_option autoImplicit false
set_option linter.all false
set_option maxRecDepth 100000
/-! NwSK: a law's feed, and its turns. -/
namespace NW
open PySem
variable {Φ : Nat → Option Code} {W : Nat}
theorem m_right {i j : Int} (h1 : -(2 ^ 64) < j) (h2 : j < 2 ^ 64) : mulOk i j = true := by
  unfold mulOk
  rw [decide_eq_true h1, decide_eq_true h2]
  simp
theorem intsOf_map (xs : List Int) : intsOf (xs.map D.int) = some xs := by
  induction xs with
  | nil => rfl
  | cons x xs ih => simp [intsOf, ih]
theorem sub_scr {ns : List Int} {k : Nat} (h : k < ns.length) (F : List Cell) : subD F (.scr ns) (.int k) = some (.int (ns.getD k 0)) := by
  show (atD ns k).map D.int = _
  rw [atD_nn (by omega) (by omega)]
  simp [List.getD_eq_getElem?_getD, h]
theorem feed_go [Fee Φ] (n : Nat) (ns : List Int) {k : Nat} (hk : k ≤ 1000) (F : List Cell) : ∃ a b : Int, callN Φ W (n + 1) N._law_feed [.scr ns, .int k] F = .ok (.lst [.int a, .int b, .int 0]) true F ∧ 0 ≤ b ∧ b < 10 ^ 41 := by
  obtain ⟨a, b, m, c, e, g, ha, hb, hm, hc, he, hf⟩ := Fee.exF (Φ := Φ)
  generalize hs : (cutD ns none (some m)).sum = s
  have p18 : binD .pow (.int 10) (.int 18) = some (.int (10 ^ 18)) := by rw [d_pow (by decide) (by decide) (by decide)]; rfl
  have p40 : binD .pow (.int 10) (.int 40) = some (.int (10 ^ 40)) := by rw [d_pow (by decide) (by decide) (by decide)]; rfl
  have m1 : binD .mul (.int a) (.int k) = some (.int (a * k)) := m_ok (m_left (by omega) (by omega))
  have m2 : binD .mul (.int b) (.int s) = some (.int (b * s)) := m_ok (m_left (by omega) (by omega))
  have m4 : binD .mul (.int e) (.int k) = some (.int (e * k)) := m_ok (m_left (by omega) (by omega))
  have m3 : ∀ x, binD .mul (.int x) (.int c) = some (.int (x * c)) := fun x => m_ok (m_right (by omega) (by omega))
  have d1 : ∀ x, binD .mod (.int x) (.int 10000000000000000000000000000000000000121) = some (.int (x % 10000000000000000000000000000000000000121)) := fun x => d_mod (by decide)
  have bnd : ∀ x : Int, 0 ≤ x % (10 ^ 40 + 121) ∧ x % (10 ^ 40 + 121) < 10 ^ 41 := fun x =>
    ⟨Int.emod_nonneg _ (by decide), Int.lt_trans (Int.emod_lt_of_pos _ (by decide)) (by decide)⟩
  rw [call_eq hf _ _ rfl]
  by_cases h : k < ns.length
  · have h' : (k : Int) < ns.length := by omega
    refine ⟨if ns.getD k 0 - 10 ^ 18 > 0 then ns.getD k 0 - 10 ^ 18 else 0, (ns.getD k 0 * c + e * k + g) % (10 ^ 40 + 121), ?_, (bnd _).1, (bnd _).2⟩
    simp [c_feed, enter, optInt, intsOf_map, hs, m1, m2, h', sub_scr h, p18, m3, m4, p40, d1]
  · have h' : ¬ (k : Int) < ns.length := by omega
    refine ⟨if a * k + b * s - 10 ^ 18 > 0 then a * k + b * s - 10 ^ 18 else 0, ((a * k + b * s) * c + e * k + g) % (10 ^ 40 + 121), ?_, (bnd _).1, (bnd _).2⟩
    simp [c_feed, enter, optInt, intsOf_map, hs, m1, m2, h', p18, m3, m4, p40, d1]
/-- a law's turns: cell by cell -/
def c_turns (f : Nat) (M : Int) : Code := ⟨1, 2, [.for (.v 1) (.rng (.bi .max2 [.con (.int 1), .bi .min2 [.bi .len [.var 0], .con (.int M)]])) [.ife (.not (.call f [.cell (.callo N._law_feed [.var 0, .var 1])])) [.ret (.con (.bl false))] []], .ret (.con (.bl true))]⟩
theorem turns_go [Fee Φ] {f g k : Nat} {M : Nat} (hM : 1 ≤ M ∧ M ≤ 10) (hg : Φ g = some (c_turns f M)) (right : ∀ F n, Feed F n 0 → ∃ F', callN Φ W (k + 1) f [.mref n] F = .ok (.bl true) false F') (ns : List Int) : ∃ F', callN Φ W (k + 2) g [.scr ns] [] = .ok (.bl true) false F' := by
  rw [call_eq hg _ _ rfl]
  obtain ⟨T, hT, hT2⟩ : ∃ T : Nat, (if (if (M : Int) < ns.length then (M : Int) else ns.length) > 1 then (if (M : Int) < ns.length then (M : Int) else ns.length) else 1) = T ∧ T ≤ 10 := by
    refine ⟨(if (if (M : Int) < ns.length then (M : Int) else ns.length) > 1 then (if (M : Int) < ns.length then (M : Int) else ns.length) else 1).toNat, ?_, ?_⟩ <;> (split <;> split <;> omega)
  have hr : rngOk 0 (T : Int) = true := by unfold rngOk line; simp; omega
  obtain ⟨ρ', F', e, s1, rfl⟩ := for_v (call := callN Φ W (k + 1)) (W := W) (i := 1) (it := .rng (.bi .max2 [.con (.int 1), .bi .min2 [.bi .len [.var 0], .con (.int M)]])) (b := [.ife (.not (.call f [.cell (.callo N._law_feed [.var 0, .var 1])])) [.ret (.con (.bl false))] []])
    (ρ := [.val (.scr ns), .no]) (F := []) (F1 := []) (rngD 0 T) (fun j ρ F => ∃ s1, ρ = [.val (.scr ns), s1]) (by
      simp only [gt_iff_lt, Int.ofNat_lt] at hT
      simp [evI, hT, hr]) ⟨.no, rfl⟩ (fun j x ρ F hx ⟨s1, eρ⟩ => by
      have ⟨hj, ex⟩ := rngD_get hx
      obtain ⟨a, b, e1, b0, b1⟩ := feed_go (Φ := Φ) (W := W) k ns (k := j) (by omega) F
      obtain ⟨F', e2⟩ := right (F ++ [.lst [.int a, .int b, .int 0]]) F.length ⟨a, b, 0, by simp, b0, b1, by omega, by omega⟩
      subst eρ ex
      refine ⟨by simp, .nx, [.val (.scr ns), .val (.int j)], F', ?_, .inl rfl, _, rfl⟩
      simp [callO, callR, e1, cellOf, e2])
  refine ⟨F', ?_⟩
  simp [c_turns, enter, e]
end NW
set_option autoImplicit false
set_option linter.all false
set_option maxRecDepth 100000
/-! NwT1: the least row of a group's. -/
namespace NW
open PySem
variable {Φ : Nat → Option Code} {W : Nat} [Lib Φ]
def minR : List (List Int) → List Int
  | [] => []
  | [x] => x
  | x :: y :: xs => if lx (minR (y :: xs)) x then minR (y :: xs) else x
theorem minL_map : ∀ (x : List Int) (xs : List (List Int)), minL ((x :: xs).map R) = some (R (minR (x :: xs)))
  | x, [] => rfl
  | x, y :: xs => by
    have ih := minL_map y xs
    simp only [List.map_cons] at ih ⊢
    unfold minL
    rw [ih]
    simp only [Option.map_some, lt_R]
    conv => rhs; unfold minR
    split <;> rfl
theorem minR_mem : ∀ (x : List Int) (xs : List (List Int)), minR (x :: xs) ∈ x :: xs
  | x, [] => by simp [minR]
  | x, y :: xs => by
    have ih := minR_mem y xs
    unfold minR
    split
    · exact List.mem_cons_of_mem _ ih
    · exact List.mem_cons_self
theorem minR_le : ∀ (x : List Int) (xs : List (List Int)), ∀ y ∈ x :: xs, lx y (minR (x :: xs)) = false
  | x, [], y, h => by
    rw [List.mem_singleton.mp h]; exact lx_irr _
  | x, y :: xs, z, h => by
    have ih := minR_le y xs
    unfold minR
    split
    · rename_i hl
      rcases List.mem_cons.mp h with rfl | h
      · cases e : lx z (minR (y :: xs)) with
        | false => rfl
        | true => have := lx_tr _ _ _ e hl; rw [lx_irr] at this; cases this
      · exact ih z h
    · rename_i hl
      rcases List.mem_cons.mp h with rfl | h
      · exact lx_irr _
      · cases e : lx z x with
        | false => rfl
        | true =>
          have h1 := ih z h
          by_cases he : z = minR (y :: xs)
          · rw [← he, e] at hl; exact absurd rfl hl
          · have := lx_tr _ _ _ (lx_tot _ _ he h1) e
            exact absurd this hl
theorem minR_eq {xs : List (List Int)} {m : List Int} (hm : m ∈ xs) (h : ∀ y ∈ xs, lx y m = false) : minR xs = m := by
  cases xs with
  | nil => cases hm
  | cons x xs =>
    by_cases e : minR (x :: xs) = m
    · exact e
    · have h1 := h _ (minR_mem x xs)
      have h2 := minR_le x xs m hm
      have := lx_tot _ _ e h1
      rw [this] at h2; cases h2
theorem minR_in {xs : List (List Int)} (h : xs ≠ []) : minR xs ∈ xs := by
  cases xs with
  | nil => exact absurd rfl h
  | cons x xs => exact minR_mem x xs
theorem minR_low {xs : List (List Int)} {y : List Int} (h : y ∈ xs) : lx y (minR xs) = false := by
  cases xs with
  | nil => cases h
  | cons x xs => exact minR_le x xs y h
theorem minR_ext {xs ys : List (List Int)} (h : ∀ y, y ∈ xs ↔ y ∈ ys) (hx : xs ≠ []) : minR xs = minR ys := by
  have hy : ys ≠ [] := fun e => by
    cases xs with
    | nil => exact hx rfl
    | cons x xs => have := (h x).mp (by simp); rw [e] at this; cases this
  exact minR_eq ((h _).mpr (minR_in hy)) fun y hy' => minR_low ((h y).mp hy')
/-- the least of a group's rows -/
def least (g : List (List Int)) (r : List Int) : List Int := minR (g.map fun t => tr t r)
/-- a row that a group of m turns -/
def Turns (g : List (List Int)) (r : List Int) : Prop := ∀ t ∈ g, (∀ a ∈ t, 0 ≤ a ∧ a < r.length) ∧ t.length ≤ line
theorem least_gen {f : Nat} (c : Nat) (hc : c = N.turned_by ∨ c = N._law_turned) (hf : Φ f = some ⟨2, 3, [.ret (.bi .minl [.lc [2] (.call c [.var 2, .var 1]) (.v 2) (.it (.var 0)) []])]⟩) (n : Nat) (g : List (List Int)) (r : List Int) (F : List Cell) (h : Turns g r) (h0 : g ≠ []) (hl : g.length ≤ line) :
    callN Φ W (n + 2) f [RR g, R r] F = .ok (R (least g r)) false F := by
  rw [call_eq (c := ⟨2, 3, [.ret (.bi .minl [.lc [2] (.call c [.var 2, .var 1]) (.v 2) (.it (.var 0)) []])]⟩) hf _ _ rfl]
  have hcall : ∀ t ∈ g, callN Φ W (n + 1) c [R t, R r] F = .ok (R (tr t r)) false F := fun t ht => by
    rcases hc with rfl | rfl
    · exact turned_eq n t r F (h t ht).1 (h t ht).2
    · exact lturned_eq n t r F (h t ht).1 (h t ht).2
  have e := lc_v (call := callN Φ W (n + 1)) (vs := [2]) (e := .call c [.var 2, .var 1]) (i := 2) (it := .it (.var 0)) (ρ := [.val (RR g), .val (R r), .no]) (F := F) g R (fun t => R (tr t r)) (by simp [evI, RR, itemsOf]) (by simp [hasOwn, ownOf]) (by simp) (by simp)
    (fun t ht => by simp [wipeS, callR, hcall t ht]) hl
  have e2 : biD .minl [.lst (g.map fun t => R (tr t r))] = some (R (least g r)) := by
    have : (g.map fun t => R (tr t r)) = (g.map fun t => tr t r).map R := by rw [List.map_map]; rfl
    rw [this]
    show (if sortOk _ = true then minL _ else none) = _
    rw [if_pos (sortOk_RR _)]
    unfold least
    cases g with
    | nil => exact absurd rfl h0
    | cons x xs => exact minL_map _ _
  simp [enter, e, e2]
theorem least_row_eq (n : Nat) (g : List (List Int)) (r : List Int) (F : List Cell) (h : Turns g r) (h0 : g ≠ []) (hl : g.length ≤ line) : callN Φ W (n + 2) N.least_row [RR g, R r] F = .ok (R (least g r)) false F :=
  least_gen N.turned_by (.inl rfl) (lib_has rfl) n g r F h h0 hl
theorem lleast_eq (n : Nat) (g : List (List Int)) (r : List Int) (F : List Cell) (h : Turns g r) (h0 : g ≠ []) (hl : g.length ≤ line) : callN Φ W (n + 2) N._law_least [RR g, R r] F = .ok (R (least g r)) false F :=
  least_gen N._law_turned (.inr rfl) (lib_has rfl) n g r F h h0 hl
/-! ### plain facts -/
theorem Grp.turns {m : Nat} {g : List (List Int)} (h : Grp m g) {r : List Int} (hr : r.length = m) (hm : m ≤ line) : Turns g r := fun t ht => by
  have ⟨⟨h1, h2⟩, _⟩ := turn_iff.mp (h.rows t ht)
  exact ⟨fun a ha => by have := h2 a ha; omega, by omega⟩
theorem Grp.ne {m : Nat} {g : List (List Int)} (h : Grp m g) : g ≠ [] := List.ne_nil_of_mem h.still
theorem tr_inj {m : Nat} {s s' t : List Int} (hs : Pl m s) (hs' : Pl m s') (ht : Pl m t) (tn : t.Nodup) (e : tr s t = tr s' t) : s = s' := by
  unfold tr at e
  apply List.ext_getElem (by rw [hs.1, hs'.1])
  intro i h1 h2
  have := congrArg (fun l => l[i]?) e
  simp only [List.getElem?_map, List.getElem?_eq_getElem h1, List.getElem?_eq_getElem h2, Option.map_some, Option.some.injEq] at this
  have a1 := hs.2 _ (List.getElem_mem h1)
  have a2 := hs'.2 _ (List.getElem_mem h2)
  have := getD_inj tn (by rw [ht.1]; omega) (by rw [ht.1]; omega) this
  omega
/-- behind a turning the group is itself -/
theorem Grp.behind {m : Nat} {g : List (List Int)} (h : Grp m g) {t : List Int} (ht : t ∈ g) : (g.map fun s => tr s t).Perm g := by
  have ⟨p, tn⟩ := turn_iff.mp (h.rows t ht)
  refine perm_of_nodup ?_ (fun x hx => ?_) (by simp)
  · rw [List.Nodup, List.pairwise_map]
    refine List.Pairwise.imp_of_mem ?_ (asc_nodup h.asc)
    intro a b ha hb hab e
    exact hab (tr_inj (turn_iff.mp (h.rows a ha)).1 (turn_iff.mp (h.rows b hb)).1 p tn e)
  · obtain ⟨s, hs, rfl⟩ := List.mem_map.mp hx
    exact h.mul s hs t ht
theorem least_turn {m : Nat} {g : List (List Int)} (h : Grp m g) {t r : List Int} (ht : t ∈ g) : least g (tr t r) = least g r := by
  unfold least
  refine minR_ext (fun y => ?_) (by simp [h.ne])
  constructor
  · intro hy
    obtain ⟨s, hs, rfl⟩ := List.mem_map.mp hy
    rw [← tr_tr (turn_iff.mp (h.rows s hs)).1 (turn_iff.mp (h.rows t ht)).1]
    exact List.mem_map.mpr ⟨_, h.mul s hs t ht, rfl⟩
  · intro hy
    obtain ⟨u, hu, rfl⟩ := List.mem_map.mp hy
    obtain ⟨s, hs, e⟩ := List.mem_map.mp ((h.behind ht).mem_iff.mpr hu)
    refine List.mem_map.mpr ⟨s, hs, ?_⟩
    rw [← tr_tr (turn_iff.mp (h.rows s hs)).1 (turn_iff.mp (h.rows t ht)).1, e]
theorem least_is {m : Nat} {g : List (List Int)} (h : Grp m g) (r : List Int) : ∃ t ∈ g, least g r = tr t r := by
  have := minR_in (xs := g.map fun t => tr t r) (by simp [h.ne])
  obtain ⟨t, ht, e⟩ := List.mem_map.mp this
  exact ⟨t, ht, e.symm⟩
theorem least_least {m : Nat} {g : List (List Int)} (h : Grp m g) (r : List Int) : least g (least g r) = least g r := by
  obtain ⟨t, ht, e⟩ := least_is h r
  rw [e, least_turn h ht, ← e]
/-- rows of one least differ by a turning -/
theorem least_same {m : Nat} {g : List (List Int)} (h : Grp m g) {r s : List Int} (hr : r.length = m) (e : least g r = least g s) : ∃ t ∈ g, r = tr t s := by
  obtain ⟨t, ht, e1⟩ := least_is h r
  obtain ⟨u, hu, e2⟩ := least_is h s
  -- tr t r = tr u s; a turning v with tr v t = still
  obtain ⟨v, hv, ev⟩ := List.mem_map.mp ((h.behind ht).mem_iff.mpr h.still)
  refine ⟨tr v u, h.mul v hv u hu, ?_⟩
  have hP := fun x (hx : x ∈ g) => (turn_iff.mp (h.rows x hx)).1
  rw [tr_tr (hP v hv) (hP u hu), ← e2, ← e, e1, ← tr_tr (hP v hv) (hP t ht), ev]
  apply List.ext_getElem
  · simp [tr, rng, hr]
  · intro i h1 h2
    simp [tr, rng]
    rw [List.getElem?_eq_getElem h1]
    rfl
theorem least_rng {m : Nat} {g : List (List Int)} (h : Grp m g) {t : List Int} (ht : t ∈ g) : least g t = rng m := by
  have e0 : least g (rng m) = rng m := by
    refine minR_eq (List.mem_map.mpr ⟨rng m, h.still, tr_rng (Pl_rng m)⟩) fun y hy => ?_
    obtain ⟨s, hs, rfl⟩ := List.mem_map.mp hy
    have hg := h.mul s hs _ h.still
    rcases rng_least (h.rows _ hg) with e | e
    · rw [e]; exact lx_irr _
    · cases z : lx (tr s (rng m)) (rng m) with
      | false => rfl
      | true => have := lx_tr _ _ _ z e; rw [lx_irr] at this; cases this
  have : t = tr t (rng m) := by
    have ⟨p, _⟩ := turn_iff.mp (h.rows t ht)
    apply List.ext_getElem
    · simp [tr]
    · intro i h1 h2
      have := p.2 _ (List.getElem_mem h1)
      have h3 : t[i].toNat < m := by omega
      simp [tr, rng, List.getD_eq_getElem?_getD, h3]
      omega
  rw [this, least_turn h ht, e0]
end NW
set_option autoImplicit false
set_option linter.all false
set_option maxRecDepth 100000
/-! NwT2: maps: the forms. -/
namespace NW
open PySem
variable {Φ : Nat → Option Code} {W : Nat} [Lib Φ]
/-- where a thing leads: a kind's index and a row -/
abbrev Wy := Nat × List Int
def WD (w : Wy) : D := .tup [.int w.1, R w.2]
def WS (ws : List Wy) : D := .tup (ws.map WD)
def kd (os : List Kind) (i : Nat) : Kind := os.getD i (0, [])
theorem sub_KS {os : List Kind} {i : Nat} (h : i < os.length) (F : List Cell) : subD F (KS os) (.int i) = some (KD (kd os i)) := by
  show atD (os.map KD) i = _
  rw [atD_nn (by omega) (by simp; omega)]
  simp [kd, List.getD_eq_getElem?_getD, h]
theorem len_KS (os : List Kind) : lenD (KS os) = some os.length := by simp [KS, lenD]
@[simp] theorem ty_plain : Ty.tuple.plain = true := rfl
section
variable (w : Wy) (q : Kind) (ws : List Wy) (ks : List Kind) (r : List Int) (F : List Cell)
@[simp] theorem wd_is : Ty.tuple.is (WD w) = true := rfl
@[simp] theorem wd_isi : D.isiOk (WD w) = true := rfl
@[simp] theorem wd_len : lenD (WD w) = some 2 := rfl
@[simp] theorem wd_0 : subD F (WD w) (.int 0) = some (.int w.1) := rfl
@[simp] theorem wd_1 : subD F (WD w) (.int 1) = some (R w.2) := rfl
@[simp] theorem kd_0 : subD F (KD q) (.int 0) = some (.int q.1) := rfl
@[simp] theorem kd_1 : subD F (KD q) (.int 1) = some (RR q.2) := rfl
@[simp] theorem ws_is : Ty.tuple.is (WS ws) = true := rfl
@[simp] theorem ws_isi : D.isiOk (WS ws) = true := rfl
@[simp] theorem ws_len : lenD (WS ws) = some ws.length := by simp [WS, lenD]
@[simp] theorem r_len : lenD (R r) = some r.length := by simp [R, lenD]
end
def rowF (K : Kind) (os : List Kind) (w : Wy) : Bool := decide (w.1 < os.length) && (unl 0 (K.1 - 1) w.2 && decide ((w.2.length : Int) = (kd os w.1).1))
theorem is_row_form_eq (n : Nat) (K : Kind) (os : List Kind) (w : Wy) (F : List Cell) (hl : w.2.length ≤ line) : callN Φ W (n + 3) N.is_row_form [KD K, KS os, WD w] F = .ok (.bl (rowF K os w)) false F := by
  rw [call_eq (c := c_is_row_form) (lib_has rfl) _ _ rfl]
  have e1 := is_integer_eq (Φ := Φ) (W := W) (n + 1) 0 ((os.length : Int) - 1) w.1 F
  have e2 := is_row_unlike_eq (Φ := Φ) (W := W) n 0 (K.1 - 1) w.2 F hl
  have d1 : (decide ((0 : Int) ≤ w.1) && decide ((w.1 : Int) ≤ (os.length : Int) - 1)) = decide (w.1 < os.length) := by
    rw [Bool.eq_iff_iff]; simp; omega
  rw [d1] at e1
  have lw : ∀ w : Wy, lenD (WD w) = some 2 := fun w => rfl
  have lR : lenD (R w.2) = some w.2.length := by simp [R, lenD]
  unfold rowF
  by_cases h : w.1 < os.length
  · have e3 := sub_KS h F
    cases hu : unl 0 (K.1 - 1) w.2 with
    | false =>
      rw [hu] at e2
      simp [c_is_row_form, enter, callR, len_KS, e1, h, e2]
    | true =>
      rw [hu] at e2
      simp [c_is_row_form, enter, callR, len_KS, e1, h, e2, e3]
  · simp [c_is_row_form, enter, callR, len_KS, e1, h]
/-- the turnings of a kind do not move a row's least -/
def steady (K : Kind) (g : List (List Int)) (r : List Int) : Bool := K.2.all fun one => decide (least g (tr r one) = least g r)
theorem tuple_at {call : Call} {F : List Cell} {ρ : List Slot} {v o i : Nat} {one r : List Int} (hv : ρ[v]? = some (.val (R r))) (ho : ρ[o]? = some (.val (R one))) (hi : ρ[i]? = some .no) (hr : ∀ a ∈ r, 0 ≤ a ∧ a < one.length) (hl : r.length ≤ line) :
    ev call (.bi .tuple [.lc [i] (.sub (.var o) (.var i)) (.v i) (.it (.var v)) []]) ⟨ρ, F⟩ = .ok (R (tr r one), ⟨ρ, F⟩) := by
  have hin : i < ρ.length := (List.getElem?_eq_some_iff.mp hi).1
  have ne1 : i ≠ o := fun e => by rw [e, ho] at hi; cases hi
  have ne2 : i ≠ v := fun e => by rw [e, hv] at hi; cases hi
  have e := lc_v (call := call) (vs := [i]) (e := .sub (.var o) (.var i)) (i := i) (it := .it (.var v)) (ρ := ρ) (F := F) r .int (fun a => .int (one.getD a.toNat 0)) (by simp [evI, hv, R, itemsOf, heldOf]) (by simp [hasOwn, hi, ownOf]) (by simp) hin
    (fun a ha => by
      have := hr a ha
      have es := sub_R this.1 this.2 F
      have w1 : ((wipeS ρ [i]).set i (.val (.int a)))[o]? = some (.val (R one)) := by
        rw [List.getElem?_set_ne ne1, pw_out (by simp; omega), ho]
      have w2 : ((wipeS ρ [i]).set i (.val (.int a)))[i]? = some (.val (.int a)) := by
        rw [List.getElem?_set_self (by rw [pw_length]; exact hin)]
      simp [w1, w2, es]) hl
  rw [show tr r one = r.map fun a => one.getD a.toNat 0 from rfl]
  simp [e, R]
theorem is_row_steady_eq (n : Nat) (K : Kind) (q : Kind) (r : List Int) (F : List Cell) (h0 : q.2 ≠ []) (hq : Turns q.2 r) (hl : q.2.length ≤ line) (hK : ∀ one ∈ K.2, ∀ a ∈ r, 0 ≤ a ∧ a < one.length) (hr : r.length ≤ line) (hKl : K.2.length ≤ line) :
    callN Φ W (n + 3) N.is_row_steady [KD K, KD q, R r] F = .ok (.bl (steady K q.2 r)) false F := by
  rw [call_eq (c := c_is_row_steady) (lib_has rfl) _ _ rfl]
  have e1 := least_row_eq (Φ := Φ) (W := W) n q.2 r F hq h0 hl
  have e2 := lc_v (call := callN Φ W (n + 2)) (vs := [4]) (e := .cmp .eq (.call N.least_row [.sub (.var 1) (.con (.int 1)), .bi .tuple [.lc [5] (.sub (.var 4) (.var 5)) (.v 5) (.it (.var 2)) []]]) (.var 3)) (i := 4) (it := .it (.sub (.var 0) (.con (.int 1))))
    (ρ := [.val (KD K), .val (KD q), .val (R r), .val (R (least q.2 r)), .no, .no]) (F := F) K.2 R (fun one => .bl (decide (least q.2 (tr r one) = least q.2 r))) (by simp [evI, KD, sub_1, RR, itemsOf]) (by simp [hasOwn, ownOf]) (by simp) (by simp)
    (fun one ho => by
      have t := tuple_at (call := callN Φ W (n + 2)) (F := F) (ρ := [.val (KD K), .val (KD q), .val (R r), .val (R (least q.2 r)), .val (R one), .no]) (v := 2) (o := 4) (i := 5) (one := one) (r := r) rfl rfl rfl (hK one ho) hr
      have e3 := least_row_eq (Φ := Φ) (W := W) n q.2 (tr r one) F (fun t ht => by have := hq t ht; simpa [tr] using this) h0 hl
      have c : cmpD .eq (R (least q.2 (tr r one))) (R (least q.2 r)) = some (decide (least q.2 (tr r one) = least q.2 r)) := by
        show (if _ then some (D.eqv _ _) else none) = _
        rw [if_pos (by simp [R, D.da, das_ints]), eqv_R]
      simp [wipeS] at t ⊢
      simp [callR, t, e3, c]) hKl
  simp [c_is_row_steady, enter, callR, e1] at e2 ⊢
  simp [e2, blsOf_map, steady, List.all_map]
/-- a map, by the forms -/
def rowsF (ks os : List Kind) (ws : List Wy) : Bool := decide (ws.length = ks.length) && (ks.zip ws).all fun p => rowF p.1 os p.2
def goodW (K : Kind) (os : List Kind) (w : Wy) : Bool := decide (least (kd os w.1).2 w.2 = w.2) && steady K (kd os w.1).2 w.2
def mapF (ks os : List Kind) (ws : List Wy) : Bool := rowsF ks os ws && (ks.zip ws).all fun p => goodW p.1 os p.2
theorem zip_ways (ks : List Kind) (ws : List Wy) : zipD (ks.map KD) (ws.map WD) = (ks.zip ws).map fun p => .tup [KD p.1, WD p.2] := by
  induction ks generalizing ws with
  | nil => rfl
  | cons k ks ih =>
    cases ws with
    | nil => rfl
    | cons w ws => simp only [List.map_cons, List.zip_cons_cons]; rw [← ih]; rfl
theorem is_rows_form_eq (n : Nat) (ks os : List Kind) (ws : List Wy) (F : List Cell) (hl : ∀ w ∈ ws, w.2.length ≤ line) (hk : ks.length ≤ line) : callN Φ W (n + 4) N.is_rows_form [KS ks, KS os, WS ws] F = .ok (.bl (rowsF ks os ws)) false F := by
  rw [call_eq (c := c_is_rows_form) (lib_has rfl) _ _ rfl]
  have e := lc_mapf (call := callN Φ W (n + 3)) (vs := [3, 4]) (e := .call N.is_row_form [.var 3, .var 1, .var 4]) (tg := .t [.v 3, .v 4]) (it := .zip (.var 0) (.var 2)) (s := ⟨[.val (KS ks), .val (KS os), .val (WS ws), .no, .no], F⟩)
    (as := ks.zip ws) (h := fun p => .tup [KD p.1, WD p.2]) (g := fun p => .bl (rowF p.1 os p.2)) (by simp [evI, KS, WS, itemsOf, zip_ways]) (by simp [hasOwn, ownOf]) (fun p hp => ⟨[.val (KS ks), .val (KS os), .val (WS ws), .val (KD p.1), .val (WD p.2)], by simp [wipeS], by simp [wipeS], by
      have := is_row_form_eq (Φ := Φ) (W := W) n p.1 os p.2 F (hl _ (List.of_mem_zip hp).2)
      simp [callR, this]⟩) (by rw [List.length_zip]; exact Nat.le_trans (Nat.min_le_left _ _) hk)
  unfold rowsF
  by_cases h : ws.length = ks.length
  · simp [c_is_rows_form, enter, len_KS, h, e, blsOf_map]
  · have h' : ¬ (ws.length : Int) = ks.length := by omega
    simp [c_is_rows_form, enter, len_KS, h, h']
/-- a kind and a set that a law draws -/
def KGood (lo hi : Nat) (q : Kind) : Prop := KOk lo hi q ∧ q.2.length ≤ 120
theorem unl_iff {m : Int} {xs : List Int} : unl 0 (m - 1) xs = true ↔ (∀ a ∈ xs, 0 ≤ a ∧ a < m) ∧ xs.Nodup := by
  unfold unl
  simp only [Bool.and_eq_true, List.all_eq_true, decide_eq_true_eq]
  constructor
  · rintro ⟨h1, h2⟩
    exact ⟨fun a ha => by have := h1 a ha; omega, h2⟩
  · rintro ⟨h1, h2⟩
    exact ⟨fun a ha => by have := h1 a ha; omega, h2⟩
theorem kok_mem {os : List Kind} {hi : Nat} (h : ∀ q ∈ os, KOk 0 hi q) {i : Nat} (hi' : i < os.length) : KOk 0 hi (kd os i) := by
  have : kd os i = os[i] := by simp [kd, List.getD_eq_getElem?_getD, hi']
  rw [this]
  exact h _ (List.getElem_mem hi')
theorem KOk.few {hi : Nat} {q : Kind} (h : KOk 0 hi q) (hh : hi ≤ 6) : q.2.length ≤ line := by
  obtain ⟨m, _, _, h2, g⟩ := h
  exact Nat.le_trans g.len (Nat.le_trans (tns_len6 m (by omega)) (by decide))
theorem is_map_form_eq (n : Nat) (ks os : List Kind) (ws : List Wy) (F : List Cell) {hi : Nat} (hh : hi ≤ 6) (hks : ∀ q ∈ ks, KOk 0 hi q) (hos : ∀ q ∈ os, KOk 0 hi q) (hl : ∀ w ∈ ws, w.2.length ≤ line) (hk : ks.length ≤ line) : callN Φ W (n + 5) N.is_map_form [KS ks, KS os, WS ws] F = .ok (.bl (mapF ks os ws)) false F := by
  rw [call_eq (c := c_is_map_form) (lib_has rfl) _ _ rfl]
  have e1 := is_rows_form_eq (Φ := Φ) (W := W) n ks os ws F hl hk
  unfold mapF
  cases hr : rowsF ks os ws with
  | false =>
    rw [hr] at e1
    simp [c_is_map_form, enter, callR, e1]
  | true =>
    rw [hr] at e1
    unfold rowsF at hr
    simp only [Bool.and_eq_true, decide_eq_true_eq, List.all_eq_true] at hr
    have loop := for_inv (f := fun x s => (Res.of (assignTg (.t [.v 3, .t [.v 4, .v 5]]) x s.ρ)).bind fun ρ => runs (callN Φ W (n + 4)) W [.ife (.or (.cmp .ne (.call N.least_row [.sub (.sub (.var 1) (.var 4)) (.con (.int 1)), .var 5]) (.var 5)) (.not (.call N.is_row_steady [.var 3, .sub (.var 1) (.var 4), .var 5]))) [.ret (.con (.bl false))] []] { s with ρ := ρ })
      (xs := (ks.zip ws).map fun p => .tup [KD p.1, WD p.2])
      (Q := fun r => r.2.F = F ∧ ((((ks.zip ws).all fun p => goodW p.1 os p.2) = true ∧ r.1 = .nx) ∨ (((ks.zip ws).all fun p => goodW p.1 os p.2) = false ∧ r.1 = .ret (.bl false))))
      (fun i s => (∃ s3 s4 s5, s = ⟨[.val (KS ks), .val (KS os), .val (WS ws), s3, s4, s5], F⟩) ∧ ((ks.zip ws).take i).all (fun p => goodW p.1 os p.2) = true) (fun i x s ex ⟨⟨s3, s4, s5, es⟩, ha⟩ => by
        rw [List.getElem?_map, Option.map_eq_some_iff] at ex
        obtain ⟨p, ep, rfl⟩ := ex
        have hp := List.mem_of_getElem? ep
        have hrow := hr.2 p hp
        unfold rowF at hrow
        simp only [Bool.and_eq_true, decide_eq_true_eq] at hrow
        obtain ⟨hi1, hu, hlen⟩ := hrow
        have hu := unl_iff.mp hu
        have ho := kok_mem hos hi1
        have hofew := ho.few hh
        have hkfew := (hks _ (List.of_mem_zip hp).1).few hh
        obtain ⟨m, hm, _, hm6, hg⟩ := ho
        have ht : Turns (kd os p.2.1).2 p.2.2 := hg.turns (by omega) (by unfold line; omega)
        obtain ⟨mk, hmk, _, hmk6, hgk⟩ := hks _ (List.of_mem_zip hp).1
        have e2 := least_row_eq (Φ := Φ) (W := W) (n + 2) (kd os p.2.1).2 p.2.2 F ht hg.ne hofew
        have e3 := is_row_steady_eq (Φ := Φ) (W := W) (n + 1) p.1 (kd os p.2.1) p.2.2 F hg.ne ht hofew (fun one h1 a ha => by
          have z1 := (turn_iff.mp (hgk.rows one h1)).1.1
          have z2 := hu.1 a ha
          omega) (hl _ (List.of_mem_zip hp).2) hkfew
        have e4 := sub_KS hi1 F
        have htk : (ks.zip ws).take (i + 1) = (ks.zip ws).take i ++ [p] := by rw [List.take_succ, ep]; rfl
        subst es
        cases hgw : goodW p.1 os p.2 with
        | true =>
          refine ⟨(.nx, ⟨[.val (KS ks), .val (KS os), .val (WS ws), .val (KD p.1), .val (.int p.2.1), .val (R p.2.2)], F⟩), ?_, .inl ⟨.inl rfl, ⟨_, _, _, rfl⟩, ?_⟩⟩
          · unfold goodW at hgw
            simp only [Bool.and_eq_true, decide_eq_true_eq] at hgw
            rw [hgw.1] at e2
            rw [hgw.2] at e3
            simp [WD, callR, e4, e2, e3, cmp_ne_R]
          · rw [htk, List.all_append, ha]; simp [hgw]
        | false =>
          refine ⟨(.ret (.bl false), ⟨[.val (KS ks), .val (KS os), .val (WS ws), .val (KD p.1), .val (.int p.2.1), .val (R p.2.2)], F⟩), ?_, .inr (.inr (.inl ⟨_, rfl, rfl, .inr ⟨?_, rfl⟩⟩))⟩
          · unfold goodW at hgw
            by_cases h1 : least (kd os p.2.1).2 p.2.2 = p.2.2
            · rw [h1] at e2
              rw [decide_eq_true h1, Bool.true_and] at hgw
              rw [hgw] at e3
              simp [WD, callR, e4, e2, e3, cmp_ne_R]
            · simp [WD, callR, e4, e2, cmp_ne_R, h1]
          · rw [List.all_eq_false]
            exact ⟨p, hp, by rw [hgw]; decide⟩) (fun s ⟨⟨s3, s4, s5, es⟩, ha⟩ => ⟨by rw [es], .inl ⟨by rw [List.length_map, List.take_length] at ha; exact ha, rfl⟩⟩)
      ⟨[.val (KS ks), .val (KS os), .val (WS ws), .no, .no, .no], F⟩ ⟨⟨_, _, _, rfl⟩, by simp⟩
    obtain ⟨r, e, hF, hc⟩ := loop
    have hi : evI (callN Φ W (n + 4)) (.zip (.var 0) (.var 2)) ⟨[.val (KS ks), .val (KS os), .val (WS ws), .no, .no, .no], F⟩ = .ok ((ks.zip ws).map fun p => .tup [KD p.1, WD p.2], ⟨[.val (KS ks), .val (KS os), .val (WS ws), .no, .no, .no], F⟩) := by
      simp [evI, KS, WS, itemsOf, zip_ways]
    have hfor := (run_for (W := W) (tg := .t [.v 3, .t [.v 4, .v 5]]) (b := [.ife (.or (.cmp .ne (.call N.least_row [.sub (.sub (.var 1) (.var 4)) (.con (.int 1)), .var 5]) (.var 5)) (.not (.call N.is_row_steady [.var 3, .sub (.var 1) (.var 4), .var 5]))) [.ret (.con (.bl false))] []]) hi).trans e
    obtain ⟨fl, sr⟩ := r
    simp only at hF hc
    rcases hc with ⟨h1, rfl⟩ | ⟨h1, rfl⟩
    · simp [c_is_map_form, enter, callR, e1, hfor, h1, hF]
    · simp [c_is_map_form, enter, callR, e1, hfor, h1, hF]
end NW
set_option autoImplicit false
set_option linter.all false
set_option maxRecDepth 100000
/-! NwT3: is_map; the law's ways. -/
namespace NW
open PySem
section
variable {call : Call} {W : Nat}
/-- for .. in ..: any target -/
theorem for_g {tg : Tg} {it : I} {b : List S} {ρ : List Slot} {F F1 : List Cell} (xs : List D) (I : Nat → List Slot → List Cell → Prop) (hi : evI call it ⟨ρ, F⟩ = .ok (xs, ⟨ρ, F1⟩)) (h0 : I 0 ρ F1)
    (step : ∀ j x ρ F, xs[j]? = some x → I j ρ F → ∃ ρ1, assignTg tg x ρ = some ρ1 ∧ ∃ fl ρ' F', runs call W b ⟨ρ1, F⟩ = .ok (fl, ⟨ρ', F'⟩) ∧ (fl = .nx ∨ fl = .ct) ∧ I (j + 1) ρ' F') :
    ∃ ρ' F', run call W (.for tg it b) ⟨ρ, F⟩ = .ok (.nx, ⟨ρ', F'⟩) ∧ I xs.length ρ' F' := by
  obtain ⟨r, e, ρ', F', h1, h2⟩ := for_inv (f := fun x s => (Res.of (assignTg tg x s.ρ)).bind fun ρ => runs call W b { s with ρ := ρ }) (xs := xs) (Q := fun r => ∃ ρ' F', r = (.nx, ⟨ρ', F'⟩) ∧ I xs.length ρ' F') (fun j s => I j s.ρ s.F)
    (fun j x s hx h => by
      obtain ⟨ρ1, e1, fl, ρ', F', e, hf, h'⟩ := step j x s.ρ s.F hx h
      refine ⟨(fl, ⟨ρ', F'⟩), ?_, .inl ⟨hf, h'⟩⟩
      simp [e1, e]) (fun s h => ⟨s.ρ, s.F, rfl, h⟩) ⟨ρ, F1⟩ h0
  subst h1
  exact ⟨ρ', F', (run_for hi).trans e, h2⟩
end
variable {Φ : Nat → Option Code} {W : Nat} [Lib Φ]
theorem KOk.kf {lo hi : Nat} {q : Kind} (h : KOk lo hi q) (hh : hi ≤ 5) : kf q = true ∧ small q := by
  obtain ⟨m, h1, h2, h3, h4⟩ := h
  have hl := Nat.le_trans h4.len (tns_len5 m (by omega))
  refine ⟨?_, fun r hr => by have := (turn_iff.mp (h4.rows r hr)).1.1; unfold line; omega⟩
  unfold NW.kf
  rw [h1, gf_iff.mpr ⟨h4, by omega⟩]
  simp
  omega
theorem KOk.sf {lo hi : Nat} {ks : List Kind} (h : ∀ q ∈ ks, KOk lo hi q) (hh : hi ≤ 5) (hl : ks.length ≤ 300) : sf ks = true ∧ ∀ k ∈ ks, small k := by
  refine ⟨?_, fun k hk => ((h k hk).kf hh).2⟩
  unfold NW.sf
  rw [Bool.and_eq_true, decide_eq_true_eq, List.all_eq_true]
  exact ⟨hl, fun k hk => ((h k hk).kf hh).1⟩
theorem need_set_eq (n : Nat) (ks : List Kind) (F : List Cell) (h : sf ks = true) (hs : ∀ k ∈ ks, small k) : callN Φ W (n + 7) N.need_set [KS ks] F = .ok .non false F := by
  rw [call_eq (c := c_need_set) (lib_has rfl) _ _ rfl]
  have e := is_set_form_eq (Φ := Φ) (W := W) n ks F hs
  rw [h] at e
  simp [c_need_set, enter, callR, e]
  rfl
theorem is_map_eq (n : Nat) (ks os : List Kind) (ws : List Wy) (F : List Cell) {hi : Nat} (hh : hi ≤ 5) (hks : ∀ q ∈ ks, KOk 0 hi q) (hos : ∀ q ∈ os, KOk 0 hi q) (hl : ∀ w ∈ ws, w.2.length ≤ line) (hk : ks.length ≤ 300) (ho : os.length ≤ 300) : callN Φ W (n + 8) N.is_map [KS ks, KS os, WS ws] F = .ok (.bl (mapF ks os ws)) false F := by
  rw [call_eq (c := c_is_map) (lib_has rfl) _ _ rfl]
  have ⟨a1, a2⟩ := KOk.sf hks hh hk
  have ⟨b1, b2⟩ := KOk.sf hos hh ho
  have e1 := need_set_eq (Φ := Φ) (W := W) n ks F a1 a2
  have e2 := need_set_eq (Φ := Φ) (W := W) n os F b1 b2
  have e3 := is_map_form_eq (Φ := Φ) (W := W) (n + 2) ks os ws F (hi := hi) (by omega) hks hos hl (by unfold line; omega)
  simp [c_is_map, enter, callR, e1, e2, e3]
/-! ### the law's ways -/
theorem zipIdx_take {α : Type} {as : List α} {j : Nat} {a : α} (h : as[j]? = some a) : (as.take (j + 1)).zipIdx = (as.take j).zipIdx ++ [(a, j)] := by
  have hj := (List.getElem?_eq_some_iff.mp h).1
  have : as.take (j + 1) = as.take j ++ [a] := by rw [List.take_succ, h]; rfl
  rw [this, List.zipIdx_append]
  simp [List.length_take, Nat.min_eq_left (Nat.le_of_lt hj)]
theorem enum_get {α : Type} {as : List α} {f : α → D} {j : Nat} {x : D} (h : (enumD (as.map f))[j]? = some x) : ∃ a, as[j]? = some a ∧ x = .tup [.int j, f a] := by
  unfold enumD at h
  rw [List.getElem?_map, Option.map_eq_some_iff] at h
  obtain ⟨p, h1, rfl⟩ := h
  rw [List.getElem?_zipIdx, List.getElem?_map] at h1
  simp only [Nat.zero_add, Option.map_map, Option.map_eq_some_iff] at h1
  obtain ⟨a, h1, rfl⟩ := h1
  exact ⟨a, h1, rfl⟩
theorem enum_len (xs : List D) : (enumD xs).length = xs.length := by unfold enumD; simp
theorem cmpE_ones {α : Type} (as : List α) : cmpD .eq (.lst (as.map fun _ => .int 1)) (.lst []) = some as.isEmpty := by
  show eqD _ _ = _
  have hd : D.das 59 (as.map fun _ => D.int 1) = true := by
    induction as with
    | nil => simp [D.das]
    | cons a as ih => simp [D.das, D.da, ih]
  unfold eqD
  rw [if_pos (by simp [D.da, D.das, hd])]
  cases as <;> simp [D.eqv, D.eqvs]
/-- is a row kept? -/
def goodR (K : Kind) (g : List (List Int)) (r : List Int) : Bool := decide (least g r = r) && steady K g r
def ways1 (K : Kind) (q : Kind) (i : Nat) : List Wy := ((tn K.1 q.1.toNat).filter (goodR K q.2)).map fun r => (i, r)
def ways (K : Kind) (os : List Kind) : List Wy := os.zipIdx.flatMap fun p => ways1 K p.1 p.2
theorem tn_len6 {m : Nat} (h : m ≤ 6) {i : Nat} (hi : i ≤ 6) : (tn m i).length ≤ 46656 := by
  have h1 := tn_len m i
  have h2 : (m : Int).toNat ^ i ≤ 6 ^ i := Nat.pow_le_pow_left (by omega) _
  have h3 : 6 ^ i ≤ 6 ^ 6 := Nat.pow_le_pow_right (by decide) hi
  omega
theorem ways_len {hi : Nat} (hh : hi ≤ 6) {K : Kind} (hK : KOk 0 hi K) : ∀ {os : List Kind} (n : Nat), (∀ q ∈ os, KOk 0 hi q) → ((os.zipIdx n).flatMap fun p => ways1 K p.1 p.2).length ≤ os.length * 46656
  | [], n, _ => by simp
  | q :: os, n, h => by
    have ih := ways_len hh hK (os := os) (n + 1) fun q hq => h q (List.mem_cons_of_mem _ hq)
    obtain ⟨m, hm, _, hm2, _⟩ := hK
    obtain ⟨k, hk, _, hk2, _⟩ := h q List.mem_cons_self
    have h1 : (ways1 K q n).length ≤ 46656 := by
      unfold ways1
      rw [List.length_map]
      refine Nat.le_trans (List.length_filter_le _ _) ?_
      rw [hm]
      exact tn_len6 (by omega) (by omega)
    simp only [List.zipIdx_cons, List.flatMap_cons, List.length_append, List.length_cons]
    omega
/-- what the law's test says -/
theorem test_ev {call : Call} {F : List Cell} {K q : Kind} {r : List Int} {ρ : List Slot} (h0 : ρ[0]? = some (.val (KD K))) (h6 : ρ[6]? = some (.val (R r))) (h8 : ρ[8]? = some (.val (RR q.2))) (h9 : ρ[9]? = some .no) (h10 : ρ[10]? = some .no)
    (hcall : ∀ x : List Int, x.length = r.length → call N._law_least [RR q.2, R x] F = .ok (R (least q.2 x)) false F) (hK : ∀ one ∈ K.2, ∀ a ∈ r, 0 ≤ a ∧ a < one.length) (hr : r.length ≤ line) (hKl : K.2.length ≤ line) :
    ev call (.lc [9] (.con (.int 1)) (.v 9) (.it (.sub (.var 0) (.con (.int 1)))) [.cmp .ne (.call N._law_least [.var 8, .bi .tuple [.lc [10] (.sub (.var 9) (.var 10)) (.v 10) (.it (.var 6)) []]]) (.var 6)]) ⟨ρ, F⟩ = .ok (.lst ((K.2.filter fun one => !decide (least q.2 (tr r one) = r)).map fun _ => .int 1), ⟨ρ, F⟩) := by
  have hin : 9 < ρ.length := (List.getElem?_eq_some_iff.mp h9).1
  refine lc_vf (call := call) (vs := [9]) (i := 9) (ρ := ρ) (F := F) K.2 (fun one => !decide (least q.2 (tr r one) = r)) R (fun _ => .int 1) (by simp [evI, h0, heldOf, RR, itemsOf]) (by simp [hasOwn, h9, ownOf]) (by simp) hin (fun one ho => ?_) (fun one ho _ => by simp) hKl
  have g : ∀ {k : Nat} {s : Slot}, k ≠ 9 → ρ[k]? = some s → ((wipeS ρ [9]).set 9 (.val (R one)))[k]? = some s := fun {k s} hk e => by
    rw [List.getElem?_set_ne (by omega), pw_out (by simp; omega), e]
  have g9 : ((wipeS ρ [9]).set 9 (.val (R one)))[9]? = some (.val (R one)) := List.getElem?_set_self (by rw [pw_length]; exact hin)
  have t := tuple_at (call := call) (F := F) (ρ := (wipeS ρ [9]).set 9 (.val (R one))) (v := 6) (o := 9) (i := 10) (one := one) (r := r) (g (by decide) h6) g9 (g (by decide) h10) (hK one ho) hr
  have g6 := g (by decide) h6
  have g8 := g (by decide) h8
  have hc := hcall (tr r one) (by simp [tr])
  generalize (wipeS ρ [9]).set 9 (.val (R one)) = ρ' at *
  simp at t
  simp [t, g6, g8, callR, hc, cmp_ne_R]
theorem ways_eq (n : Nat) {hi : Nat} (hh : hi ≤ 6) (K : Kind) (os : List Kind) (F : List Cell) (hK : KOk 0 hi K) (hos : ∀ q ∈ os, KOk 0 hi q) (hl : os.length ≤ 20) : callN Φ W (n + 3) N._law_ways [KD K, KS os] F = .ok (.lst ((ways K os).map WD)) false F := by
  rw [call_eq (c := c__law_ways) (lib_has rfl) _ _ rfl]
  have hKl := hK.few hh
  obtain ⟨m, hm, _, hm6, hgk⟩ := hK
  have wl : ∀ j, (ways K (os.take j)).length ≤ 20 * 46656 := fun j => by
    refine Nat.le_trans (ways_len hh ⟨m, hm, by omega, hm6, hgk⟩ 0 (fun q hq => hos q (List.mem_of_mem_take hq))) ?_
    have : (os.take j).length ≤ 20 := by rw [List.length_take]; omega
    omega
  obtain ⟨ρ', F', e, hF, s3, s4, s5, s6, s7, s8, rfl⟩ := for_g (call := callN Φ W (n + 2)) (W := W) (tg := .t [.v 3, .t [.v 7, .v 8]]) (it := .enum (.var 1)) (b := [.set 4 (.lst [.tup []]), .for (.v 5) (.rng (.var 7)) [.set 4 (.call N._law_longer [.var 4, .sub (.var 0) (.con (.int 0))])], .for (.v 6) (.it (.var 4)) [.ife (.and (.cmp .eq (.call N._law_least [.var 8, .var 6]) (.var 6)) (.cmp .eq (.lc [9] (.con (.int 1)) (.v 9) (.it (.sub (.var 0) (.con (.int 1)))) [.cmp .ne (.call N._law_least [.var 8, .bi .tuple [.lc [10] (.sub (.var 9) (.var 10)) (.v 10) (.it (.var 6)) []]]) (.var 6)]) (.lst []))) [.ex (.app 2 (.tup [.var 3, .var 6]))] []]])
    (ρ := [.val (KD K), .val (KS os), .own (.lst []), .no, .no, .no, .no, .no, .no, .no, .no]) (F := F) (F1 := F) (enumD (os.map KD))
    (fun j ρ F' => F' = F ∧ ∃ s3 s4 s5 s6 s7 s8, ρ = [.val (KD K), .val (KS os), .own (.lst ((ways K (os.take j)).map WD)), s3, s4, s5, s6, s7, s8, .no, .no]) (by simp [evI, KS]) ⟨rfl, .no, .no, .no, .no, .no, .no, by simp [ways]⟩
    (fun j x ρ F' hx ⟨hF, s3, s4, s5, s6, s7, s8, eρ⟩ => by
      obtain ⟨q, hq, rfl⟩ := enum_get hx
      subst eρ hF
      obtain ⟨k, hk, _, hk6, hgq⟩ := hos q (List.mem_of_getElem? hq)
      have hqf := (hos q (List.mem_of_getElem? hq)).few hh
      refine ⟨_, (show assignTg _ (D.tup [.int j, .tup [.int q.1, RR q.2]]) _ = some _ from by (simp; rfl)), .nx, ?_⟩
      have hrk : rngOk 0 (k : Int) = true := by unfold rngOk line; simp; omega
      have hrm : rngOk 0 (m : Int) = true := by unfold rngOk line; simp; omega
      -- the rows
      obtain ⟨ρ1, F1, e1, hF1, t5, rfl⟩ := for_v (call := callN Φ W (n + 2)) (W := W) (i := 5) (it := .rng (.var 7)) (b := [.set 4 (.call N._law_longer [.var 4, .sub (.var 0) (.con (.int 0))])])
        (ρ := [.val (KD K), .val (KS os), .own (.lst ((ways K (os.take j)).map WD)), .val (.int j), .val (.lst [.tup []]), s5, s6, .val (.int q.1), .val (RR q.2), .no, .no]) (F := F') (F1 := F') (rngD 0 k)
        (fun i ρ F1 => F1 = F' ∧ ∃ t5, ρ = [.val (KD K), .val (KS os), .own (.lst ((ways K (os.take j)).map WD)), .val (.int j), .val (.lst ((tn m i).map R)), t5, s6, .val (.int q.1), .val (RR q.2), .no, .no]) (by simp [evI, hk, hrk]) ⟨rfl, _, rfl⟩
        (fun i x ρ F1 hx ⟨hF1, t5, eρ⟩ => by
          have ⟨hi, _⟩ := rngD_get hx
          have el := longer_eq (Φ := Φ) (W := W) (n + 1) m (tn m i) F' hrm (by unfold line; omega) (fun r hr => by rw [(tn_row hr).1]; unfold line; omega) (by
            have := tn_len6 (m := m) (by omega) (i := i) (by omega)
            have : (tn m i).length * (m : Int).toNat ≤ 46656 * 6 := Nat.mul_le_mul this (by omega)
            unfold line; omega)
          subst eρ hF1
          refine ⟨by simp, .nx, _, F1, ?_, .inl rfl, rfl, .val x, rfl⟩
          simp [callR, hm, el, tn])
      subst hF1
      have rk : (rngD 0 (k : Int)).length = k := rngD_len k
      rw [rk] at e1
      have w1 : ways1 K q j = ((tn m k).filter (goodR K q.2)).map fun r => (j, r) := by unfold ways1; rw [hm, hk]; simp
      have wj := wl j
      have tl := tn_len6 (m := m) (by omega) (i := k) (by omega)
      -- the rows that are kept
      obtain ⟨ρ2, F2, e2, hF2, t6, rfl⟩ := for_v (call := callN Φ W (n + 2)) (W := W) (i := 6) (it := .it (.var 4)) (b := [.ife (.and (.cmp .eq (.call N._law_least [.var 8, .var 6]) (.var 6)) (.cmp .eq (.lc [9] (.con (.int 1)) (.v 9) (.it (.sub (.var 0) (.con (.int 1)))) [.cmp .ne (.call N._law_least [.var 8, .bi .tuple [.lc [10] (.sub (.var 9) (.var 10)) (.v 10) (.it (.var 6)) []]]) (.var 6)]) (.lst []))) [.ex (.app 2 (.tup [.var 3, .var 6]))] []])
        (ρ := [.val (KD K), .val (KS os), .own (.lst ((ways K (os.take j)).map WD)), .val (.int j), .val (.lst ((tn m k).map R)), t5, s6, .val (.int q.1), .val (RR q.2), .no, .no]) (F := F1) (F1 := F1) ((tn m k).map R)
        (fun i ρ F2 => F2 = F1 ∧ ∃ t6, ρ = [.val (KD K), .val (KS os), .own (.lst ((ways K (os.take j) ++ (((tn m k).take i).filter (goodR K q.2)).map fun r => (j, r)).map WD)), .val (.int j), .val (.lst ((tn m k).map R)), t5, t6, .val (.int q.1), .val (RR q.2), .no, .no]) (by simp [evI, itemsOf]) ⟨rfl, s6, by simp⟩
        (fun i x ρ F2 hx ⟨hF2, t6, eρ⟩ => by
          rw [List.getElem?_map, Option.map_eq_some_iff] at hx
          obtain ⟨r, hr, rfl⟩ := hx
          obtain ⟨r1, r2, r3⟩ := tn_row (List.mem_of_getElem? hr)
          have hi := (List.getElem?_eq_some_iff.mp hr).1
          subst eρ hF2
          have hT : ∀ x : List Int, x.length = r.length → callN Φ W (n + 2) N._law_least [RR q.2, R x] F2 = .ok (R (least q.2 x)) false F2 := fun x hx =>
            lleast_eq (Φ := Φ) (W := W) n q.2 x F2 (hgq.turns (by omega) (by unfold line; omega)) hgq.ne hqf
          have hone : ∀ one ∈ K.2, ∀ a ∈ r, 0 ≤ a ∧ a < one.length := fun one h1 a ha => by
            have z1 := (turn_iff.mp (hgk.rows one h1)).1.1
            have z2 := r3 a ha
            omega
          have htk : (tn m k).take (i + 1) = (tn m k).take i ++ [r] := by rw [List.take_succ, hr]; rfl
          have hlen : (((tn m k).take i).filter (goodR K q.2)).length ≤ 46656 := Nat.le_trans (List.length_filter_le _ _) (by rw [List.length_take]; omega)
          have ht := test_ev (call := callN Φ W (n + 2)) (F := F2) (K := K) (q := q) (r := r) (ρ := [.val (KD K), .val (KS os), .own (.lst ((ways K (os.take j) ++ (((tn m k).take i).filter (goodR K q.2)).map fun r => (j, r)).map WD)), .val (.int j), .val (.lst ((tn m k).map R)), t5, .val (R r), .val (.int q.1), .val (RR q.2), .no, .no]) rfl rfl rfl rfl rfl hT hone (by unfold line; omega) hKl
          have hl0 := hT r rfl
          rw [htk, List.filter_append]
          by_cases hg : least q.2 r = r
          · have hst : steady K q.2 r = (K.2.filter fun one => !decide (least q.2 (tr r one) = r)).isEmpty := by
              unfold steady
              rw [hg, Bool.eq_iff_iff, List.all_eq_true, List.isEmpty_iff, List.filter_eq_nil_iff]
              simp
            have hgr : goodR K q.2 r = (K.2.filter fun one => !decide (least q.2 (tr r one) = r)).isEmpty := by
              unfold goodR
              rw [hst, decide_eq_true hg, Bool.true_and]
            rw [hg] at hl0
            have hc := cmpE_ones (K.2.filter fun one => !decide (least q.2 (tr r one) = r))
            cases hs : (K.2.filter fun one => !decide (least q.2 (tr r one) = r)).isEmpty with
            | true =>
              rw [hs] at hgr hc
              refine ⟨by simp, .nx, _, F2, ?_, .inl rfl, rfl, .val (R r), rfl⟩
              have hll : (ways K (os.take j) ++ (((tn m k).take i).filter (goodR K q.2)).map fun r => (j, r)).length < line := by
                rw [List.length_append, List.length_map]; unfold line; omega
              rw [List.length_append, List.length_map] at hll
              simp at ht
              simp [callR, hl0, cmp_eq_R, ht, hc, hgr, ownL, ownOf, hll]
              rfl
            | false =>
              rw [hs] at hgr hc
              refine ⟨by simp, .nx, _, F2, ?_, .inl rfl, rfl, .val (R r), rfl⟩
              simp at ht
              simp [callR, hl0, cmp_eq_R, ht, hc, hgr]
          · have hgr : goodR K q.2 r = false := by unfold goodR; simp [hg]
            refine ⟨by simp, .nx, _, F2, ?_, .inl rfl, rfl, .val (R r), rfl⟩
            simp [callR, hl0, cmp_eq_R, hg, hgr])
      subst hF2
      rw [List.length_map, List.take_length, ← w1] at e2
      refine ⟨_, F2, ?_, .inl rfl, rfl, .val (.int j), .val (.lst ((tn m k).map R)), t5, t6, .val (.int q.1), .val (RR q.2), rfl⟩
      have hw : ways K (os.take (j + 1)) = ways K (os.take j) ++ ways1 K q j := by
        unfold ways
        rw [zipIdx_take hq, List.flatMap_append]
        simp
      rw [hw]
      simp [e1, e2])
  rw [enum_len, List.length_map, List.take_length] at e
  subst hF
  simp [c__law_ways, enter, cellOf, e, Cell.d]
end NW
set_option autoImplicit false
set_option linter.all false
set_option maxRecDepth 100000
/-! NwT4: the law's rows; maps behind one another. -/
namespace NW
open PySem
variable {Φ : Nat → Option Code} {W : Nat} [Lib Φ]
def extN (names : List Int) (row : List Int) : List (List Int) := (names.filter fun a => !decide (a ∈ row)).map fun a => row ++ [a]
def rowsN (names : List Int) : Nat → List (List Int)
  | 0 => [[]]
  | i + 1 => (rowsN names i).flatMap (extN names)
theorem rowsN_rng (m : Int) : ∀ i, rowsN (rng m) i = tn m i
  | 0 => rfl
  | i + 1 => by unfold rowsN tn; rw [rowsN_rng m i]; rfl
theorem rowsN_lens {names : List Int} : ∀ {i : Nat} {r : List Int}, r ∈ rowsN names i → r.length = i
  | 0, r, h => by rw [List.mem_singleton.mp h]; rfl
  | i + 1, r, h => by
    unfold rowsN at h
    rw [List.mem_flatMap] at h
    obtain ⟨x, hx, h⟩ := h
    unfold extN at h
    obtain ⟨a, _, rfl⟩ := List.mem_map.mp h
    simp [rowsN_lens hx]
theorem rows_eq (n : Nat) (names : List Int) (many : Nat) (F : List Cell) (hm : many ≤ 1000) (hn : names.length ≤ line) (hb : ∀ i ≤ many, (rowsN names i).length ≤ line) : callN Φ W (n + 1) N._law_rows [.lst (names.map .int), .int many] F = .ok (.lst ((rowsN names many).map R)) false F := by
  rw [call_eq (c := c__law_rows) (lib_has rfl) _ _ rfl]
  have hr : rngOk 0 (many : Int) = true := by unfold rngOk line; simp; omega
  obtain ⟨ρ', F', e, hF, s3, s4, s5, rfl⟩ := for_v (call := callN Φ W n) (W := W) (i := 3) (it := .rng (.var 1)) (b := [.own 4 (.lst []), .for (.v 5) (.it (.var 2)) [.ex (.ext 4 (.lc [6] (.bin .add (.var 5) (.tup [.var 6])) (.v 6) (.it (.var 0)) [.cmp .nin (.var 6) (.var 5)]))], .set 2 (.var 4)])
    (ρ := [.val (.lst (names.map .int)), .val (.int many), .val (.lst [.tup []]), .no, .no, .no, .no]) (F := F) (F1 := F) (rngD 0 many)
    (fun i ρ F' => F' = F ∧ ∃ s3 s4 s5, ρ = [.val (.lst (names.map .int)), .val (.int many), .val (.lst ((rowsN names i).map R)), s3, s4, s5, .no]) (by simp [evI, hr]) ⟨rfl, _, _, _, rfl⟩
    (fun i x ρ F' hx ⟨hF, s3, s4, s5, eρ⟩ => by
      have ⟨hi, _⟩ := rngD_get hx
      have hb1 := hb (i + 1) (by omega)
      obtain ⟨ρ1, F1, e1, hF1, t5, rfl⟩ := for_v (call := callN Φ W n) (W := W) (i := 5) (it := .it (.var 2)) (b := [.ex (.ext 4 (.lc [6] (.bin .add (.var 5) (.tup [.var 6])) (.v 6) (.it (.var 0)) [.cmp .nin (.var 6) (.var 5)]))])
        (ρ := [.val (.lst (names.map .int)), .val (.int many), .val (.lst ((rowsN names i).map R)), .val x, .own (.lst []), s5, .no]) (F := F') (F1 := F') ((rowsN names i).map R)
        (fun j ρ F1 => F1 = F' ∧ ∃ t5, ρ = [.val (.lst (names.map .int)), .val (.int many), .val (.lst ((rowsN names i).map R)), .val x, .own (.lst ((((rowsN names i).take j).flatMap (extN names)).map R)), t5, .no]) (by simp [evI, itemsOf]) ⟨rfl, s5, by simp⟩
        (fun j y ρ F1 hy ⟨hF1, t5, eρ1⟩ => by
          rw [List.getElem?_map, Option.map_eq_some_iff] at hy
          obtain ⟨r, hr, rfl⟩ := hy
          have hrl := rowsN_lens (List.mem_of_getElem? hr)
          have htk : (rowsN names i).take (j + 1) = (rowsN names i).take j ++ [r] := by rw [List.take_succ, hr]; rfl
          have hle : (((rowsN names i).take j).flatMap (extN names)).length + (extN names r).length ≤ line := by
            have h1 : ((rowsN names i).take (j + 1)).flatMap (extN names) = ((rowsN names i).take j).flatMap (extN names) ++ extN names r := by rw [htk, List.flatMap_append]; simp
            have h2 : (rowsN names i).flatMap (extN names) = ((rowsN names i).take (j + 1)).flatMap (extN names) ++ ((rowsN names i).drop (j + 1)).flatMap (extN names) := by
              rw [← List.flatMap_append, List.take_append_drop]
            have h3 : (rowsN names (i + 1)).length = ((rowsN names i).flatMap (extN names)).length := rfl
            rw [h2, h1, List.length_append, List.length_append] at h3
            omega
          subst eρ1 hF1
          have ec := lc_vf (call := callN Φ W n) (vs := [6]) (e := .bin .add (.var 5) (.tup [.var 6])) (c := .cmp .nin (.var 6) (.var 5)) (i := 6) (it := .it (.var 0))
            (ρ := [.val (.lst (names.map .int)), .val (.int many), .val (.lst ((rowsN names i).map R)), .val x, .own (.lst ((((rowsN names i).take j).flatMap (extN names)).map R)), .val (R r), .no]) (F := F1) names (fun a => !decide (a ∈ r)) .int (fun a => R (r ++ [a])) (by simp [evI, itemsOf]) (by simp [hasOwn, ownOf]) (by simp) (by simp)
            (fun a ha => by simp [wipeS, nin_R]) (fun a ha _ => by simp [wipeS, add_R r a (by unfold line; omega)]) hn
          refine ⟨by simp, .nx, _, F1, ?_, .inl rfl, rfl, .val (R r), rfl⟩
          rw [htk, List.flatMap_append]
          have ex : (extN names r).map R = ((names.filter fun a => !decide (a ∈ r)).map fun a => R (r ++ [a])) := by unfold extN; rw [List.map_map]; rfl
          rw [← ex] at ec
          simp at ec hle
          simp [ownL, ownOf, ec, hle])
      rw [List.length_map, List.take_length] at e1
      subst eρ hF hF1
      refine ⟨by simp, .nx, _, F1, ?_, .inl rfl, rfl, .val x, .val (.lst ((rowsN names (i + 1)).map R)), t5, rfl⟩
      simp [cellOf, e1, rowsN, Cell.d])
  rw [rngD_len] at e
  subst hF
  simp [c__law_rows, enter, e]
/-- a map behind a map -/
def behW (last : List Kind) (second : List Wy) (w : Wy) : Wy := ((second.getD w.1 (0, [])).1, least (kd last (second.getD w.1 (0, [])).1).2 (tr (second.getD w.1 (0, [])).2 w.2))
theorem behind_eq (n : Nat) (last : List Kind) (first second : List Wy) (F : List Cell) (hl : first.length ≤ line)
    (h : ∀ w ∈ first, w.1 < second.length ∧ (second.getD w.1 (0, [])).1 < last.length ∧ (∀ a ∈ (second.getD w.1 (0, [])).2, 0 ≤ a ∧ a < w.2.length) ∧ (second.getD w.1 (0, [])).2.length ≤ line ∧
      ∃ m : Nat, m ≤ 6 ∧ (second.getD w.1 (0, [])).2.length = m ∧ Grp m (kd last (second.getD w.1 (0, [])).1).2) : callN Φ W (n + 3) N._law_behind [KS last, WS first, WS second] F = .ok (WS (first.map (behW last second))) false F := by
  rw [call_eq (c := c__law_behind) (lib_has rfl) _ _ rfl]
  obtain ⟨ρ', F', e, hF, s4, s5, s6, s7, rfl⟩ := for_g (call := callN Φ W (n + 2)) (W := W) (tg := .t [.v 4, .v 5]) (it := .it (.var 1)) (b := [.tup (.t [.v 6, .v 7]) (.sub (.var 2) (.var 4)), .ex (.app 3 (.tup [.var 6, .call N._law_least [.sub (.sub (.var 0) (.var 6)) (.con (.int 1)), .call N._law_turned [.var 7, .var 5]]]))])
    (ρ := [.val (KS last), .val (WS first), .val (WS second), .own (.lst []), .no, .no, .no, .no]) (F := F) (F1 := F) (first.map WD)
    (fun j ρ F' => F' = F ∧ ∃ s4 s5 s6 s7, ρ = [.val (KS last), .val (WS first), .val (WS second), .own (.lst ((first.take j).map fun w => WD (behW last second w))), s4, s5, s6, s7]) (by simp [evI, WS, itemsOf]) ⟨rfl, _, _, _, _, rfl⟩
    (fun j x ρ F' hx ⟨hF, s4, s5, s6, s7, eρ⟩ => by
      rw [List.getElem?_map, Option.map_eq_some_iff] at hx
      obtain ⟨w, hw, rfl⟩ := hx
      have hj := (List.getElem?_eq_some_iff.mp hw).1
      obtain ⟨h1, h2, h3, h4, m, hm6, hm, hg⟩ := h w (List.mem_of_getElem? hw)
      have es : subD F' (WS second) (.int w.1) = some (WD (second.getD w.1 (0, []))) := by
        show atD (second.map WD) w.1 = _
        rw [atD_nn (by omega) (by simp; omega)]
        simp [List.getD_eq_getElem?_getD, h1]
      generalize hu : second.getD w.1 (0, []) = u at *
      have e2 := sub_KS h2 F'
      have e3 := lturned_eq (Φ := Φ) (W := W) (n + 1) u.2 w.2 F' h3 h4
      have tl : (tr u.2 w.2).length = m := by simp [tr, hm]
      have e4 := lleast_eq (Φ := Φ) (W := W) n (kd last u.1).2 (tr u.2 w.2) F' (hg.turns tl (by unfold line; omega)) hg.ne (Nat.le_trans hg.len (Nat.le_trans (tns_len6 m hm6) (by decide)))
      have htk : first.take (j + 1) = first.take j ++ [w] := by rw [List.take_succ, hw]; rfl
      have hlt : (first.take j).length < line := by rw [List.length_take]; omega
      subst eρ hF
      refine ⟨_, (show assignTg _ (D.tup [.int w.1, R w.2]) _ = some _ from by (simp; rfl)), .nx, _, F', ?_, .inl rfl, rfl, .val (.int w.1), .val (R w.2), .val (.int u.1), .val (R u.2), rfl⟩
      rw [htk]
      have eb : WD (behW last second w) = .tup [.int u.1, R (least (kd last u.1).2 (tr u.2 w.2))] := by unfold behW; rw [hu]; rfl
      simp [es, eb]
      have ea : assignTg (.t [.v 6, .v 7]) (WD u) [.val (KS last), .val (WS first), .val (WS second), .own (.lst ((first.take j).map fun w => WD (behW last second w))), .val (.int w.1), .val (R w.2), s6, s7] = some [.val (KS last), .val (WS first), .val (WS second), .own (.lst ((first.take j).map fun w => WD (behW last second w))), .val (.int w.1), .val (R w.2), .val (.int u.1), .val (R u.2)] := by
        show assignTg _ (D.tup [.int u.1, R u.2]) _ = _
        simp
      simp at ea hlt
      simp [ea, callR, e2, e3, e4, ownL, ownOf, hlt])
  rw [List.length_map, List.take_length] at e
  subst hF
  simp [c__law_behind, enter, cellOf, e, heldOf, Cell.d]
  simp [WS, List.map_map]
end NW
set_option autoImplicit false
set_option linter.all false
set_option maxRecDepth 100000
/-! K03a: plain facts of maps; all ways. -/
namespace NW.K03
open PySem NW
variable {Φ : Nat → Option Code} {W : Nat} [Own Φ]
/-- by its form a row of a map -/
def RowOk (K : Kind) (os : List Kind) (w : Wy) : Prop := w.1 < os.length ∧ (w.2.length : Int) = (kd os w.1).1 ∧ w.2.Nodup ∧ ∀ a ∈ w.2, 0 ≤ a ∧ a < K.1
theorem rowF_iff {K : Kind} {os : List Kind} {w : Wy} : rowF K os w = true ↔ RowOk K os w := by
  unfold rowF RowOk
  rw [Bool.and_eq_true, Bool.and_eq_true, unl_iff, decide_eq_true_eq, decide_eq_true_eq]
  exact ⟨fun ⟨a, ⟨b, c⟩, d⟩ => ⟨a, d, c, b⟩, fun ⟨a, d, c, b⟩ => ⟨a, ⟨b, c⟩, d⟩⟩
def Way (K : Kind) (os : List Kind) (w : Wy) : Prop := RowOk K os w ∧ goodW K os w = true
theorem mem_zipIdx_kd {os : List Kind} {p : Kind × Nat} : p ∈ os.zipIdx ↔ p.2 < os.length ∧ kd os p.2 = p.1 := by
  obtain ⟨q, i⟩ := p
  rw [List.mk_mem_zipIdx_iff_getElem?]
  unfold kd
  constructor
  · intro h
    have hi := (List.getElem?_eq_some_iff.mp h).1
    exact ⟨hi, by simp [List.getD_eq_getElem?_getD, h]⟩
  · rintro ⟨h1, h2⟩
    simp only [List.getD_eq_getElem?_getD, List.getElem?_eq_getElem h1, Option.getD_some] at h2
    simp only at h1
    rw [List.getElem?_eq_getElem h1, h2]
theorem mem_tn_iff {m i : Nat} {r : List Int} : r ∈ tn m i ↔ r.length = i ∧ r.Nodup ∧ ∀ a ∈ r, 0 ≤ a ∧ a < (m : Int) := ⟨tn_row, fun ⟨a, b, c⟩ => mem_tn a b c⟩
def allW (K : Kind) (os : List Kind) : List Wy := os.zipIdx.flatMap fun p => (tn K.1 p.1.1.toNat).map fun r => (p.2, r)
section
variable {K : Kind} {os : List Kind} {hi hi2 : Nat} (hK : KOk 0 hi K) (hos : ∀ q ∈ os, KOk 0 hi2 q)
include hK hos
theorem mem_allW {w : Wy} : w ∈ allW K os ↔ RowOk K os w := by
  obtain ⟨m, hm, _, _, _⟩ := hK
  unfold allW RowOk
  rw [List.mem_flatMap]
  constructor
  · rintro ⟨p, hp, h⟩
    obtain ⟨r, hr, rfl⟩ := List.mem_map.mp h
    obtain ⟨h1, h2⟩ := mem_zipIdx_kd.mp hp
    rw [hm] at hr
    obtain ⟨r1, r2, r3⟩ := tn_row hr
    obtain ⟨k, hk, _, _, _⟩ := kok_mem hos h1
    rw [h2] at hk
    refine ⟨h1, ?_, r2, by rw [hm]; exact r3⟩
    show (r.length : Int) = (kd os p.2).1
    rw [h2, r1, hk]; simp
  · rintro ⟨h1, h2, h3, h4⟩
    refine ⟨(kd os w.1, w.1), mem_zipIdx_kd.mpr ⟨h1, rfl⟩, List.mem_map.mpr ⟨w.2, ?_, rfl⟩⟩
    rw [hm] at h4 ⊢
    refine mem_tn ?_ h3 h4
    show w.2.length = (kd os w.1).1.toNat
    omega
theorem mem_ways {w : Wy} : w ∈ ways K os ↔ Way K os w := by
  have ha := mem_allW hK hos (w := w)
  unfold Way
  rw [← ha]
  unfold ways allW ways1
  simp only [List.mem_flatMap, List.mem_map, List.mem_filter]
  constructor
  · rintro ⟨p, hp, r, ⟨h1, h2⟩, rfl⟩
    refine ⟨⟨p, hp, r, h1, rfl⟩, ?_⟩
    obtain ⟨h3, h4⟩ := mem_zipIdx_kd.mp hp
    show goodW K os (p.2, r) = true
    unfold goodW
    rw [h4]
    exact h2
  · rintro ⟨⟨p, hp, r, h1, rfl⟩, h2⟩
    obtain ⟨h3, h4⟩ := mem_zipIdx_kd.mp hp
    refine ⟨p, hp, r, ⟨h1, ?_⟩, rfl⟩
    unfold goodW at h2
    rw [h4] at h2
    exact h2
end
theorem allW_len {hi : Nat} (hh : hi ≤ 3) {K : Kind} (hK : KOk 0 hi K) : ∀ {os : List Kind} (n : Nat), (∀ q ∈ os, KOk 0 hi q) → ((os.zipIdx n).flatMap fun p => (tn K.1 p.1.1.toNat).map fun r => (p.2, r)).length ≤ os.length * 27
  | [], n, _ => by simp
  | q :: os, n, h => by
    have ih := allW_len hh hK (os := os) (n + 1) fun q hq => h q (List.mem_cons_of_mem _ hq)
    obtain ⟨m, hm, _, hm2, _⟩ := hK
    obtain ⟨k, hk, _, hk2, _⟩ := h q List.mem_cons_self
    have h1 : (tn m k).length ≤ 27 := by
      have h1 := tn_len m k
      have h2 : (m : Int).toNat ^ k ≤ 3 ^ k := Nat.pow_le_pow_left (by omega) _
      have h3 : 3 ^ k ≤ 3 ^ 3 := Nat.pow_le_pow_right (by decide) (by omega)
      omega
    simp only [List.zipIdx_cons, List.flatMap_cons, List.length_append, List.length_cons, List.length_map]
    have h2 : (tn K.1 q.1.toNat).length ≤ 27 := by rw [hm, hk]; exact h1
    omega
theorem all_ways_eq (n : Nat) {hi : Nat} (hh : hi ≤ 3) (K : Kind) (os : List Kind) (F : List Cell) (hK : KOk 0 hi K) (hos : ∀ q ∈ os, KOk 0 hi q) (hl : os.length ≤ 20) : callN Φ W (n + 2) N._law_all_ways [KD K, KS os] F = .ok (.lst ((allW K os).map WD)) false F := by
  rw [call_eq (c := c__law_all_ways) (own_has rfl) _ _ rfl]
  have al : ∀ j, (allW K (os.take j)).length ≤ 20 * 27 := fun j => by
    refine Nat.le_trans (allW_len hh hK 0 (fun q hq => hos q (List.mem_of_mem_take hq))) ?_
    have : (os.take j).length ≤ 20 := by rw [List.length_take]; omega
    omega
  obtain ⟨m, hm, _, hm6, hgk⟩ := hK
  obtain ⟨ρ', F', e, hF, s3, s4, s5, rfl⟩ := for_g (call := callN Φ W (n + 1)) (W := W) (tg := .t [.v 3, .t [.v 4, .v 5]]) (it := .enum (.var 1)) (b := [.ex (.ext 2 (.lc [6] (.tup [.var 3, .var 6]) (.v 6) (.it (.call N._law_rows [.rngL (.sub (.var 0) (.con (.int 0))), .var 4])) []))])
    (ρ := [.val (KD K), .val (KS os), .own (.lst []), .no, .no, .no, .no]) (F := F) (F1 := F) (enumD (os.map KD))
    (fun j ρ F' => F' = F ∧ ∃ s3 s4 s5, ρ = [.val (KD K), .val (KS os), .own (.lst ((allW K (os.take j)).map WD)), s3, s4, s5, .no]) (by simp [evI, KS]) ⟨rfl, .no, .no, .no, by simp [allW]⟩
    (fun j x ρ F' hx ⟨hF, s3, s4, s5, eρ⟩ => by
      obtain ⟨q, hq, rfl⟩ := enum_get hx
      subst eρ hF
      obtain ⟨k, hk, _, hk6, hgq⟩ := hos q (List.mem_of_getElem? hq)
      have hrm : rngOk 0 (m : Int) = true := by unfold rngOk line; simp; omega
      have er := rows_eq (Φ := Φ) (W := W) n (rng m) k F' (by omega) (by rw [rng_len]; unfold line; omega) (fun i hi => by
        rw [rowsN_rng]
        exact Nat.le_trans (tn_len6 (by omega) (by omega)) (by decide))
      rw [rowsN_rng] at er
      have e0 : rngD 0 (m : Int) = (rng m).map D.int := rngD_map m
      rw [← e0] at er
      have hw : allW K (os.take (j + 1)) = allW K (os.take j) ++ (tn m k).map fun r => (j, r) := by
        unfold allW
        rw [zipIdx_take hq, List.flatMap_append]
        simp [hm, hk]
      have hlen := al (j + 1)
      rw [hw, List.length_append, List.length_map] at hlen
      have ec := lc_v (call := callN Φ W (n + 1)) (vs := [6]) (e := .tup [.var 3, .var 6]) (i := 6) (it := .it (.call N._law_rows [.rngL (.sub (.var 0) (.con (.int 0))), .var 4]))
        (ρ := [.val (KD K), .val (KS os), .own (.lst ((allW K (os.take j)).map WD)), .val (.int j), .val (.int q.1), .val (RR q.2), .no]) (F := F') (tn m k) R (fun r => WD (j, r)) (by simp [evI, hm, hk, hrm, callR, er, itemsOf]) (by simp [hasOwn, ownOf]) (by simp) (by simp)
        (fun r hr => by simp [wipeS, WD]) (by unfold line; omega)
      refine ⟨_, (show assignTg _ (D.tup [.int j, .tup [.int q.1, RR q.2]]) _ = some _ from by (simp; rfl)), .nx, _, F', ?_, .inl rfl, rfl, .val (.int j), .val (.int q.1), .val (RR q.2), rfl⟩
      have hle : (allW K (os.take j)).length + (tn m k).length ≤ line := by unfold line; omega
      have ex : (tn m k).map (fun r => WD (j, r)) = ((tn m k).map fun r => (j, r)).map WD := by rw [List.map_map]; rfl
      rw [hw]
      simp [ownL, ownOf, ec, hle]
      rfl)
  rw [enum_len, List.length_map, List.take_length] at e
  subst hF
  simp [c__law_all_ways, enter, cellOf, e, Cell.d]
end NW.K03
set_option autoImplicit false
set_option linter.all false
set_option maxRecDepth 100000
/-! K03b: maps behind one another; what is due. -/
namespace NW.K03
open PySem NW
theorem tr_asc {g x y : List Int} (hg : ∀ a ∈ g, 0 ≤ a ∧ a < x.length) : tr (tr g x) y = tr g (tr x y) := by
  unfold tr
  rw [List.map_map]
  refine List.map_congr_left fun a ha => ?_
  have ⟨h0, h1⟩ := hg a ha
  have hl : a.toNat < x.length := by omega
  simp [List.getD_eq_getElem?_getD, List.getElem?_eq_getElem hl]
theorem tr_mem {g x : List Int} (hg : ∀ a ∈ g, 0 ≤ a ∧ a < x.length) {b : Int} (h : b ∈ tr g x) : b ∈ x := by
  unfold tr at h
  obtain ⟨a, ha, rfl⟩ := List.mem_map.mp h
  have ⟨h0, h1⟩ := hg a ha
  have hl : a.toNat < x.length := by omega
  rw [List.getD_eq_getElem?_getD, List.getElem?_eq_getElem hl]
  exact List.getElem_mem hl
theorem tr_nodup' {g x : List Int} (hg : ∀ a ∈ g, 0 ≤ a ∧ a < x.length) (gn : g.Nodup) (xn : x.Nodup) : (tr g x).Nodup := by
  unfold tr
  rw [List.Nodup, List.pairwise_map]
  refine List.Pairwise.imp_of_mem ?_ gn
  intro a b ha hb hab e
  have h1 := hg a ha
  have h2 := hg b hb
  have := getD_inj xn (by omega) (by omega) e
  omega
theorem tr_length (g x : List Int) : (tr g x).length = g.length := by simp [tr]
theorem steady_iff {K : Kind} {g : List (List Int)} {r : List Int} : steady K g r = true ↔ ∀ one ∈ K.2, least g (tr r one) = least g r := by
  unfold steady
  simp
theorem goodW_iff {K : Kind} {os : List Kind} {w : Wy} : goodW K os w = true ↔ least (kd os w.1).2 w.2 = w.2 ∧ ∀ one ∈ K.2, least (kd os w.1).2 (tr w.2 one) = least (kd os w.1).2 w.2 := by
  unfold goodW
  rw [Bool.and_eq_true, decide_eq_true_eq, steady_iff]
theorem way_behind {K : Kind} {os ls : List Kind} {h1 h2 h3 : Nat} (hK : KOk 0 h1 K) (hos : ∀ q ∈ os, KOk 0 h2 q) (hls : ∀ q ∈ ls, KOk 0 h3 q) {w u : Wy} (hw : Way K os w) (hu : Way (kd os w.1) ls u) : Way K ls (u.1, least (kd ls u.1).2 (tr u.2 w.2)) := by
  obtain ⟨⟨w1, w2, w3, w4⟩, w5⟩ := hw
  obtain ⟨⟨u1, u2, u3, u4⟩, u5⟩ := hu
  obtain ⟨w5, w6⟩ := goodW_iff.mp w5
  obtain ⟨u5, u6⟩ := goodW_iff.mp u5
  obtain ⟨m, hm, _, _, gK⟩ := hK
  obtain ⟨k, hk, _, _, gq⟩ := kok_mem hos w1
  obtain ⟨j, hj, _, _, gl⟩ := kok_mem hls u1
  have lw : w.2.length = k := by omega
  have lu : u.2.length = j := by omega
  have hx : ∀ a ∈ u.2, 0 ≤ a ∧ a < w.2.length := fun a ha => by have := u4 a ha; omega
  have lx : (tr u.2 w.2).length = j := by rw [tr_length, lu]
  obtain ⟨t, ht, et⟩ := least_is gl (tr u.2 w.2)
  have hgl : ∀ g ∈ (kd ls u.1).2, ∀ a ∈ g, 0 ≤ a ∧ a < (j : Int) := fun g hg => (turn_iff.mp (gl.rows g hg)).1.2
  have hgt : ∀ a ∈ t, 0 ≤ a ∧ a < (tr u.2 w.2).length := fun a ha => by have := hgl t ht a ha; omega
  refine ⟨⟨u1, ?_, ?_, ?_⟩, goodW_iff.mpr ⟨least_least gl _, fun one h1 => ?_⟩⟩
  · show ((least (kd ls u.1).2 (tr u.2 w.2)).length : Int) = _
    have := (turn_iff.mp (gl.rows t ht)).1.1
    rw [et, tr_length]
    show _ = (kd ls u.1).1
    omega
  · show (least (kd ls u.1).2 (tr u.2 w.2)).Nodup
    rw [et]
    exact tr_nodup' hgt (turn_iff.mp (gl.rows t ht)).2 (tr_nodup' hx u3 w3)
  · intro a ha
    have ha : a ∈ least (kd ls u.1).2 (tr u.2 w.2) := ha
    rw [et] at ha
    exact w4 a (tr_mem hx (tr_mem hgt ha))
  · show least (kd ls u.1).2 (tr (least (kd ls u.1).2 (tr u.2 w.2)) one) = least (kd ls u.1).2 (least (kd ls u.1).2 (tr u.2 w.2))
    rw [least_least gl, et, tr_asc hgt, least_turn gl ht, tr_asc hx]
    obtain ⟨h, hh, e1⟩ := least_same gq (r := tr w.2 one) (s := w.2) (by rw [tr_length, lw]) (w6 one h1)
    have hP := (turn_iff.mp (gq.rows h hh)).1
    rw [e1, ← tr_asc (g := u.2) (x := h) (fun a ha => by have := u4 a ha; have := hP.1; omega)]
    obtain ⟨g, hg, e2⟩ := least_same gl (r := tr u.2 h) (s := u.2) (by rw [tr_length, lu]) (u6 h hh)
    rw [e2, tr_asc (g := g) (x := u.2) (fun a ha => by have := hgl g hg a ha; omega), least_turn gl hg]
    exact et
theorem way_still {ks : List Kind} {hi : Nat} (hks : ∀ q ∈ ks, KOk 0 hi q) {i : Nat} (h : i < ks.length) : Way (kd ks i) ks (i, rng (kd ks i).1) := by
  obtain ⟨m, hm, _, _, g⟩ := kok_mem hks h
  have hr := turn_iff.mp (turn_rng m)
  rw [hm]
  refine ⟨⟨h, ?_, hr.2, by rw [hm]; exact hr.1.2⟩, goodW_iff.mpr ⟨least_rng g g.still, fun one h1 => ?_⟩⟩
  · show ((rng m).length : Int) = (kd ks i).1
    rw [hr.1.1, hm]
  · show least (kd ks i).2 (tr (rng m) one) = least (kd ks i).2 (rng m)
    rw [tr_rng (turn_iff.mp (g.rows one h1)).1, least_rng g h1, least_rng g g.still]
/-! ### what is due -/
def Fits (ks os : List Kind) (f : List Wy) : Prop := f.length = ks.length ∧ ∀ (i : Nat) (w : Wy), f[i]? = some w → RowOk (kd ks i) os w
def allGood (ks os : List Kind) (f : List Wy) : Bool := (ks.zip f).all fun p => decide (p.2 ∈ ways p.1 os)
theorem zip_at {α β : Type} {a : List α} {b : List β} {p : α × β} (h : p ∈ a.zip b) : ∃ i : Nat, a[i]? = some p.1 ∧ b[i]? = some p.2 := by
  obtain ⟨i, hi⟩ := List.mem_iff_getElem?.mp h
  rw [List.getElem?_zip_eq_some] at hi
  exact ⟨i, hi⟩
theorem kd_at {ks : List Kind} {i : Nat} {q : Kind} (h : ks[i]? = some q) : kd ks i = q := by
  unfold kd
  rw [List.getD_eq_getElem?_getD, h]
  rfl
theorem mapF_fits {ks os : List Kind} {h1 h2 : Nat} (hks : ∀ q ∈ ks, KOk 0 h1 q) (hos : ∀ q ∈ os, KOk 0 h2 q) {f : List Wy} (h : Fits ks os f) : mapF ks os f = allGood ks os f := by
  have hr : ∀ p ∈ ks.zip f, RowOk p.1 os p.2 := fun p hp => by
    obtain ⟨i, e1, e2⟩ := zip_at hp
    have := h.2 i p.2 e2
    rwa [kd_at e1] at this
  unfold mapF rowsF allGood
  rw [decide_eq_true h.1, Bool.true_and]
  have : ((ks.zip f).all fun p => rowF p.1 os p.2) = true := List.all_eq_true.mpr fun p hp => rowF_iff.mpr (hr p hp)
  rw [this, Bool.true_and]
  have hg : ∀ p ∈ ks.zip f, (goodW p.1 os p.2 = true ↔ decide (p.2 ∈ ways p.1 os) = true) := fun p hp => by
    rw [decide_eq_true_eq, mem_ways (hks _ (List.of_mem_zip hp).1) hos]
    exact ⟨fun h => ⟨hr p hp, h⟩, fun h => h.2⟩
  rw [Bool.eq_iff_iff, List.all_eq_true, List.all_eq_true]
  exact ⟨fun h p hp => (hg p hp).mp (h p hp), fun h p hp => (hg p hp).mpr (h p hp)⟩
theorem allGood_iff {ks os : List Kind} {f : List Wy} (hl : f.length = ks.length) : allGood ks os f = true ↔ ∀ (i : Nat) (w : Wy), f[i]? = some w → w ∈ ways (kd ks i) os := by
  unfold allGood
  rw [List.all_eq_true]
  constructor
  · intro h i w hw
    have hi := (List.getElem?_eq_some_iff.mp hw).1
    have hk : ks[i]? = some (kd ks i) := by
      rw [List.getElem?_eq_getElem (by omega), ← kd_at (List.getElem?_eq_getElem (show i < ks.length by omega))]
    have := h (kd ks i, w) (List.mem_iff_getElem?.mpr ⟨i, List.getElem?_zip_eq_some.mpr ⟨hk, hw⟩⟩)
    simpa using this
  · intro h p hp
    obtain ⟨i, e1, e2⟩ := zip_at hp
    have := h i p.2 e2
    rw [kd_at e1] at this
    simpa using this
theorem due_one {ks os : List Kind} {f : List Wy} (hl : f.length = ks.length) (hf : ∀ (i : Nat) (w : Wy), f[i]? = some w → w ∈ ways (kd ks i) os) {a : Nat} (ha : a < ks.length) (w : Wy) : allGood ks os (f.set a w) = decide (w ∈ ways (kd ks a) os) := by
  rw [Bool.eq_iff_iff, allGood_iff (by rw [List.length_set, hl]), decide_eq_true_eq]
  constructor
  · intro h
    exact h a w (List.getElem?_set_self (by omega))
  · intro h i w' hw
    rw [List.getElem?_set] at hw
    split at hw
    · rename_i e
      split at hw
      · cases hw; rw [← e]; exact h
      · cases hw
    · exact hf i w' hw
theorem due_all {os : List Kind} : ∀ (ks : List Kind) (f : List Wy), ((f.zip (ks.map fun K => ways K os)).filter fun p => !decide (p.1 ∈ p.2)).isEmpty = allGood ks os f
  | [], f => by cases f <;> rfl
  | K :: ks, [] => rfl
  | K :: ks, w :: f => by
    have ih := due_all (os := os) ks f
    unfold allGood at ih ⊢
    simp only [List.map_cons, List.zip_cons_cons, List.filter_cons, List.all_cons]
    rw [← ih]
    by_cases h : w ∈ ways K os <;> simp [h]
theorem fits_set {ks os : List Kind} {f : List Wy} (h : Fits ks os f) {a : Nat} {w : Wy} (hw : RowOk (kd ks a) os w) : Fits ks os (f.set a w) := by
  refine ⟨by rw [List.length_set, h.1], fun i w' e => ?_⟩
  rw [List.getElem?_set] at e
  split at e
  · rename_i ea
    split at e
    · cases e; rw [← ea]; exact hw
    · cases e
  · exact h.2 i w' e
theorem fits_good {ks os : List Kind} {h1 h2 : Nat} (hks : ∀ q ∈ ks, KOk 0 h1 q) (hos : ∀ q ∈ os, KOk 0 h2 q) {f : List Wy} (hl : f.length = ks.length) (hf : ∀ (i : Nat) (w : Wy), f[i]? = some w → w ∈ ways (kd ks i) os) : Fits ks os f :=
  ⟨hl, fun i w e => ((mem_ways (kok_mem hks (by have := (List.getElem?_eq_some_iff.mp e).1; omega)) hos).mp (hf i w e)).1⟩
theorem mapF_good {ks os : List Kind} {h1 h2 : Nat} (hks : ∀ q ∈ ks, KOk 0 h1 q) (hos : ∀ q ∈ os, KOk 0 h2 q) {f : List Wy} (hl : f.length = ks.length) (hf : ∀ (i : Nat) (w : Wy), f[i]? = some w → Way (kd ks i) os w) : mapF ks os f = true := by
  have hf' : ∀ (i : Nat) (w : Wy), f[i]? = some w → w ∈ ways (kd ks i) os := fun i w e => (mem_ways (kok_mem hks (by have := (List.getElem?_eq_some_iff.mp e).1; omega)) hos).mpr (hf i w e)
  rw [mapF_fits hks hos (fits_good hks hos hl hf'), allGood_iff hl]
  exact hf'
end NW.K03
set_option autoImplicit false
set_option linter.all false
set_option maxRecDepth 100000
/-! K03c: the law's inner loop. -/
namespace NW.K03
open PySem NW
variable {Φ : Nat → Option Code} {W : Nat} [Own Φ]
def WL (ws : List Wy) : D := .lst (ws.map WD)
def GD (ks os : List Kind) : D := .lst (ks.map fun K => WL (ways K os))
theorem WD_eqv (a b : Wy) : D.eqv (WD a) (WD b) = decide (a = b) := by
  obtain ⟨i, r⟩ := a
  obtain ⟨j, s⟩ := b
  unfold WD
  simp only [D.eqv, D.eqvs, eqv_R, Bool.and_true]
  rw [Bool.eq_iff_iff]
  simp
  omega
theorem WD_da (n : Nat) (w : Wy) : D.da (n + 2) (WD w) = true := by
  unfold WD
  simp [D.da, D.das, R, das_ints]
theorem WD_das (n : Nat) : ∀ ws : List Wy, D.das (n + 2) (ws.map WD) = true
  | [] => by simp [D.das]
  | w :: ws => by simp [D.das, WD_da, WD_das n ws]
theorem any_W (w : Wy) (ws : List Wy) : ((ws.map WD).any fun z => D.eqv z (WD w)) = decide (w ∈ ws) := by
  rw [Bool.eq_iff_iff, List.any_eq_true, decide_eq_true_eq]
  constructor
  · rintro ⟨z, hz, e⟩
    obtain ⟨v, hv, rfl⟩ := List.mem_map.mp hz
    rw [WD_eqv, decide_eq_true_eq] at e
    rw [← e]; exact hv
  · intro h
    exact ⟨WD w, List.mem_map.mpr ⟨w, h, rfl⟩, by rw [WD_eqv]; simp⟩
theorem inn_W (w : Wy) (ws : List Wy) : cmpD .inn (WD w) (WL ws) = some (decide (w ∈ ws)) := by
  show (inL _ _).map _ = _
  unfold inL
  rw [if_pos (by simp [WD_da 58 w, D.da, WD_das 58 ws]), any_W]
  rfl
theorem nin_W (w : Wy) (ws : List Wy) : cmpD .nin (WD w) (WL ws) = some (!decide (w ∈ ws)) := by
  show (inL _ _).map _ = _
  unfold inL
  rw [if_pos (by simp [WD_da 58 w, D.da, WD_das 58 ws]), any_W]
  rfl
theorem sub_GD {ks os : List Kind} {a : Nat} (h : a < ks.length) (F : List Cell) : subD F (GD ks os) (.int a) = some (WL (ways (kd ks a) os)) := by
  show atD (ks.map _) a = _
  rw [atD_nn (by omega) (by simp; omega)]
  simp [kd, List.getD_eq_getElem?_getD, h]
theorem set_W {f : List Wy} {a : Nat} (h : a < f.length) (w : Wy) : setCell (.lst (f.map WD)) (.int a) (WD w) = some (.lst ((f.set a w).map WD)) := by
  show ((ixD _ _).map _) = _
  unfold ixD
  rw [if_pos (by omega), if_pos (by simp; omega)]
  simp [List.map_set]
theorem none_ok : KOk 0 3 (0, [[]]) := ⟨0, rfl, by omega, by omega, ⟨by decide, by simp [Asc], by decide, by decide⟩⟩
theorem ways_ne {K : Kind} {os : List Kind} {h1 h2 : Nat} (hK : KOk 0 h1 K) (hos : ∀ q ∈ os, KOk 0 h2 q) (h : (0, [[]]) ∈ os) : ways K os ≠ [] := by
  obtain ⟨i, hi, e⟩ := List.mem_iff_getElem.mp h
  have ek : kd os i = (0, [[]]) := kd_at (by rw [List.getElem?_eq_getElem hi, e])
  have : (i, []) ∈ ways K os := (mem_ways hK hos).mpr ⟨⟨hi, by rw [ek]; rfl, by simp, by simp⟩, goodW_iff.mpr ⟨by rw [ek]; rfl, fun one _ => by rw [ek]; rfl⟩⟩
  exact List.ne_nil_of_mem this
theorem ways_le {K : Kind} {os : List Kind} {h1 : Nat} (hh : h1 ≤ 6) (hK : KOk 0 h1 K) (hos : ∀ q ∈ os, KOk 0 h1 q) (hl : os.length ≤ 20) : (ways K os).length ≤ line := by
  have := ways_len hh hK 0 hos
  unfold ways line
  omega
/-- a way of each thing's -/
theorem pick (k : Nat) {ks os : List Kind} (hks : ∀ q ∈ ks, KOk 0 3 q) (hos : ∀ q ∈ os, KOk 0 3 q) (h0 : (0, [[]]) ∈ os) (hl : ks.length ≤ 20) (hol : os.length ≤ 20) {ρ : List Slot} {F : List Cell} {n B : Nat} (hF : Feed F n B) (hB : B ≤ 10 ^ 8)
    (r0 : ρ[0]? = some (.val (.mref n))) (r4 : ρ[4]? = some (.val (GD ks os))) (r15 : ρ[15]? = some .no) :
    ∃ (f : List Wy) (F' : List Cell), ev (callN Φ W (k + 2)) (.lc [15] (.call N._law_one [.var 0, .var 15]) (.v 15) (.it (.var 4)) []) ⟨ρ, F⟩ = .ok (.lst (f.map WD), ⟨ρ, F'⟩) ∧ f.length = ks.length ∧ (∀ (i : Nat) (w : Wy), f[i]? = some w → w ∈ ways (kd ks i) os) ∧ Feed F' n (B + ks.length) := by
  have hin : 15 < ρ.length := (List.getElem?_eq_some_iff.mp r15).1
  obtain ⟨ys, F2, e, hl2, f, rfl, hf, hF2⟩ := lc_inv (call := callN Φ W (k + 2)) (vs := [15]) (e := .call N._law_one [.var 0, .var 15]) (i := 15) (it := .it (.var 4)) (ρ := ρ) (F := F) (F1 := F) (ks.map fun K => WL (ways K os))
    (fun j acc F => ∃ f : List Wy, acc = f.map WD ∧ (f.length = j ∧ ∀ (i : Nat) (w : Wy), f[i]? = some w → w ∈ ways (kd ks i) os) ∧ Feed F n (B + j)) (by simp [evI, r4, GD, itemsOf]) (by simp [hasOwn, r15, ownOf]) (by simp) hin (by simp; unfold line; omega)
    ⟨[], rfl, ⟨rfl, by simp⟩, hF⟩ (fun j x acc F hx ⟨f, ea, ⟨hj, hf⟩, hF⟩ => by
      rw [List.getElem?_map, Option.map_eq_some_iff] at hx
      obtain ⟨K, hK, rfl⟩ := hx
      have hKo := hks K (List.mem_of_getElem? hK)
      have hjl := (List.getElem?_eq_some_iff.mp hK).1
      obtain ⟨y, hy, F', e4, hF'⟩ := one (Φ := Φ) (W := W) k hF (by omega) (xs := (ways K os).map WD) (by simp [ways_ne hKo hos h0]) (by rw [List.length_map]; exact ways_le (by omega) hKo hos hol) (.inl rfl)
      obtain ⟨w, hw, rfl⟩ := List.mem_map.mp hy
      have g0 : ((wipeS ρ [15]).set 15 (.val (WL (ways K os))))[0]? = some (.val (.mref n)) := by
        rw [List.getElem?_set_ne (by decide), pw_out (by simp), r0]
      have g15 : ((wipeS ρ [15]).set 15 (.val (WL (ways K os))))[15]? = some (.val (WL (ways K os))) := List.getElem?_set_self (by rw [pw_length]; exact hin)
      refine ⟨WD w, F', ?_, f ++ [w], by simp [ea], ⟨by simp [hj], fun i w' e => ?_⟩, hF'⟩
      · generalize (wipeS ρ [15]).set 15 (.val (WL (ways K os))) = ρ' at *
        simp [g0, g15, callR, WL, e4]
      · rw [List.getElem?_append] at e
        split at e
        · exact hf i w' e
        · have : i = f.length := by
            have := (List.getElem?_eq_some_iff.mp e).1
            simp at this
            omega
          subst this
          simp at e
          subst e
          rw [hj, kd_at hK]
          exact hw)
  refine ⟨f, F2, e, ?_, ?_, ?_⟩
  · simpa using hl2
  · exact hf.2
  · simpa using hF2
abbrev bIn : List S := [.own 12 (.lc [15] (.call N._law_one [.var 0, .var 15]) (.v 15) (.it (.var 4)) []), .seti 12 (.var 9) (.var 11), .set 13 (.cmp .inn (.var 11) (.sub (.var 4) (.var 9))), .ife (.cmp .eq (.call N._law_draw [.var 0, .con (.int 4)]) (.con (.int 0))) [.set 14 (.call N._law_draw [.var 0, .bi .len [.var 2]]), .seti 12 (.var 14) (.call N._law_one [.var 0, .call N._law_all_ways [.sub (.var 2) (.var 14), .var 3]]), .set 13 (.cmp .eq (.lc [17, 15] (.con (.int 1)) (.t [.v 17, .v 15]) (.zip (.var 12) (.var 4)) [.cmp .nin (.var 17) (.var 15)]) (.lst []))] [], .ife (.not (.call N._law_same [.call N.is_map [.var 2, .var 3, .cpO .tuple 12], .var 13])) [.ret (.con (.bl false))] []]
/-- the slots of the inner loop -/
abbrev sIn (n : Nat) (ks os : List Kind) (a : Nat) (s1 s5 s6 s7 s8 s11 s12 s13 s14 : Slot) : List Slot := [.val (.mref n), s1, .val (KS ks), .val (KS os), .val (GD ks os), s5, s6, s7, s8, .val (.int a), .val (KD (kd ks a)), s11, s12, s13, s14, .no, .no, .no, .no, .no]
theorem zip_GD (f : List Wy) (ks os : List Kind) : zipD (f.map WD) (ks.map fun K => WL (ways K os)) = (f.zip (ks.map fun K => ways K os)).map fun p => .tup [WD p.1, WL p.2] := by
  induction f generalizing ks with
  | nil => rfl
  | cons w f ih =>
    cases ks with
    | nil => rfl
    | cons K ks => simp only [List.map_cons, List.zip_cons_cons]; rw [← ih]; rfl
/-- what is not good -/
theorem bad_ev {call : Call} {F : List Cell} {ρ : List Slot} {f : List Wy} {ks os : List Kind} (r12 : ρ[12]? = some (.val (.lst (f.map WD)))) (r4 : ρ[4]? = some (.val (GD ks os))) (r15 : ρ[15]? = some .no) (r17 : ρ[17]? = some .no) (hl : ks.length ≤ line) :
    ev call (.lc [17, 15] (.con (.int 1)) (.t [.v 17, .v 15]) (.zip (.var 12) (.var 4)) [.cmp .nin (.var 17) (.var 15)]) ⟨ρ, F⟩ = .ok (.lst (((f.zip (ks.map fun K => ways K os)).filter fun p => !decide (p.1 ∈ p.2)).map fun _ => .int 1), ⟨ρ, F⟩) := by
  have hin : 17 < ρ.length := (List.getElem?_eq_some_iff.mp r17).1
  refine lc_filt (call := call) (vs := [17, 15]) (e := .con (.int 1)) (tg := .t [.v 17, .v 15]) (it := .zip (.var 12) (.var 4)) (s := ⟨ρ, F⟩) (f.zip (ks.map fun K => ways K os)) (fun p => !decide (p.1 ∈ p.2)) (fun p => .tup [WD p.1, WL p.2]) (fun _ => .int 1) (by simp [evI, r12, r4, GD, zip_GD]) (by simp [hasOwn, r17, r15, ownOf]) (fun p hp => ?_) ?_
  · refine ⟨((wipeS ρ [17, 15]).set 17 (.val (WD p.1))).set 15 (.val (WL p.2)), [.bl (!decide (p.1 ∈ p.2))], ?_, ?_, ?_, rfl, fun _ => by simp⟩
    · simp [pw_length, hin, show 15 < ρ.length by omega]
    · show wipeS (((wipeS ρ [17, 15]).set 17 _).set 15 _) [17, 15] = wipeS ρ [17, 15]
      rw [pw_set (by simp), pw_set (by simp), pw_wipe]
    · have g15 : (((wipeS ρ [17, 15]).set 17 (.val (WD p.1))).set 15 (.val (WL p.2)))[15]? = some (.val (WL p.2)) := List.getElem?_set_self (by rw [List.length_set, pw_length]; omega)
      have g17 : (((wipeS ρ [17, 15]).set 17 (.val (WD p.1))).set 15 (.val (WL p.2)))[17]? = some (.val (WD p.1)) := by
        rw [List.getElem?_set_ne (by decide), List.getElem?_set_self (by rw [pw_length]; exact hin)]
      generalize ((wipeS ρ [17, 15]).set 17 (.val (WD p.1))).set 15 (.val (WL p.2)) = ρ' at *
      simp [g15, g17, nin_W]
  · rw [List.length_zip, List.length_map]
    exact Nat.le_trans (Nat.min_le_right _ _) hl
theorem lc_from {call : Call} {vs : List Nat} {e : E} {tg : Tg} {it : I} {ifs : List E} {s s1 : St} {xs : List D} (h : evI call it s = .ok (xs, s1)) (h1 : evI call it s1 = .ok (xs, s1)) : ev call (.lc vs e tg it ifs) s = ev call (.lc vs e tg it ifs) s1 := by
  conv => lhs; unfold ev
  conv => rhs; unfold ev
  rw [h, h1]
theorem inner (k : Nat) {ks os : List Kind} (hks : ∀ q ∈ ks, KOk 0 3 q) (hos : ∀ q ∈ os, KOk 0 3 q) (h0 : (0, [[]]) ∈ os) (hl : ks.length ≤ 20) (hol : os.length ≤ 20) {F : List Cell} {n B : Nat} (hF : Feed F n B) (hB : B ≤ 10 ^ 7) {a : Nat} (ha : a < ks.length) (s1 s5 s6 s7 s8 s11 s12 s13 s14 : Slot) :
    ∃ (F' : List Cell) (t11 t12 t13 t14 : Slot), run (callN Φ W (k + 9)) W (.for (.v 11) (.it (.call N._law_all_ways [.var 10, .var 3])) bIn) ⟨sIn n ks os a s1 s5 s6 s7 s8 s11 s12 s13 s14, F⟩ = .ok (.nx, ⟨sIn n ks os a s1 s5 s6 s7 s8 t11 t12 t13 t14, F'⟩) ∧ Feed F' n (B + 30 * 540) := by
  have hK := kok_mem hks ha
  have hle : (allW (kd ks a) os).length ≤ 540 := Nat.le_trans (allW_len (by omega) hK 0 hos) (by omega)
  have ew := all_ways_eq (Φ := Φ) (W := W) (k + 7) (by omega) (kd ks a) os F hK hos hol
  obtain ⟨ρ', F', e, t11, t12, t13, t14, rfl, hF'⟩ := for_v (call := callN Φ W (k + 9)) (W := W) (i := 11) (it := .it (.call N._law_all_ways [.var 10, .var 3])) (b := bIn)
    (ρ := sIn n ks os a s1 s5 s6 s7 s8 s11 s12 s13 s14) (F := F) (F1 := F) ((allW (kd ks a) os).map WD)
    (fun j ρ F => ∃ t11 t12 t13 t14, ρ = sIn n ks os a s1 s5 s6 s7 s8 t11 t12 t13 t14 ∧ Feed F n (B + 30 * j)) (by simp [evI, callR, ew, itemsOf]) ⟨_, _, _, _, rfl, hF⟩
    (fun j x ρ F hx ⟨t11, t12, t13, t14, eρ, hF⟩ => by
      rw [List.getElem?_map, Option.map_eq_some_iff] at hx
      obtain ⟨w, hw, rfl⟩ := hx
      have hj := (List.getElem?_eq_some_iff.mp hw).1
      have hwr := (mem_allW hK hos).mp (List.mem_of_getElem? hw)
      subst eρ
      obtain ⟨f, F1, e1, f1, f2, hF1⟩ := pick (Φ := Φ) (W := W) (k + 7) hks hos h0 hl hol hF (by omega) (ρ := sIn n ks os a s1 s5 s6 s7 s8 (.val (WD w)) t12 t13 t14) rfl rfl rfl
      have e2 := set_W (f := f) (a := a) (by omega) w
      have e3 := sub_GD (os := os) ha F1
      have e4 := inn_W w (ways (kd ks a) os)
      have fit := fits_good hks hos f1 f2
      have fit1 := fits_set fit (a := a) hwr
      obtain ⟨z, F2, e5, z0, z1, hF2⟩ := draw (Φ := Φ) (W := W) (k + 8) hF1 (by omega) (m := 4) (by omega) (by omega)
      have d1 := due_one f1 f2 ha w
      generalize hg : f.set a w = g at *
      have gl : g.length = ks.length := fit1.1
      have fl : ∀ {f : List Wy}, Fits ks os f → ∀ w ∈ f, w.2.length ≤ line := fun {f} h w hw => by
        obtain ⟨i, hi⟩ := List.mem_iff_getElem?.mp hw
        obtain ⟨r1, r2, _⟩ := h.2 i w hi
        obtain ⟨m, hm, _, hm3, _⟩ := kok_mem hos r1
        unfold line; omega
      refine ⟨by simp, .nx, ?_⟩
      by_cases hz : z = 0
      · subst hz
        obtain ⟨p, F3, e6, p0, p1, hF3⟩ := draw (Φ := Φ) (W := W) (k + 8) hF2 (by omega) (m := (ks.length : Int)) (by omega) (by omega)
        obtain ⟨q, rfl⟩ : ∃ q : Nat, p = q := ⟨p.toNat, by omega⟩
        have hq : q < ks.length := by omega
        have hKq := kok_mem hks hq
        have ew2 := all_ways_eq (Φ := Φ) (W := W) (k + 7) (by omega) (kd ks q) os F3 hKq hos hol
        have hle2 : (allW (kd ks q) os).length ≤ 540 := Nat.le_trans (allW_len (by omega) hKq 0 hos) (by omega)
        have hne2 : allW (kd ks q) os ≠ [] := fun z => by
          obtain ⟨v, hv⟩ := List.exists_mem_of_ne_nil _ (ways_ne hKq hos h0)
          have := (mem_allW hKq hos).mpr ((mem_ways hKq hos).mp hv).1
          rw [z] at this; cases this
        obtain ⟨y, hy, F4, e7, hF4⟩ := one (Φ := Φ) (W := W) (k + 7) hF3 (by omega) (xs := (allW (kd ks q) os).map WD) (by simp [hne2]) (by rw [List.length_map]; unfold line; omega) (.inl rfl)
        obtain ⟨v, hv, rfl⟩ := List.mem_map.mp hy
        have e8 := sub_KS (os := ks) hq F3
        have e9 := set_W (f := g) (a := q) (by omega) v
        have fit2 := fits_set fit1 (a := q) ((mem_allW hKq hos).mp hv)
        generalize hg2 : g.set q v = g2 at *
        have em := is_map_eq (Φ := Φ) (W := W) (k + 1) ks os g2 F4 (hi := 3) (by omega) hks hos (fl fit2) (by omega) (by omega)
        have eb := bad_ev (call := callN Φ W (k + 9)) (F := F4) (ρ := [.val (.mref n), s1, .val (KS ks), .val (KS os), .val (GD ks os), s5, s6, s7, s8, .val (.int a), .val (KD (kd ks a)), .val (WD w), .val (.lst (g2.map WD)), .val (.bl (decide (w ∈ ways (kd ks a) os))), .val (.int q), .no, .no, .no, .no, .no]) (f := g2) (ks := ks) (os := os) rfl rfl rfl rfl (by unfold line; omega)
        rw [← lc_from (s := ⟨[.val (.mref n), s1, .val (KS ks), .val (KS os), .val (GD ks os), s5, s6, s7, s8, .val (.int a), .val (KD (kd ks a)), .val (WD w), .own (.lst (g2.map WD)), .val (.bl (decide (w ∈ ways (kd ks a) os))), .val (.int q), .no, .no, .no, .no, .no], F4⟩) (xs := (g2.zip (ks.map fun K => ways K os)).map fun p => .tup [WD p.1, WL p.2]) (by simp [evI, GD, zip_GD, Cell.d]) (by simp [evI, GD, zip_GD])] at eb
        have ec := cmpE_ones ((g2.zip (ks.map fun K => ways K os)).filter fun p => !decide (p.1 ∈ p.2))
        rw [due_all] at ec
        rw [mapF_fits hks hos fit2] at em
        have es := same_bool (Φ := Φ) (W := W) (k + 8) (allGood ks os g2) (allGood ks os g2) F4
        have et : biD .tuple [.lst (g2.map WD)] = some (WS g2) := rfl
        refine ⟨sIn n ks os a s1 s5 s6 s7 s8 (.val (WD w)) (.val (.lst (g2.map WD))) (.val (.bl (allGood ks os g2))) (.val (.int q)), F4, ?_, .inl rfl, _, _, _, _, rfl, hF4.mono (by omega)⟩
        simp [cellOf, ownOf, e1, e2, e3, e4, callR, e5, heldOf, Cell.d, len_KS, e6, e8, ew2, e7, e9, eb, ec, et, em, es]
      · have em := is_map_eq (Φ := Φ) (W := W) (k + 1) ks os g F2 (hi := 3) (by omega) hks hos (fl fit1) (by omega) (by omega)
        rw [mapF_fits hks hos fit1, d1] at em
        have es := same_bool (Φ := Φ) (W := W) (k + 8) (decide (w ∈ ways (kd ks a) os)) (decide (w ∈ ways (kd ks a) os)) F2
        refine ⟨sIn n ks os a s1 s5 s6 s7 s8 (.val (WD w)) (.own (.lst (g.map WD))) (.val (.bl (decide (w ∈ ways (kd ks a) os)))) t14, F2, ?_, .inl rfl, _, _, _, _, rfl, hF2.mono (by omega)⟩
        have et : biD .tuple [.lst (g.map WD)] = some (WS g) := rfl
        simp [cellOf, ownOf, e1, e2, e3, e4, callR, e5, hz, heldOf, Cell.d, et, em, es])
  refine ⟨F', t11, t12, t13, t14, e, hF'.mono ?_⟩
  rw [List.length_map]
  omega
end NW.K03
set_option autoImplicit false
set_option linter.all false
set_option maxRecDepth 100000
/-! K03d: the whole. -/
namespace NW.K03
open PySem NW
variable {Φ : Nat → Option Code} {W : Nat} [Own Φ]
def unI : D → Int
  | .int i => i
  | _ => 0
def unR : D → List Int
  | .tup xs => xs.map unI
  | _ => []
def unK : D → Kind
  | .tup [.int i, .tup rs] => (i, rs.map unR)
  | _ => (0, [])
theorem unR_R (x : List Int) : unR (R x) = x := by
  show (x.map D.int).map unI = x
  rw [List.map_map]
  exact List.map_id x
theorem unK_KD (q : Kind) : unK (KD q) = q := by
  obtain ⟨i, l⟩ := q
  show (i, (l.map R).map unR) = (i, l)
  rw [List.map_map]
  have : (unR ∘ R) = id := funext fun x => unR_R x
  rw [this, List.map_id]
theorem add_KS {a b : List Kind} (h : a.length + b.length ≤ line) : binD .add (KS a) (KS b) = some (KS (a ++ b)) := by
  show (if _ then _ else _) = _
  rw [if_pos (by simpa using h)]
  simp [KS]
/-- others: those of no names, and some drawn ones, mixed -/
theorem others_go (k : Nat) {F : List Cell} {n B : Nat} (hF : Feed F n B) (hB : B ≤ 10 ^ 8) (m : Nat) (hm : 0 < m ∧ m ≤ 3) {call : Call} (hc : call = callN Φ W (k + 9)) {ρ : List Slot} (r0 : ρ[0]? = some (.val (.mref n))) (r1 : ρ[1]? = some (.val (KS [(0, [[]])]))) :
    ∃ (os : List Kind) (F' : List Cell), ev call (.bi .tuple [.call N._law_mixed [.var 0, .bin .add (.var 1) (.call N._law_kinds [.var 0, .call N._law_draw [.var 0, .con (.int m)], .con (.int 3), .con (.int 0)])]]) ⟨ρ, F⟩ = .ok (KS os, ⟨ρ, F'⟩) ∧ (∀ q ∈ os, KOk 0 3 q) ∧ (0, [[]]) ∈ os ∧ os.length ≤ 3 ∧ Feed F' n (B + 20) := by
  subst hc
  obtain ⟨x, F1, e1, x0, x1, hF1⟩ := draw (Φ := Φ) (W := W) (k + 8) hF (by omega) (m := (m : Int)) (by omega) (by omega)
  obtain ⟨X, rfl⟩ : ∃ X : Nat, x = X := ⟨x.toNat, by omega⟩
  obtain ⟨ks, F2, e2, l2, h2, hF2⟩ := kinds (Φ := Φ) (W := W) (k + 5) hF1 (many := X) (most := 3) (least := 0) (by omega) (by omega) (by omega) (by omega)
  have e2 : callN Φ W (k + 9) N._law_kinds [.mref n, .int X, .int 3, .int 0] F1 = .ok (KS ks) false F2 := e2
  have e3 := add_KS (a := [(0, [[]])]) (b := ks) (by unfold line; simp; omega)
  obtain ⟨ys, F3, e4, hp, hF3⟩ := mixed (Φ := Φ) (W := W) (k + 7) hF2 (xs := ([(0, [[]])] ++ ks).map KD) (by unfold line; simp; omega) (by simp; omega) (d := KS ([(0, [[]])] ++ ks)) (.inr rfl)
  obtain ⟨os, rfl, hq⟩ := perm_unmap KD unK unK_KD hp
  refine ⟨os, F3, ?_, fun q hq' => ?_, hq.mem_iff.mpr (by simp), by rw [hq.length_eq]; simp; omega, hF3.mono (by simp; omega)⟩
  · have et : biD .tuple [.lst (os.map KD)] = some (KS os) := rfl
    generalize [(0, [[]])] ++ ks = L at e3 e4
    generalize KS [(0, [[]])] = z at *
    simp [r0, r1, callR, e1, e2, e3, e4, et]
  · rcases List.mem_append.mp (hq.mem_iff.mp hq') with h | h
    · rw [List.mem_singleton.mp h]; exact none_ok
    · exact h2 q h
theorem enum_KD (ks : List Kind) : enumD (ks.map KD) = ks.zipIdx.map fun p => .tup [.int (p.2 : Nat), KD p.1] := by
  unfold enumD
  rw [List.zipIdx_map, List.map_map]
  rfl
def still (ks : List Kind) : List Wy := ks.zipIdx.map fun p => (p.2, rng p.1.1)
theorem still_at {ks : List Kind} {i : Nat} {w : Wy} (h : (still ks)[i]? = some w) : i < ks.length ∧ w = (i, rng (kd ks i).1) := by
  unfold still at h
  rw [List.getElem?_map, Option.map_eq_some_iff] at h
  obtain ⟨p, hp, rfl⟩ := h
  rw [List.getElem?_zipIdx, Option.map_eq_some_iff] at hp
  obtain ⟨q, hq, rfl⟩ := hp
  have := (List.getElem?_eq_some_iff.mp hq).1
  exact ⟨this, by rw [kd_at hq]; simp⟩
/-- the still map -/
theorem still_ev {call : Call} {F : List Cell} {ρ : List Slot} {ks : List Kind} (r2 : ρ[2]? = some (.val (KS ks))) (r16 : ρ[16]? = some .no) (r18 : ρ[18]? = some .no) (r19 : ρ[19]? = some .no) (hl : ks.length ≤ line) (hks : ∀ q ∈ ks, KOk 0 3 q) :
    ev call (.bi .tuple [.lc [16, 18, 19] (.tup [.var 16, .rngT (.var 18)]) (.t [.v 16, .t [.v 18, .v 19]]) (.enum (.var 2)) []]) ⟨ρ, F⟩ = .ok (WS (still ks), ⟨ρ, F⟩) := by
  have hin : 19 < ρ.length := (List.getElem?_eq_some_iff.mp r19).1
  have e := lc_mapf (call := call) (vs := [16, 18, 19]) (e := .tup [.var 16, .rngT (.var 18)]) (tg := .t [.v 16, .t [.v 18, .v 19]]) (it := .enum (.var 2)) (s := ⟨ρ, F⟩) (as := ks.zipIdx) (h := fun p => .tup [.int (p.2 : Nat), KD p.1]) (g := fun p => WD (p.2, rng p.1.1))
    (by simp [evI, r2, KS, enum_KD]) (by simp [hasOwn, r16, r18, r19, ownOf]) (fun p hp => by
      obtain ⟨h1, h2⟩ := mem_zipIdx_kd.mp hp
      obtain ⟨m, hm, _, hm3, _⟩ := kok_mem hks h1
      rw [h2] at hm
      have hr : rngOk 0 p.1.1 = true := by unfold rngOk line; simp; omega
      refine ⟨(((wipeS ρ [16, 18, 19]).set 16 (.val (.int p.2))).set 18 (.val (.int p.1.1))).set 19 (.val (RR p.1.2)), ?_, ?_, ?_⟩
      · show assignTg _ (D.tup [.int p.2, .tup [.int p.1.1, RR p.1.2]]) _ = _
        simp [pw_length, show 16 < ρ.length by omega, show 18 < ρ.length by omega, hin]
      · rw [pw_set (by simp), pw_set (by simp), pw_set (by simp), pw_wipe]
      · have g16 : ((((wipeS ρ [16, 18, 19]).set 16 (.val (.int p.2))).set 18 (.val (.int p.1.1))).set 19 (.val (RR p.1.2)))[16]? = some (.val (.int p.2)) := by
          rw [List.getElem?_set_ne (by decide), List.getElem?_set_ne (by decide), List.getElem?_set_self (by rw [pw_length]; omega)]
        have g18 : ((((wipeS ρ [16, 18, 19]).set 16 (.val (.int p.2))).set 18 (.val (.int p.1.1))).set 19 (.val (RR p.1.2)))[18]? = some (.val (.int p.1.1)) := by
          rw [List.getElem?_set_ne (by decide), List.getElem?_set_self (by rw [List.length_set, pw_length]; omega)]
        generalize (((wipeS ρ [16, 18, 19]).set 16 (.val (.int p.2))).set 18 (.val (.int p.1.1))).set 19 (.val (RR p.1.2)) = ρ' at *
        simp [g16, g18, hr, WD, rngD_R]) (by simp; exact hl)
  have et : biD .tuple [.lst (ks.zipIdx.map fun p => WD (p.2, rng p.1.1))] = some (WS (still ks)) := by
    unfold WS still
    rw [List.map_map]
    rfl
  simp [e, et]
/-- a way of each other's, onto the last -/
theorem pick2 (k : Nat) {ks os : List Kind} (hks : ∀ q ∈ ks, KOk 0 3 q) (hos : ∀ q ∈ os, KOk 0 3 q) (h0 : (0, [[]]) ∈ os) (hl : ks.length ≤ 20) (hol : os.length ≤ 20) {ρ : List Slot} {F : List Cell} {n B : Nat} (hF : Feed F n B) (hB : B ≤ 10 ^ 8)
    (r0 : ρ[0]? = some (.val (.mref n))) (r3 : ρ[3]? = some (.val (KS ks))) (r5 : ρ[5]? = some (.val (KS os))) {s : Slot} (r10 : ρ[10]? = some s) (o10 : ownOf (some s) = none) :
    ∃ (f : List Wy) (F' : List Cell), ev (callN Φ W (k + 3)) (.lc [10] (.call N._law_one [.var 0, .call N._law_ways [.var 10, .var 5]]) (.v 10) (.it (.var 3)) []) ⟨ρ, F⟩ = .ok (.lst (f.map WD), ⟨ρ, F'⟩) ∧ f.length = ks.length ∧ (∀ (i : Nat) (w : Wy), f[i]? = some w → w ∈ ways (kd ks i) os) ∧ Feed F' n (B + ks.length) := by
  have hin : 10 < ρ.length := (List.getElem?_eq_some_iff.mp r10).1
  obtain ⟨ys, F2, e, hl2, f, rfl, hf, hF2⟩ := lc_inv (call := callN Φ W (k + 3)) (vs := [10]) (e := .call N._law_one [.var 0, .call N._law_ways [.var 10, .var 5]]) (i := 10) (it := .it (.var 3)) (ρ := ρ) (F := F) (F1 := F) (ks.map KD)
    (fun j acc F => ∃ f : List Wy, acc = f.map WD ∧ (f.length = j ∧ ∀ (i : Nat) (w : Wy), f[i]? = some w → w ∈ ways (kd ks i) os) ∧ Feed F n (B + j)) (by simp [evI, r3, KS, itemsOf]) (by simp [hasOwn, r10, o10]) (by simp) hin (by simp; unfold line; omega)
    ⟨[], rfl, ⟨rfl, by simp⟩, hF⟩ (fun j x acc F hx ⟨f, ea, ⟨hj, hf⟩, hF⟩ => by
      rw [List.getElem?_map, Option.map_eq_some_iff] at hx
      obtain ⟨K, hK, rfl⟩ := hx
      have hKo := hks K (List.mem_of_getElem? hK)
      have hjl := (List.getElem?_eq_some_iff.mp hK).1
      have ew := ways_eq (Φ := Φ) (W := W) k (hi := 3) (by omega) K os F hKo hos hol
      obtain ⟨y, hy, F', e4, hF'⟩ := one (Φ := Φ) (W := W) (k + 1) hF (by omega) (xs := (ways K os).map WD) (by simp [ways_ne hKo hos h0]) (by rw [List.length_map]; exact ways_le (by omega) hKo hos hol) (.inl rfl)
      obtain ⟨w, hw, rfl⟩ := List.mem_map.mp hy
      have g0 : ((wipeS ρ [10]).set 10 (.val (KD K)))[0]? = some (.val (.mref n)) := by
        rw [List.getElem?_set_ne (by decide), pw_out (by simp), r0]
      have g5 : ((wipeS ρ [10]).set 10 (.val (KD K)))[5]? = some (.val (KS os)) := by
        rw [List.getElem?_set_ne (by decide), pw_out (by simp), r5]
      have g10 : ((wipeS ρ [10]).set 10 (.val (KD K)))[10]? = some (.val (KD K)) := List.getElem?_set_self (by rw [pw_length]; exact hin)
      refine ⟨WD w, F', ?_, f ++ [w], by simp [ea], ⟨by simp [hj], fun i w' e => ?_⟩, hF'⟩
      · generalize (wipeS ρ [10]).set 10 (.val (KD K)) = ρ' at *
        simp [g0, g5, g10, callR, ew, e4]
      · rw [List.getElem?_append] at e
        split at e
        · exact hf i w' e
        · have : i = f.length := by
            have := (List.getElem?_eq_some_iff.mp e).1
            simp at this
            omega
          subst this
          simp at e
          subst e
          rw [hj, kd_at hK]
          exact hw)
  refine ⟨f, F2, e, ?_, ?_, ?_⟩
  · simpa using hl2
  · exact hf.2
  · simpa using hF2
end NW.K03
set_option autoImplicit false
set_option linter.all false
set_option maxRecDepth 100000
/-! K03e: the law. -/
namespace NW.K03
open PySem NW
variable {Φ : Nat → Option Code} {W : Nat} [Own Φ]
abbrev sOut (n : Nat) (ks os : List Kind) (s5 s6 s7 s8 s9 s10 s11 s12 s13 s14 : Slot) : List Slot := [.val (.mref n), .val (KS [(0, [[]])]), .val (KS ks), .val (KS os), .val (GD ks os), s5, s6, s7, s8, s9, s10, s11, s12, s13, s14, .no, .no, .no, .no, .no]
theorem outer (k : Nat) {ks os : List Kind} (hks : ∀ q ∈ ks, KOk 0 3 q) (hos : ∀ q ∈ os, KOk 0 3 q) (h0 : (0, [[]]) ∈ os) (hl : ks.length ≤ 20) (hol : os.length ≤ 20) {F : List Cell} {n B : Nat} (hF : Feed F n B) (hB : B ≤ 10 ^ 6) :
    ∃ (F' : List Cell) (s9 s10 s11 s12 s13 s14 : Slot), run (callN Φ W (k + 9)) W (.for (.t [.v 9, .v 10]) (.enum (.var 2)) [.for (.v 11) (.it (.call N._law_all_ways [.var 10, .var 3])) bIn]) ⟨sOut n ks os .no .no .no .no .no .no .no .no .no .no, F⟩ = .ok (.nx, ⟨sOut n ks os .no .no .no .no s9 s10 s11 s12 s13 s14, F'⟩) ∧ ownOf (some s10) = none ∧ Feed F' n (B + 16200 * 20) := by
  obtain ⟨ρ', F', e, s9, s10, s11, s12, s13, s14, rfl, ho, hF'⟩ := for_g (call := callN Φ W (k + 9)) (W := W) (tg := .t [.v 9, .v 10]) (it := .enum (.var 2)) (b := [.for (.v 11) (.it (.call N._law_all_ways [.var 10, .var 3])) bIn])
    (ρ := sOut n ks os .no .no .no .no .no .no .no .no .no .no) (F := F) (F1 := F) (enumD (ks.map KD))
    (fun j ρ F => ∃ s9 s10 s11 s12 s13 s14, ρ = sOut n ks os .no .no .no .no s9 s10 s11 s12 s13 s14 ∧ ownOf (some s10) = none ∧ Feed F n (B + 16200 * j)) (by simp [evI, KS]) ⟨_, _, _, _, _, _, rfl, rfl, hF⟩
    (fun j x ρ F hx ⟨s9, s10, s11, s12, s13, s14, eρ, ho, hF⟩ => by
      obtain ⟨q, hq, rfl⟩ := enum_get hx
      have hj := (List.getElem?_eq_some_iff.mp hq).1
      obtain ⟨F', t11, t12, t13, t14, e, hF'⟩ := inner (Φ := Φ) (W := W) k hks hos h0 hl hol hF (by omega) hj (.val (KS [(0, [[]])])) .no .no .no .no s11 s12 s13 s14
      unfold sIn at e
      rw [kd_at hq] at e
      subst eρ
      refine ⟨_, by (simp; rfl), .nx, sOut n ks os .no .no .no .no (.val (.int j)) (.val (KD q)) t11 t12 t13 t14, F', ?_, .inl rfl, _, _, _, _, _, _, rfl, rfl, hF'.mono (by omega)⟩
      simp [e])
  refine ⟨F', s9, s10, s11, s12, s13, s14, e, ho, hF'.mono ?_⟩
  rw [enum_len, List.length_map]
  omega
theorem good_ev (k : Nat) {ks os : List Kind} (hks : ∀ q ∈ ks, KOk 0 3 q) (hos : ∀ q ∈ os, KOk 0 3 q) (hl : ks.length ≤ 20) (hol : os.length ≤ 20) {F : List Cell} {ρ : List Slot} (r2 : ρ[2]? = some (.val (KS ks))) (r3 : ρ[3]? = some (.val (KS os))) (r10 : ρ[10]? = some .no) :
    ev (callN Φ W (k + 3)) (.lc [10] (.call N._law_ways [.var 10, .var 3]) (.v 10) (.it (.var 2)) []) ⟨ρ, F⟩ = .ok (GD ks os, ⟨ρ, F⟩) := by
  have hin : 10 < ρ.length := (List.getElem?_eq_some_iff.mp r10).1
  refine lc_v (call := callN Φ W (k + 3)) (vs := [10]) (e := .call N._law_ways [.var 10, .var 3]) (i := 10) (it := .it (.var 2)) (ρ := ρ) (F := F) ks KD (fun K => WL (ways K os)) (by simp [evI, r2, KS, itemsOf]) (by simp [hasOwn, r10, ownOf]) (by simp) hin (fun K hK => ?_) (by unfold line; omega)
  have ew := ways_eq (Φ := Φ) (W := W) k (hi := 3) (by omega) K os F (hks K hK) hos hol
  have g3 : ((wipeS ρ [10]).set 10 (.val (KD K)))[3]? = some (.val (KS os)) := by
    rw [List.getElem?_set_ne (by decide), pw_out (by simp), r3]
  have g10 : ((wipeS ρ [10]).set 10 (.val (KD K)))[10]? = some (.val (KD K)) := List.getElem?_set_self (by rw [pw_length]; exact hin)
  generalize (wipeS ρ [10]).set 10 (.val (KD K)) = ρ' at *
  simp [g3, g10, callR, ew, WL]
theorem step {call : Call} {W : Nat} {b : S} {bs : List S} {s s1 : St} {r : CRes} (h : run call W b s = .ok (.nx, s1)) (h2 : endOf (runs call W bs s1) = r) : endOf (runs call W (b :: bs) s) = r := by
  simp [h, h2]
theorem rep_WS (m : Nat) (h : 1 ≤ m ∧ m ≤ 1000) : binD .mul (.tup [.tup [.int 0, .tup []]]) (.int m) = some (WS (List.replicate m (0, []))) := by
  have e : binD .mul (.tup [.tup [.int 0, .tup []]]) (.int m) = some (.tup (List.replicate m [D.tup [.int 0, .tup []]]).flatten) := by
    show (if _ then _ else if _ then _ else _) = _
    by_cases h1 : (m : Int) = 1
    · rw [if_pos h1]
      obtain rfl : m = 1 := by omega
      rfl
    · rw [if_neg h1, if_pos (by simp [repOk]; omega)]
      simp
  rw [e]
  refine congrArg some ?_
  unfold WS
  congr 1
  show (List.replicate m [D.tup [.int 0, .tup []]]).flatten = (List.replicate m ((0, []) : Wy)).map WD
  clear h e
  induction m with
  | zero => rfl
  | succ m ih =>
    rw [List.replicate_succ, List.replicate_succ, List.flatten_cons, List.map_cons, ih]
    rfl
theorem right_eq (k : Nat) {F : List Cell} {n : Nat} (hF : Feed F n 0) : ∃ F', callN Φ W (k + 10) N._law_right [.mref n] F = .ok (.bl true) false F' := by
  rw [call_eq (c := c__law_right) (own_has rfl) _ _ rfl]
  -- things
  obtain ⟨x, F1, e1, x0, x1, hF1⟩ := draw (Φ := Φ) (W := W) (k + 8) hF (by omega) (m := 3) (by omega) (by omega)
  obtain ⟨X, rfl⟩ : ∃ X : Nat, x = X := ⟨x.toNat, by omega⟩
  obtain ⟨ks, F2, e2, l2, hks, hF2⟩ := kinds (Φ := Φ) (W := W) (k + 5) hF1 (many := 1 + X) (most := 3) (least := 0) (by omega) (by omega) (by omega) (by omega)
  have c2 : ((1 + X : Nat) : Int) = 1 + X := by omega
  rw [c2] at e2
  have e2 : callN Φ W (k + 9) N._law_kinds [.mref n, .int (1 + X), .int 3, .int 0] F1 = .ok (KS ks) false F2 := e2
  -- others
  obtain ⟨os, F3, e3, hos, h0, ol, hF3⟩ := others_go (Φ := Φ) (W := W) k hF2 (by omega) 3 (by omega) rfl (ρ := [.val (.mref n), .val (KS [(0, [[]])]), .val (KS ks), .no, .no, .no, .no, .no, .no, .no, .no, .no, .no, .no, .no, .no, .no, .no, .no, .no]) rfl rfl
  have e4 := good_ev (Φ := Φ) (W := W) (k + 6) hks hos (by omega) (by omega) (F := F3) (ρ := [.val (.mref n), .val (KS [(0, [[]])]), .val (KS ks), .val (KS os), .no, .no, .no, .no, .no, .no, .no, .no, .no, .no, .no, .no, .no, .no, .no, .no]) rfl rfl rfl
  obtain ⟨F4, s9, s10, s11, s12, s13, s14, e5, ho, hF4⟩ := outer (Φ := Φ) (W := W) k hks hos h0 (by omega) (by omega) hF3 (by omega)
  -- last, first, second
  obtain ⟨ls, F5, e6, hls, hl0, ll, hF5⟩ := others_go (Φ := Φ) (W := W) k hF4 (by omega) 2 (by omega) rfl (ρ := sOut n ks os .no .no .no .no s9 s10 s11 s12 s13 s14) rfl rfl
  obtain ⟨f, F6, e7, f1, f2, hF6⟩ := pick (Φ := Φ) (W := W) (k + 7) hks hos h0 (by omega) (by omega) hF5 (by omega) (ρ := sOut n ks os (.val (KS ls)) .no .no .no s9 s10 s11 s12 s13 s14) rfl rfl rfl
  obtain ⟨g, F7, e8, g1, g2, hF7⟩ := pick2 (Φ := Φ) (W := W) (k + 6) hos hls hl0 (by omega) (by omega) hF6 (by omega) (ρ := sOut n ks os (.val (KS ls)) (.val (WS f)) .no .no s9 s10 s11 s12 s13 s14) rfl rfl rfl rfl ho
  -- what is told
  have wf : ∀ {ks os : List Kind} {f : List Wy}, (∀ q ∈ os, KOk 0 3 q) → Fits ks os f → ∀ w ∈ f, w.2.length ≤ line := fun {ks os f} hos h w hw => by
    obtain ⟨i, hi⟩ := List.mem_iff_getElem?.mp hw
    obtain ⟨r1, r2, _⟩ := h.2 i w hi
    obtain ⟨m, hm, _, hm3, _⟩ := kok_mem hos r1
    unfold line; omega
  have fw : ∀ (i : Nat) (w : Wy), f[i]? = some w → Way (kd ks i) os w := fun i w e => (mem_ways (kok_mem hks (by have := (List.getElem?_eq_some_iff.mp e).1; omega)) hos).mp (f2 i w e)
  have gw : ∀ (i : Nat) (w : Wy), g[i]? = some w → Way (kd os i) ls w := fun i w e => (mem_ways (kok_mem hos (by have := (List.getElem?_eq_some_iff.mp e).1; omega)) hls).mp (g2 i w e)
  have m1 := is_map_eq (Φ := Φ) (W := W) (k + 1) os ls g F7 (hi := 3) (by omega) hos hls (wf hls (fits_good hos hls g1 g2)) (by omega) (by omega)
  rw [mapF_good hos hls g1 gw] at m1
  have bw : ∀ (i : Nat) (w : Wy), (f.map (behW ls g))[i]? = some w → Way (kd ks i) ls w := fun i w e => by
    rw [List.getElem?_map, Option.map_eq_some_iff] at e
    obtain ⟨v, hv, rfl⟩ := e
    have hf := fw i v hv
    have hi := (List.getElem?_eq_some_iff.mp hv).1
    have hg1 : v.1 < g.length := by rw [g1]; exact hf.1.1
    have eg : g[v.1]? = some (g.getD v.1 (0, [])) := by
      rw [List.getD_eq_getElem?_getD, List.getElem?_eq_getElem hg1]; rfl
    exact way_behind (kok_mem hks (by omega)) hos hls hf (gw _ _ eg)
  have bl : (f.map (behW ls g)).length = ks.length := by rw [List.length_map, f1]
  have eb := behind_eq (Φ := Φ) (W := W) (k + 6) ls f g F7 (by unfold line; omega) (fun v hv => by
    obtain ⟨i, hi⟩ := List.mem_iff_getElem?.mp hv
    have hf := fw i v hi
    have hg1 : v.1 < g.length := by rw [g1]; exact hf.1.1
    have eg : g[v.1]? = some (g.getD v.1 (0, [])) := by
      rw [List.getD_eq_getElem?_getD, List.getElem?_eq_getElem hg1]; rfl
    have hu := gw _ _ eg
    generalize g.getD v.1 (0, []) = u at *
    obtain ⟨m, hm, _, hm3, hgr⟩ := kok_mem hls hu.1.1
    have h1 := hf.1.2.1
    have h2 := hu.1.2.1
    exact ⟨hg1, hu.1.1, fun a ha => by have := hu.1.2.2.2 a ha; omega, by unfold line; omega, m, by omega, by omega, hgr⟩)
  have m2 := is_map_eq (Φ := Φ) (W := W) (k + 1) ks ls (f.map (behW ls g)) F7 (hi := 3) (by omega) hks hls (wf hls (fits_good hks hls bl fun i w e => (mem_ways (kok_mem hks (by have := (List.getElem?_eq_some_iff.mp e).1; omega)) hls).mpr (bw i w e))) (by omega) (by omega)
  rw [mapF_good hks hls bl bw] at m2
  have sl : (still ks).length = ks.length := by unfold still; simp
  have sw : ∀ (i : Nat) (w : Wy), (still ks)[i]? = some w → Way (kd ks i) ks w := fun i w e => by
    obtain ⟨h1, rfl⟩ := still_at e
    exact way_still hks h1
  have m3 := is_map_eq (Φ := Φ) (W := W) (k + 1) ks ks (still ks) F7 (hi := 3) (by omega) hks hks (wf hks (fits_good hks hks sl fun i w e => (mem_ways (kok_mem hks (by have := (List.getElem?_eq_some_iff.mp e).1; omega)) hks).mpr (sw i w e))) (by omega) (by omega)
  rw [mapF_good hks hks sl sw] at m3
  have m4 := is_map_eq (Φ := Φ) (W := W) (k + 1) [] os [] F7 (hi := 3) (by omega) (by simp) hos (by simp) (by simp) (by omega)
  have m5 := is_map_eq (Φ := Φ) (W := W) (k + 1) [] [] [] F7 (hi := 3) (by omega) (by simp) (by simp) (by simp) (by simp) (by simp)
  have m6 := is_map_eq (Φ := Φ) (W := W) (k + 1) ks [] (List.replicate ks.length (0, [])) F7 (hi := 3) (by omega) hks (by simp) (by simp) (by omega) (by simp)
  have m7 := is_map_eq (Φ := Φ) (W := W) (k + 1) [] os [(0, [])] F7 (hi := 3) (by omega) (by simp) hos (by simp) (by simp) (by omega)
  have v6 : mapF ks [] (List.replicate ks.length (0, [])) = false := by
    cases ks with
    | nil => simp at l2; omega
    | cons K ks => simp [mapF, rowsF, rowF, List.replicate_succ]
  rw [show mapF [] os [] = true from rfl] at m4
  rw [show mapF [] [] [] = true from rfl] at m5
  rw [v6] at m6
  rw [show mapF [] os [(0, [])] = false from rfl] at m7
  have er := rep_WS ks.length (by omega)
  have es := same_bools (Φ := Φ) (W := W) (k + 7) [true, true, true, true, true, false, false] F7 (by decide)
  have t1 : biD .tuple [.lst (f.map WD)] = some (WS f) := rfl
  have t2 : biD .tuple [.lst (g.map WD)] = some (WS g) := rfl
  have n1 : D.tup [.tup [.int 0, .tup [.tup []]]] = KS [(0, [[]])] := rfl
  have m4 : callN Φ W (k + 9) N.is_map [.tup [], KS os, .tup []] F7 = .ok (.bl true) false F7 := m4
  have m5 : callN Φ W (k + 9) N.is_map [.tup [], .tup [], .tup []] F7 = .ok (.bl true) false F7 := m5
  have m6 : callN Φ W (k + 9) N.is_map [KS ks, .tup [], WS (List.replicate ks.length (0, []))] F7 = .ok (.bl false) false F7 := m6
  have m7 : callN Φ W (k + 9) N.is_map [.tup [], KS os, .tup [.tup [.int 0, .tup []]]] F7 = .ok (.bl false) false F7 := m7
  have es : callN Φ W (k + 9) N._law_same [.lst [.bl true, .bl true, .bl true, .bl true, .bl true, .bl false, .bl false], .lst [.bl true, .bl true, .bl true, .bl true, .bl true, .bl false, .bl false]] F7 = .ok (.bl true) false F7 := es
  have est := still_ev (call := callN Φ W (k + 9)) (F := F7) (ρ := sOut n ks os (.val (KS ls)) (.val (WS f)) (.val (WS g)) (.own (.lst [.bl true, .bl true])) s9 s10 s11 s12 s13 s14) rfl rfl rfl rfl (by unfold line; omega) hks
  refine ⟨F7, ?_⟩
  refine step (s1 := ⟨[.val (.mref n), .val (KS [(0, [[]])]), .no, .no, .no, .no, .no, .no, .no, .no, .no, .no, .no, .no, .no, .no, .no, .no, .no, .no], F⟩) (by simp [enter, n1, c__law_right]) ?_
  refine step (s1 := ⟨[.val (.mref n), .val (KS [(0, [[]])]), .val (KS ks), .no, .no, .no, .no, .no, .no, .no, .no, .no, .no, .no, .no, .no, .no, .no, .no, .no], F2⟩) (by simp [callR, e1, e2]) ?_
  refine step (s1 := ⟨[.val (.mref n), .val (KS [(0, [[]])]), .val (KS ks), .val (KS os), .no, .no, .no, .no, .no, .no, .no, .no, .no, .no, .no, .no, .no, .no, .no, .no], F3⟩) (by
    simp at e3 ⊢
    simp [e3]) ?_
  refine step (s1 := ⟨sOut n ks os .no .no .no .no .no .no .no .no .no .no, F3⟩) (by simp [e4]) ?_
  refine step e5 ?_
  refine step (s1 := ⟨sOut n ks os (.val (KS ls)) .no .no .no s9 s10 s11 s12 s13 s14, F5⟩) (by
    simp at e6 ⊢
    simp [e6]) ?_
  refine step (s1 := ⟨sOut n ks os (.val (KS ls)) (.val (WS f)) .no .no s9 s10 s11 s12 s13 s14, F6⟩) (by simp [e7, t1]) ?_
  refine step (s1 := ⟨sOut n ks os (.val (KS ls)) (.val (WS f)) (.val (WS g)) .no s9 s10 s11 s12 s13 s14, F7⟩) (by simp [e8, t2]) ?_
  refine step (s1 := ⟨sOut n ks os (.val (KS ls)) (.val (WS f)) (.val (WS g)) (.own (.lst [.bl true, .bl true])) s9 s10 s11 s12 s13 s14, F7⟩) (by simp [callR, m1, eb, m2, cellOf]) ?_
  refine step (s1 := ⟨sOut n ks os (.val (KS ls)) (.val (WS f)) (.val (WS g)) (.own (.lst [.bl true, .bl true, .bl true])) s9 s10 s11 s12 s13 s14, F7⟩) (by
    simp at est ⊢
    simp [est, callR, m3, NW.ownL, ownOf, line]) ?_
  refine step (s1 := ⟨sOut n ks os (.val (KS ls)) (.val (WS f)) (.val (WS g)) (.own (.lst [.bl true, .bl true, .bl true, .bl true, .bl true, .bl false, .bl false])) s9 s10 s11 s12 s13 s14, F7⟩) (by
    simp [callR, m4, m5, m6, m7, er, len_KS, NW.ownL, ownOf, line]) ?_
  simp [callR, es, Cell.d]
theorem pure_law (ns : List Int) (h : ns.length ≤ 63) : ∃ F', callN Phi WW 60 N.law [.scr ns] [] = .ok (.bl true) false F' :=
  turns_go (Φ := Phi) (W := WW) (f := N._law_right) (g := N.law) (k := 58) (M := 2) (by omega) rfl (fun F n hF => right_eq (Φ := Phi) (W := WW) 49 hF) ns
end NW.K03
set_option autoImplicit false
set_option linter.all false
set_option maxRecDepth 100000
set_option maxHeartbeats 4000000
namespace NW.K03
open PySem PyProof.Rows L2 NW
abbrev Tb : Tab := ⟨("is_integer", N.is_integer, ["thing", "least", "most"], []) :: ("is_row_unlike", N.is_row_unlike, ["thing", "least", "most"], []) :: ("is_turning_form", N.is_turning_form, ["thing", "many"], []) :: ("turned_by", N.turned_by, ["turning", "row"], []) :: ("still", N.still, ["many"], []) :: ("is_group_form", N.is_group_form, ["many", "thing"], []) :: ("least_row", N.least_row, ["group", "row"], []) :: ("is_many", N.is_many, ["thing"], []) :: ("is_kind_form", N.is_kind_form, ["thing"], []) :: ("is_set_form", N.is_set_form, ["thing"], []) :: ("need_set", N.need_set, ["thing"], []) :: ("is_row_form", N.is_row_form, ["kind", "others", "thing"], []) :: ("is_row_steady", N.is_row_steady, ["kind", "other", "places"], []) :: ("is_rows_form", N.is_rows_form, ["things", "others", "thing"], []) :: ("is_map_form", N.is_map_form, ["things", "others", "thing"], []) :: ("is_map", N.is_map, ["things", "others", "thing"], [(0, ["thing", "others", "things"], [2, 1, 0])]) :: ("_law_feed", N._law_feed, ["script", "k"], []) :: ("_law_draw", N._law_draw, ["feed", "many"], []) :: ("_law_one", N._law_one, ["feed", "things"], []) :: ("_law_same", N._law_same, ["told", "due"], []) :: ("_law_mixed", N._law_mixed, ["feed", "things"], []) :: ("_law_turned", N._law_turned, ["turning", "row"], []) :: ("_law_longer", N._law_longer, ["rows", "many"], []) :: ("_law_turnings", N._law_turnings, ["many"], []) :: ("_law_closed", N._law_closed, ["many", "turnings"], []) :: ("_law_group", N._law_group, ["feed", "many"], []) :: ("_law_least", N._law_least, ["group", "row"], []) :: ("_law_ways", N._law_ways, ["joint", "kinds"], []) :: ("_law_kinds", N._law_kinds, ["feed", "many", "most", "least_names"], []) :: ("_law_rows", N._law_rows, ["names", "many"], []) :: ("_law_all_ways", N._law_all_ways, ["kind", "others"], []) :: ("_law_behind", N._law_behind, ["last", "first", "second"], []) :: ("_law_right", N._law_right, ["feed"], []) :: ("law", N.law, ["script"], []) :: [], [("MOST_TURNINGS", 120), ("MOST_KINDS", 300)], [], [], [], ["WriterError", "BadSet"], []⟩
def top (i : Nat) : Stmt := PySem.Challenge.rw_namewriters_k03_whole_maps_judged.prog.main.body.getD i (.Pass ⟨0, 0, 0, 0⟩)
abbrev s_is_integer : Stmt := top 4
abbrev s_is_row_unlike : Stmt := top 5
abbrev s_is_turning_form : Stmt := top 6
abbrev s_turned_by : Stmt := top 7
abbrev s_still : Stmt := top 8
abbrev s_is_group_form : Stmt := top 11
abbrev s_least_row : Stmt := top 12
abbrev s_is_many : Stmt := top 13
abbrev s_is_kind_form : Stmt := top 16
abbrev s_is_set_form : Stmt := top 17
abbrev s_need_set : Stmt := top 18
abbrev s_is_row_form : Stmt := top 20
abbrev s_is_row_steady : Stmt := top 21
abbrev s_is_rows_form : Stmt := top 22
abbrev s_is_map_form : Stmt := top 23
abbrev s_is_map : Stmt := top 25
abbrev s__law_feed : Stmt := top 27
abbrev s__law_draw : Stmt := top 28
abbrev s__law_one : Stmt := top 29
abbrev s__law_same : Stmt := top 30
abbrev s__law_mixed : Stmt := top 31
abbrev s__law_turned : Stmt := top 32
abbrev s__law_longer : Stmt := top 33
abbrev s__law_turnings : Stmt := top 34
abbrev s__law_closed : Stmt := top 35
abbrev s__law_group : Stmt := top 36
abbrev s__law_least : Stmt := top 37
abbrev s__law_ways : Stmt := top 38
abbrev s__law_kinds : Stmt := top 39
abbrev s__law_rows : Stmt := top 40
abbrev s__law_all_ways : Stmt := top 41
abbrev s__law_behind : Stmt := top 42
abbrev s__law_right : Stmt := top 43
abbrev s_law : Stmt := top 44
theorem sc_is_integer : FnScope ["thing", "least", "most"] ["thing", "least", "most"] (defScope s_is_integer) := ⟨rfl, rfl, rfl, by decide +kernel, rfl, by decide +kernel, by decide +kernel⟩
theorem tr_is_integer : trSs Tb ["thing", "least", "most"] (defScope s_is_integer) c_is_integer.body (defBody s_is_integer) = true := by decide +kernel
def d_is_integer : He.DefD := ⟨("is_integer", none), "is_integer", "is_integer", defArgs s_is_integer, defBody s_is_integer, defScope s_is_integer, [], []⟩
theorem sc_is_row_unlike : FnScope ["thing", "least", "most", "entry"] ["thing", "least", "most"] (defScope s_is_row_unlike) := ⟨rfl, rfl, rfl, by decide +kernel, rfl, by decide +kernel, by decide +kernel⟩
theorem tr_is_row_unlike : trSs Tb ["thing", "least", "most", "entry"] (defScope s_is_row_unlike) c_is_row_unlike.body (defBody s_is_row_unlike) = true := by decide +kernel
def d_is_row_unlike : He.DefD := ⟨("is_row_unlike", none), "is_row_unlike", "is_row_unlike", defArgs s_is_row_unlike, defBody s_is_row_unlike, defScope s_is_row_unlike, [], []⟩
theorem sc_is_turning_form : FnScope ["thing", "many"] ["thing", "many"] (defScope s_is_turning_form) := ⟨rfl, rfl, rfl, by decide +kernel, rfl, by decide +kernel, by decide +kernel⟩
theorem tr_is_turning_form : trSs Tb ["thing", "many"] (defScope s_is_turning_form) c_is_turning_form.body (defBody s_is_turning_form) = true := by decide +kernel
def d_is_turning_form : He.DefD := ⟨("is_turning_form", none), "is_turning_form", "is_turning_form", defArgs s_is_turning_form, defBody s_is_turning_form, defScope s_is_turning_form, [], []⟩
theorem sc_turned_by : FnScope ["turning", "row", "at"] ["turning", "row"] (defScope s_turned_by) := ⟨rfl, rfl, rfl, by decide +kernel, rfl, by decide +kernel, by decide +kernel⟩
theorem tr_turned_by : trSs Tb ["turning", "row", "at"] (defScope s_turned_by) c_turned_by.body (defBody s_turned_by) = true := by decide +kernel
def d_turned_by : He.DefD := ⟨("turned_by", none), "turned_by", "turned_by", defArgs s_turned_by, defBody s_turned_by, defScope s_turned_by, [], []⟩
theorem sc_still : FnScope ["many"] ["many"] (defScope s_still) := ⟨rfl, rfl, rfl, by decide +kernel, rfl, by decide +kernel, by decide +kernel⟩
theorem tr_still : trSs Tb ["many"] (defScope s_still) c_still.body (defBody s_still) = true := by decide +kernel
def d_still : He.DefD := ⟨("still", none), "still", "still", defArgs s_still, defBody s_still, defScope s_still, [], []⟩
theorem sc_is_group_form : FnScope ["many", "thing", "there", "one", "other"] ["many", "thing"] (defScope s_is_group_form) := ⟨rfl, rfl, rfl, by decide +kernel, rfl, by decide +kernel, by decide +kernel⟩
theorem tr_is_group_form : trSs Tb ["many", "thing", "there", "one", "other"] (defScope s_is_group_form) c_is_group_form.body (defBody s_is_group_form) = true := by decide +kernel
def d_is_group_form : He.DefD := ⟨("is_group_form", none), "is_group_form", "is_group_form", defArgs s_is_group_form, defBody s_is_group_form, defScope s_is_group_form, [], []⟩
theorem sc_least_row : FnScope ["group", "row", "one"] ["group", "row"] (defScope s_least_row) := ⟨rfl, rfl, rfl, by decide +kernel, rfl, by decide +kernel, by decide +kernel⟩
theorem tr_least_row : trSs Tb ["group", "row", "one"] (defScope s_least_row) c_least_row.body (defBody s_least_row) = true := by decide +kernel
def d_least_row : He.DefD := ⟨("least_row", none), "least_row", "least_row", defArgs s_least_row, defBody s_least_row, defScope s_least_row, [], []⟩
theorem sc_is_many : FnScope ["thing"] ["thing"] (defScope s_is_many) := ⟨rfl, rfl, rfl, by decide +kernel, rfl, by decide +kernel, by decide +kernel⟩
theorem tr_is_many : trSs Tb ["thing"] (defScope s_is_many) c_is_many.body (defBody s_is_many) = true := by decide +kernel
def d_is_many : He.DefD := ⟨("is_many", none), "is_many", "is_many", defArgs s_is_many, defBody s_is_many, defScope s_is_many, [], []⟩
theorem sc_is_kind_form : FnScope ["thing"] ["thing"] (defScope s_is_kind_form) := ⟨rfl, rfl, rfl, by decide +kernel, rfl, by decide +kernel, by decide +kernel⟩
theorem tr_is_kind_form : trSs Tb ["thing"] (defScope s_is_kind_form) c_is_kind_form.body (defBody s_is_kind_form) = true := by decide +kernel
def d_is_kind_form : He.DefD := ⟨("is_kind_form", none), "is_kind_form", "is_kind_form", defArgs s_is_kind_form, defBody s_is_kind_form, defScope s_is_kind_form, [], []⟩
theorem sc_is_set_form : FnScope ["thing", "kind"] ["thing"] (defScope s_is_set_form) := ⟨rfl, rfl, rfl, by decide +kernel, rfl, by decide +kernel, by decide +kernel⟩
theorem tr_is_set_form : trSs Tb ["thing", "kind"] (defScope s_is_set_form) c_is_set_form.body (defBody s_is_set_form) = true := by decide +kernel
def d_is_set_form : He.DefD := ⟨("is_set_form", none), "is_set_form", "is_set_form", defArgs s_is_set_form, defBody s_is_set_form, defScope s_is_set_form, [], []⟩
theorem sc_need_set : FnScope ["thing"] ["thing"] (defScope s_need_set) := ⟨rfl, rfl, rfl, by decide +kernel, rfl, by decide +kernel, by decide +kernel⟩
theorem tr_need_set : trSs Tb ["thing"] (defScope s_need_set) c_need_set.body (defBody s_need_set) = true := by decide +kernel
def d_need_set : He.DefD := ⟨("need_set", none), "need_set", "need_set", defArgs s_need_set, defBody s_need_set, defScope s_need_set, [], []⟩
theorem sc_is_row_form : FnScope ["kind", "others", "thing"] ["kind", "others", "thing"] (defScope s_is_row_form) := ⟨rfl, rfl, rfl, by decide +kernel, rfl, by decide +kernel, by decide +kernel⟩
theorem tr_is_row_form : trSs Tb ["kind", "others", "thing"] (defScope s_is_row_form) c_is_row_form.body (defBody s_is_row_form) = true := by decide +kernel
def d_is_row_form : He.DefD := ⟨("is_row_form", none), "is_row_form", "is_row_form", defArgs s_is_row_form, defBody s_is_row_form, defScope s_is_row_form, [], []⟩
theorem sc_is_row_steady : FnScope ["kind", "other", "places", "due", "one", "at"] ["kind", "other", "places"] (defScope s_is_row_steady) := ⟨rfl, rfl, rfl, by decide +kernel, rfl, by decide +kernel, by decide +kernel⟩
theorem tr_is_row_steady : trSs Tb ["kind", "other", "places", "due", "one", "at"] (defScope s_is_row_steady) c_is_row_steady.body (defBody s_is_row_steady) = true := by decide +kernel
def d_is_row_steady : He.DefD := ⟨("is_row_steady", none), "is_row_steady", "is_row_steady", defArgs s_is_row_steady, defBody s_is_row_steady, defScope s_is_row_steady, [], []⟩
theorem sc_is_rows_form : FnScope ["things", "others", "thing", "kind", "row"] ["things", "others", "thing"] (defScope s_is_rows_form) := ⟨rfl, rfl, rfl, by decide +kernel, rfl, by decide +kernel, by decide +kernel⟩
theorem tr_is_rows_form : trSs Tb ["things", "others", "thing", "kind", "row"] (defScope s_is_rows_form) c_is_rows_form.body (defBody s_is_rows_form) = true := by decide +kernel
def d_is_rows_form : He.DefD := ⟨("is_rows_form", none), "is_rows_form", "is_rows_form", defArgs s_is_rows_form, defBody s_is_rows_form, defScope s_is_rows_form, [], []⟩
theorem sc_is_map_form : FnScope ["things", "others", "thing", "kind", "index", "places"] ["things", "others", "thing"] (defScope s_is_map_form) := ⟨rfl, rfl, rfl, by decide +kernel, rfl, by decide +kernel, by decide +kernel⟩
theorem tr_is_map_form : trSs Tb ["things", "others", "thing", "kind", "index", "places"] (defScope s_is_map_form) c_is_map_form.body (defBody s_is_map_form) = true := by decide +kernel
def d_is_map_form : He.DefD := ⟨("is_map_form", none), "is_map_form", "is_map_form", defArgs s_is_map_form, defBody s_is_map_form, defScope s_is_map_form, [], []⟩
theorem sc_is_map : FnScope ["things", "others", "thing"] ["things", "others", "thing"] (defScope s_is_map) := ⟨rfl, rfl, rfl, by decide +kernel, rfl, by decide +kernel, by decide +kernel⟩
theorem tr_is_map : trSs Tb ["things", "others", "thing"] (defScope s_is_map) c_is_map.body (defBody s_is_map) = true := by decide +kernel
def d_is_map : He.DefD := ⟨("is_map", none), "is_map", "is_map", defArgs s_is_map, defBody s_is_map, defScope s_is_map, [], []⟩
theorem sc__law_feed : FnScope ["script", "k", "cell"] ["script", "k"] (defScope s__law_feed) := ⟨rfl, rfl, rfl, by decide +kernel, rfl, by decide +kernel, by decide +kernel⟩
theorem tr__law_feed : trSs Tb ["script", "k", "cell"] (defScope s__law_feed) c__law_feed.body (defBody s__law_feed) = true := by decide +kernel
def d__law_feed : He.DefD := ⟨("_law_feed", none), "_law_feed", "_law_feed", defArgs s__law_feed, defBody s__law_feed, defScope s__law_feed, [], []⟩
theorem sc__law_draw : FnScope ["feed", "many", "stir", "got"] ["feed", "many"] (defScope s__law_draw) := ⟨rfl, rfl, rfl, by decide +kernel, rfl, by decide +kernel, by decide +kernel⟩
theorem tr__law_draw : trSs Tb ["feed", "many", "stir", "got"] (defScope s__law_draw) c__law_draw.body (defBody s__law_draw) = true := by decide +kernel
def d__law_draw : He.DefD := ⟨("_law_draw", none), "_law_draw", "_law_draw", defArgs s__law_draw, defBody s__law_draw, defScope s__law_draw, [], []⟩
theorem sc__law_one : FnScope ["feed", "things"] ["feed", "things"] (defScope s__law_one) := ⟨rfl, rfl, rfl, by decide +kernel, rfl, by decide +kernel, by decide +kernel⟩
theorem tr__law_one : trSs Tb ["feed", "things"] (defScope s__law_one) c__law_one.body (defBody s__law_one) = true := by decide +kernel
def d__law_one : He.DefD := ⟨("_law_one", none), "_law_one", "_law_one", defArgs s__law_one, defBody s__law_one, defScope s__law_one, [], []⟩
theorem sc__law_same : FnScope ["told", "due", "one", "other"] ["told", "due"] (defScope s__law_same) := ⟨rfl, rfl, rfl, by decide +kernel, rfl, by decide +kernel, by decide +kernel⟩
theorem tr__law_same : trSs Tb ["told", "due", "one", "other"] (defScope s__law_same) c__law_same.body (defBody s__law_same) = true := by decide +kernel
def d__law_same : He.DefD := ⟨("_law_same", none), "_law_same", "_law_same", defArgs s__law_same, defBody s__law_same, defScope s__law_same, [], []⟩
theorem sc__law_mixed : FnScope ["feed", "things", "turn", "left", "found"] ["feed", "things"] (defScope s__law_mixed) := ⟨rfl, rfl, rfl, by decide +kernel, rfl, by decide +kernel, by decide +kernel⟩
theorem tr__law_mixed : trSs Tb ["feed", "things", "turn", "left", "found"] (defScope s__law_mixed) c__law_mixed.body (defBody s__law_mixed) = true := by decide +kernel
def d__law_mixed : He.DefD := ⟨("_law_mixed", none), "_law_mixed", "_law_mixed", defArgs s__law_mixed, defBody s__law_mixed, defScope s__law_mixed, [], []⟩
theorem sc__law_turned : FnScope ["turning", "row", "at"] ["turning", "row"] (defScope s__law_turned) := ⟨rfl, rfl, rfl, by decide +kernel, rfl, by decide +kernel, by decide +kernel⟩
theorem tr__law_turned : trSs Tb ["turning", "row", "at"] (defScope s__law_turned) c__law_turned.body (defBody s__law_turned) = true := by decide +kernel
def d__law_turned : He.DefD := ⟨("_law_turned", none), "_law_turned", "_law_turned", defArgs s__law_turned, defBody s__law_turned, defScope s__law_turned, [], []⟩
theorem sc__law_longer : FnScope ["rows", "many", "found", "row", "place"] ["rows", "many"] (defScope s__law_longer) := ⟨rfl, rfl, rfl, by decide +kernel, rfl, by decide +kernel, by decide +kernel⟩
theorem tr__law_longer : trSs Tb ["rows", "many", "found", "row", "place"] (defScope s__law_longer) c__law_longer.body (defBody s__law_longer) = true := by decide +kernel
def d__law_longer : He.DefD := ⟨("_law_longer", none), "_law_longer", "_law_longer", defArgs s__law_longer, defBody s__law_longer, defScope s__law_longer, [], []⟩
theorem sc__law_turnings : FnScope ["many", "found", "turn"] ["many"] (defScope s__law_turnings) := ⟨rfl, rfl, rfl, by decide +kernel, rfl, by decide +kernel, by decide +kernel⟩
theorem tr__law_turnings : trSs Tb ["many", "found", "turn"] (defScope s__law_turnings) c__law_turnings.body (defBody s__law_turnings) = true := by decide +kernel
def d__law_turnings : He.DefD := ⟨("_law_turnings", none), "_law_turnings", "_law_turnings", defArgs s__law_turnings, defBody s__law_turnings, defScope s__law_turnings, [], []⟩
theorem sc__law_closed : FnScope ["many", "turnings", "found", "turn", "one", "made"] ["many", "turnings"] (defScope s__law_closed) := ⟨rfl, rfl, rfl, by decide +kernel, rfl, by decide +kernel, by decide +kernel⟩
theorem tr__law_closed : trSs Tb ["many", "turnings", "found", "turn", "one", "made"] (defScope s__law_closed) c__law_closed.body (defBody s__law_closed) = true := by decide +kernel
def d__law_closed : He.DefD := ⟨("_law_closed", none), "_law_closed", "_law_closed", defArgs s__law_closed, defBody s__law_closed, defScope s__law_closed, [], []⟩
theorem sc__law_group : FnScope ["feed", "many", "turnings", "turn"] ["feed", "many"] (defScope s__law_group) := ⟨rfl, rfl, rfl, by decide +kernel, rfl, by decide +kernel, by decide +kernel⟩
theorem tr__law_group : trSs Tb ["feed", "many", "turnings", "turn"] (defScope s__law_group) c__law_group.body (defBody s__law_group) = true := by decide +kernel
def d__law_group : He.DefD := ⟨("_law_group", none), "_law_group", "_law_group", defArgs s__law_group, defBody s__law_group, defScope s__law_group, [], []⟩
theorem sc__law_least : FnScope ["group", "row", "one"] ["group", "row"] (defScope s__law_least) := ⟨rfl, rfl, rfl, by decide +kernel, rfl, by decide +kernel, by decide +kernel⟩
theorem tr__law_least : trSs Tb ["group", "row", "one"] (defScope s__law_least) c__law_least.body (defBody s__law_least) = true := by decide +kernel
def d__law_least : He.DefD := ⟨("_law_least", none), "_law_least", "_law_least", defArgs s__law_least, defBody s__law_least, defScope s__law_least, [], []⟩
theorem sc__law_ways : FnScope ["joint", "kinds", "found", "index", "rows", "turn", "row", "many", "group", "one", "at"] ["joint", "kinds"] (defScope s__law_ways) := ⟨rfl, rfl, rfl, by decide +kernel, rfl, by decide +kernel, by decide +kernel⟩
theorem tr__law_ways : trSs Tb ["joint", "kinds", "found", "index", "rows", "turn", "row", "many", "group", "one", "at"] (defScope s__law_ways) c__law_ways.body (defBody s__law_ways) = true := by decide +kernel
def d__law_ways : He.DefD := ⟨("_law_ways", none), "_law_ways", "_law_ways", defArgs s__law_ways, defBody s__law_ways, defScope s__law_ways, [], []⟩
theorem sc__law_kinds : FnScope ["feed", "many", "most", "least_names", "found", "turn", "size"] ["feed", "many", "most", "least_names"] (defScope s__law_kinds) := ⟨rfl, rfl, rfl, by decide +kernel, rfl, by decide +kernel, by decide +kernel⟩
theorem tr__law_kinds : trSs Tb ["feed", "many", "most", "least_names", "found", "turn", "size"] (defScope s__law_kinds) c__law_kinds.body (defBody s__law_kinds) = true := by decide +kernel
def d__law_kinds : He.DefD := ⟨("_law_kinds", none), "_law_kinds", "_law_kinds", defArgs s__law_kinds, defBody s__law_kinds, defScope s__law_kinds, [], []⟩
theorem sc__law_rows : FnScope ["names", "many", "found", "turn", "longer", "row", "name"] ["names", "many"] (defScope s__law_rows) := ⟨rfl, rfl, rfl, by decide +kernel, rfl, by decide +kernel, by decide +kernel⟩
theorem tr__law_rows : trSs Tb ["names", "many", "found", "turn", "longer", "row", "name"] (defScope s__law_rows) c__law_rows.body (defBody s__law_rows) = true := by decide +kernel
def d__law_rows : He.DefD := ⟨("_law_rows", none), "_law_rows", "_law_rows", defArgs s__law_rows, defBody s__law_rows, defScope s__law_rows, [], []⟩
theorem sc__law_all_ways : FnScope ["kind", "others", "found", "index", "many", "group", "row"] ["kind", "others"] (defScope s__law_all_ways) := ⟨rfl, rfl, rfl, by decide +kernel, rfl, by decide +kernel, by decide +kernel⟩
theorem tr__law_all_ways : trSs Tb ["kind", "others", "found", "index", "many", "group", "row"] (defScope s__law_all_ways) c__law_all_ways.body (defBody s__law_all_ways) = true := by decide +kernel
def d__law_all_ways : He.DefD := ⟨("_law_all_ways", none), "_law_all_ways", "_law_all_ways", defArgs s__law_all_ways, defBody s__law_all_ways, defScope s__law_all_ways, [], []⟩
theorem sc__law_behind : FnScope ["last", "first", "second", "found", "index", "places", "far", "row"] ["last", "first", "second"] (defScope s__law_behind) := ⟨rfl, rfl, rfl, by decide +kernel, rfl, by decide +kernel, by decide +kernel⟩
theorem tr__law_behind : trSs Tb ["last", "first", "second", "found", "index", "places", "far", "row"] (defScope s__law_behind) c__law_behind.body (defBody s__law_behind) = true := by decide +kernel
def d__law_behind : He.DefD := ⟨("_law_behind", none), "_law_behind", "_law_behind", defArgs s__law_behind, defBody s__law_behind, defScope s__law_behind, [], []⟩
theorem sc__law_right : FnScope ["feed", "none", "things", "others", "good", "last", "first", "second", "told", "at", "kind", "way", "function", "due", "place", "ways", "index", "one", "many", "group"] ["feed"] (defScope s__law_right) := ⟨rfl, rfl, rfl, by decide +kernel, rfl, by decide +kernel, by decide +kernel⟩
theorem tr__law_right : trSs Tb ["feed", "none", "things", "others", "good", "last", "first", "second", "told", "at", "kind", "way", "function", "due", "place", "ways", "index", "one", "many", "group"] (defScope s__law_right) c__law_right.body (defBody s__law_right) = true := by decide +kernel
def d__law_right : He.DefD := ⟨("_law_right", none), "_law_right", "_law_right", defArgs s__law_right, defBody s__law_right, defScope s__law_right, [], []⟩
theorem sc_law : FnScope ["script", "k"] ["script"] (defScope s_law) := ⟨rfl, rfl, rfl, by decide +kernel, rfl, by decide +kernel, by decide +kernel⟩
theorem tr_law : trSs Tb ["script", "k"] (defScope s_law) c_law.body (defBody s_law) = true := by decide +kernel
def d_law : He.DefD := ⟨("law", none), "law", "law", defArgs s_law, defBody s_law, defScope s_law, [], []⟩
def fn : List He.DefD := [d_is_integer, d_is_row_unlike, d_is_turning_form, d_turned_by, d_still, d_is_group_form, d_least_row, d_is_many, d_is_kind_form, d_is_set_form, d_need_set, d_is_row_form, d_is_row_steady, d_is_rows_form, d_is_map_form, d_is_map, d__law_feed, d__law_draw, d__law_one, d__law_same, d__law_mixed, d__law_turned, d__law_longer, d__law_turnings, d__law_closed, d__law_group, d__law_least, d__law_ways, d__law_kinds, d__law_rows, d__law_all_ways, d__law_behind, d__law_right, d_law]
def fa : List He.Fa := [.glo "is_integer", .glo "is_row_unlike", .glo "is_turning_form", .glo "turned_by", .glo "still", .glo "is_group_form", .glo "least_row", .glo "is_many", .glo "is_kind_form", .glo "is_set_form", .glo "need_set", .glo "is_row_form", .glo "is_row_steady", .glo "is_rows_form", .glo "is_map_form", .glo "is_map", .glo "_law_feed", .glo "_law_draw", .glo "_law_one", .glo "_law_same", .glo "_law_mixed", .glo "_law_turned", .glo "_law_longer", .glo "_law_turnings", .glo "_law_closed", .glo "_law_group", .glo "_law_least", .glo "_law_ways", .glo "_law_kinds", .glo "_law_rows", .glo "_law_all_ways", .glo "_law_behind", .glo "_law_right", .glo "law", .int "MOST_TURNINGS" 120, .int "MOST_KINDS" 300, .free "all", .free "bool", .free "dict", .free "enumerate", .free "int", .free "isinstance", .free "len", .free "list", .free "max", .free "min", .free "range", .free "sorted", .free "str", .free "sum", .free "tuple", .free "zip", .glo "WriterError", .exc "WriterError", .exm "WriterError" "WriterError" true, .glo "BadSet", .exc "BadSet", .exm "BadSet" "BadSet" true]
abbrev R : PySem.W.OpenRow := PySem.W.OpenLaw.row PySem.Challenge.rw_namewriters_k03_whole_maps_judged
abbrev hk : PySem.W.Hook := He.hookD 4 fa fn
def ob (s : PySem.W.SharedT) : He.AlD := He.obsDG 4 fa fn (HandSHeadRun.getT s)
theorem ob_eq (s : PySem.W.SharedT) : ob s = hk.obs s.abs := He.obsDG_eq (HandSHeadRun.getT_eq s)
def lo0 : List PySem.Str := ["is_integer", "is_row_unlike", "is_turning_form", "turned_by", "still", "is_group_form", "least_row", "is_many", "is_kind_form", "is_set_form", "need_set", "is_row_form", "is_row_steady", "is_rows_form", "is_map_form", "is_map", "_law_feed", "_law_draw", "_law_one", "_law_same", "_law_mixed", "_law_turned", "_law_longer", "_law_turnings", "_law_closed", "_law_group", "_law_least", "_law_ways", "_law_kinds", "_law_rows"]
def lo1 : List PySem.Str := ["_law_all_ways", "_law_behind", "_law_right", "MOST_TURNINGS", "MOST_KINDS", "WriterError", "BadSet"]
abbrev loose : List PySem.Str := lo0 ++ lo1
theorem run (w : World) : HandSHeadRun.RunEq R (PySem.W.view R.prog [44]) hk ob 6000 loose w := by
  intro os
  kernel_rfl
section
variable {K : PySem.W.Frag} {h : Heap} {mg : Str → Option Value}
theorem def_is_integer (X : K.In h) (G : h.Ns mainGlobals mg) (c : He.SaysD fa fn K) : DefI K mg Tb Phi "is_integer" N.is_integer ["thing", "least", "most"] [] := by
  obtain ⟨fd, F⟩ := c.def_ 0 (d := d_is_integer) rfl
  exact ⟨_, fd, "is_integer", _, _, _, ["thing", "least", "most"], c_is_integer, He.glo_ok X G (c.fact 0 (f := .glo "is_integer") rfl), F, rfl, sc_is_integer, tr_is_integer, rfl, rfl, by decide, (fun _ _ _ _ _ _ us hl => match us, hl with | [_, _, _], _ => rfl), fun q hq => by cases hq⟩
theorem def_is_row_unlike (X : K.In h) (G : h.Ns mainGlobals mg) (c : He.SaysD fa fn K) : DefI K mg Tb Phi "is_row_unlike" N.is_row_unlike ["thing", "least", "most"] [] := by
  obtain ⟨fd, F⟩ := c.def_ 1 (d := d_is_row_unlike) rfl
  exact ⟨_, fd, "is_row_unlike", _, _, _, ["thing", "least", "most", "entry"], c_is_row_unlike, He.glo_ok X G (c.fact 1 (f := .glo "is_row_unlike") rfl), F, rfl, sc_is_row_unlike, tr_is_row_unlike, rfl, rfl, by decide, (fun _ _ _ _ _ _ us hl => match us, hl with | [_, _, _], _ => rfl), fun q hq => by cases hq⟩
theorem def_is_turning_form (X : K.In h) (G : h.Ns mainGlobals mg) (c : He.SaysD fa fn K) : DefI K mg Tb Phi "is_turning_form" N.is_turning_form ["thing", "many"] [] := by
  obtain ⟨fd, F⟩ := c.def_ 2 (d := d_is_turning_form) rfl
  exact ⟨_, fd, "is_turning_form", _, _, _, ["thing", "many"], c_is_turning_form, He.glo_ok X G (c.fact 2 (f := .glo "is_turning_form") rfl), F, rfl, sc_is_turning_form, tr_is_turning_form, rfl, rfl, by decide, (fun _ _ _ _ _ _ us hl => match us, hl with | [_, _], _ => rfl), fun q hq => by cases hq⟩
theorem def_turned_by (X : K.In h) (G : h.Ns mainGlobals mg) (c : He.SaysD fa fn K) : DefI K mg Tb Phi "turned_by" N.turned_by ["turning", "row"] [] := by
  obtain ⟨fd, F⟩ := c.def_ 3 (d := d_turned_by) rfl
  exact ⟨_, fd, "turned_by", _, _, _, ["turning", "row", "at"], c_turned_by, He.glo_ok X G (c.fact 3 (f := .glo "turned_by") rfl), F, rfl, sc_turned_by, tr_turned_by, rfl, rfl, by decide, (fun _ _ _ _ _ _ us hl => match us, hl with | [_, _], _ => rfl), fun q hq => by cases hq⟩
theorem def_still (X : K.In h) (G : h.Ns mainGlobals mg) (c : He.SaysD fa fn K) : DefI K mg Tb Phi "still" N.still ["many"] [] := by
  obtain ⟨fd, F⟩ := c.def_ 4 (d := d_still) rfl
  exact ⟨_, fd, "still", _, _, _, ["many"], c_still, He.glo_ok X G (c.fact 4 (f := .glo "still") rfl), F, rfl, sc_still, tr_still, rfl, rfl, by decide, (fun _ _ _ _ _ _ us hl => match us, hl with | [_], _ => rfl), fun q hq => by cases hq⟩
theorem def_is_group_form (X : K.In h) (G : h.Ns mainGlobals mg) (c : He.SaysD fa fn K) : DefI K mg Tb Phi "is_group_form" N.is_group_form ["many", "thing"] [] := by
  obtain ⟨fd, F⟩ := c.def_ 5 (d := d_is_group_form) rfl
  exact ⟨_, fd, "is_group_form", _, _, _, ["many", "thing", "there", "one", "other"], c_is_group_form, He.glo_ok X G (c.fact 5 (f := .glo "is_group_form") rfl), F, rfl, sc_is_group_form, tr_is_group_form, rfl, rfl, by decide, (fun _ _ _ _ _ _ us hl => match us, hl with | [_, _], _ => rfl), fun q hq => by cases hq⟩
theorem def_least_row (X : K.In h) (G : h.Ns mainGlobals mg) (c : He.SaysD fa fn K) : DefI K mg Tb Phi "least_row" N.least_row ["group", "row"] [] := by
  obtain ⟨fd, F⟩ := c.def_ 6 (d := d_least_row) rfl
  exact ⟨_, fd, "least_row", _, _, _, ["group", "row", "one"], c_least_row, He.glo_ok X G (c.fact 6 (f := .glo "least_row") rfl), F, rfl, sc_least_row, tr_least_row, rfl, rfl, by decide, (fun _ _ _ _ _ _ us hl => match us, hl with | [_, _], _ => rfl), fun q hq => by cases hq⟩
theorem def_is_many (X : K.In h) (G : h.Ns mainGlobals mg) (c : He.SaysD fa fn K) : DefI K mg Tb Phi "is_many" N.is_many ["thing"] [] := by
  obtain ⟨fd, F⟩ := c.def_ 7 (d := d_is_many) rfl
  exact ⟨_, fd, "is_many", _, _, _, ["thing"], c_is_many, He.glo_ok X G (c.fact 7 (f := .glo "is_many") rfl), F, rfl, sc_is_many, tr_is_many, rfl, rfl, by decide, (fun _ _ _ _ _ _ us hl => match us, hl with | [_], _ => rfl), fun q hq => by cases hq⟩
theorem def_is_kind_form (X : K.In h) (G : h.Ns mainGlobals mg) (c : He.SaysD fa fn K) : DefI K mg Tb Phi "is_kind_form" N.is_kind_form ["thing"] [] := by
  obtain ⟨fd, F⟩ := c.def_ 8 (d := d_is_kind_form) rfl
  exact ⟨_, fd, "is_kind_form", _, _, _, ["thing"], c_is_kind_form, He.glo_ok X G (c.fact 8 (f := .glo "is_kind_form") rfl), F, rfl, sc_is_kind_form, tr_is_kind_form, rfl, rfl, by decide, (fun _ _ _ _ _ _ us hl => match us, hl with | [_], _ => rfl), fun q hq => by cases hq⟩
theorem def_is_set_form (X : K.In h) (G : h.Ns mainGlobals mg) (c : He.SaysD fa fn K) : DefI K mg Tb Phi "is_set_form" N.is_set_form ["thing"] [] := by
  obtain ⟨fd, F⟩ := c.def_ 9 (d := d_is_set_form) rfl
  exact ⟨_, fd, "is_set_form", _, _, _, ["thing", "kind"], c_is_set_form, He.glo_ok X G (c.fact 9 (f := .glo "is_set_form") rfl), F, rfl, sc_is_set_form, tr_is_set_form, rfl, rfl, by decide, (fun _ _ _ _ _ _ us hl => match us, hl with | [_], _ => rfl), fun q hq => by cases hq⟩
theorem def_need_set (X : K.In h) (G : h.Ns mainGlobals mg) (c : He.SaysD fa fn K) : DefI K mg Tb Phi "need_set" N.need_set ["thing"] [] := by
  obtain ⟨fd, F⟩ := c.def_ 10 (d := d_need_set) rfl
  exact ⟨_, fd, "need_set", _, _, _, ["thing"], c_need_set, He.glo_ok X G (c.fact 10 (f := .glo "need_set") rfl), F, rfl, sc_need_set, tr_need_set, rfl, rfl, by decide, (fun _ _ _ _ _ _ us hl => match us, hl with | [_], _ => rfl), fun q hq => by cases hq⟩
theorem def_is_row_form (X : K.In h) (G : h.Ns mainGlobals mg) (c : He.SaysD fa fn K) : DefI K mg Tb Phi "is_row_form" N.is_row_form ["kind", "others", "thing"] [] := by
  obtain ⟨fd, F⟩ := c.def_ 11 (d := d_is_row_form) rfl
  exact ⟨_, fd, "is_row_form", _, _, _, ["kind", "others", "thing"], c_is_row_form, He.glo_ok X G (c.fact 11 (f := .glo "is_row_form") rfl), F, rfl, sc_is_row_form, tr_is_row_form, rfl, rfl, by decide, (fun _ _ _ _ _ _ us hl => match us, hl with | [_, _, _], _ => rfl), fun q hq => by cases hq⟩
theorem def_is_row_steady (X : K.In h) (G : h.Ns mainGlobals mg) (c : He.SaysD fa fn K) : DefI K mg Tb Phi "is_row_steady" N.is_row_steady ["kind", "other", "places"] [] := by
  obtain ⟨fd, F⟩ := c.def_ 12 (d := d_is_row_steady) rfl
  exact ⟨_, fd, "is_row_steady", _, _, _, ["kind", "other", "places", "due", "one", "at"], c_is_row_steady, He.glo_ok X G (c.fact 12 (f := .glo "is_row_steady") rfl), F, rfl, sc_is_row_steady, tr_is_row_steady, rfl, rfl, by decide, (fun _ _ _ _ _ _ us hl => match us, hl with | [_, _, _], _ => rfl), fun q hq => by cases hq⟩
theorem def_is_rows_form (X : K.In h) (G : h.Ns mainGlobals mg) (c : He.SaysD fa fn K) : DefI K mg Tb Phi "is_rows_form" N.is_rows_form ["things", "others", "thing"] [] := by
  obtain ⟨fd, F⟩ := c.def_ 13 (d := d_is_rows_form) rfl
  exact ⟨_, fd, "is_rows_form", _, _, _, ["things", "others", "thing", "kind", "row"], c_is_rows_form, He.glo_ok X G (c.fact 13 (f := .glo "is_rows_form") rfl), F, rfl, sc_is_rows_form, tr_is_rows_form, rfl, rfl, by decide, (fun _ _ _ _ _ _ us hl => match us, hl with | [_, _, _], _ => rfl), fun q hq => by cases hq⟩
theorem def_is_map_form (X : K.In h) (G : h.Ns mainGlobals mg) (c : He.SaysD fa fn K) : DefI K mg Tb Phi "is_map_form" N.is_map_form ["things", "others", "thing"] [] := by
  obtain ⟨fd, F⟩ := c.def_ 14 (d := d_is_map_form) rfl
  exact ⟨_, fd, "is_map_form", _, _, _, ["things", "others", "thing", "kind", "index", "places"], c_is_map_form, He.glo_ok X G (c.fact 14 (f := .glo "is_map_form") rfl), F, rfl, sc_is_map_form, tr_is_map_form, rfl, rfl, by decide, (fun _ _ _ _ _ _ us hl => match us, hl with | [_, _, _], _ => rfl), fun q hq => by cases hq⟩
theorem def_is_map (X : K.In h) (G : h.Ns mainGlobals mg) (c : He.SaysD fa fn K) : DefI K mg Tb Phi "is_map" N.is_map ["things", "others", "thing"] [(0, ["thing", "others", "things"], [2, 1, 0])] := by
  obtain ⟨fd, F⟩ := c.def_ 15 (d := d_is_map) rfl
  exact ⟨_, fd, "is_map", _, _, _, ["things", "others", "thing"], c_is_map, He.glo_ok X G (c.fact 15 (f := .glo "is_map") rfl), F, rfl, sc_is_map, tr_is_map, rfl, rfl, by decide, (fun _ _ _ _ _ _ us hl => match us, hl with | [_, _, _], _ => rfl), fun q hq => by
    simp only [List.mem_cons, List.not_mem_nil, or_false] at hq
    rcases hq with rfl
    · exact fun _ _ _ _ _ _ us ws h1 h2 => match us, ws, h1, h2 with | [], [_, _, _], _, _ => rfl⟩
theorem def__law_feed (X : K.In h) (G : h.Ns mainGlobals mg) (c : He.SaysD fa fn K) : DefI K mg Tb Phi "_law_feed" N._law_feed ["script", "k"] [] := by
  obtain ⟨fd, F⟩ := c.def_ 16 (d := d__law_feed) rfl
  exact ⟨_, fd, "_law_feed", _, _, _, ["script", "k", "cell"], c__law_feed, He.glo_ok X G (c.fact 16 (f := .glo "_law_feed") rfl), F, rfl, sc__law_feed, tr__law_feed, rfl, rfl, by decide, (fun _ _ _ _ _ _ us hl => match us, hl with | [_, _], _ => rfl), fun q hq => by cases hq⟩
theorem def__law_draw (X : K.In h) (G : h.Ns mainGlobals mg) (c : He.SaysD fa fn K) : DefI K mg Tb Phi "_law_draw" N._law_draw ["feed", "many"] [] := by
  obtain ⟨fd, F⟩ := c.def_ 17 (d := d__law_draw) rfl
  exact ⟨_, fd, "_law_draw", _, _, _, ["feed", "many", "stir", "got"], c__law_draw, He.glo_ok X G (c.fact 17 (f := .glo "_law_draw") rfl), F, rfl, sc__law_draw, tr__law_draw, rfl, rfl, by decide, (fun _ _ _ _ _ _ us hl => match us, hl with | [_, _], _ => rfl), fun q hq => by cases hq⟩
theorem def__law_one (X : K.In h) (G : h.Ns mainGlobals mg) (c : He.SaysD fa fn K) : DefI K mg Tb Phi "_law_one" N._law_one ["feed", "things"] [] := by
  obtain ⟨fd, F⟩ := c.def_ 18 (d := d__law_one) rfl
  exact ⟨_, fd, "_law_one", _, _, _, ["feed", "things"], c__law_one, He.glo_ok X G (c.fact 18 (f := .glo "_law_one") rfl), F, rfl, sc__law_one, tr__law_one, rfl, rfl, by decide, (fun _ _ _ _ _ _ us hl => match us, hl with | [_, _], _ => rfl), fun q hq => by cases hq⟩
theorem def__law_same (X : K.In h) (G : h.Ns mainGlobals mg) (c : He.SaysD fa fn K) : DefI K mg Tb Phi "_law_same" N._law_same ["told", "due"] [] := by
  obtain ⟨fd, F⟩ := c.def_ 19 (d := d__law_same) rfl
  exact ⟨_, fd, "_law_same", _, _, _, ["told", "due", "one", "other"], c__law_same, He.glo_ok X G (c.fact 19 (f := .glo "_law_same") rfl), F, rfl, sc__law_same, tr__law_same, rfl, rfl, by decide, (fun _ _ _ _ _ _ us hl => match us, hl with | [_, _], _ => rfl), fun q hq => by cases hq⟩
theorem def__law_mixed (X : K.In h) (G : h.Ns mainGlobals mg) (c : He.SaysD fa fn K) : DefI K mg Tb Phi "_law_mixed" N._law_mixed ["feed", "things"] [] := by
  obtain ⟨fd, F⟩ := c.def_ 20 (d := d__law_mixed) rfl
  exact ⟨_, fd, "_law_mixed", _, _, _, ["feed", "things", "turn", "left", "found"], c__law_mixed, He.glo_ok X G (c.fact 20 (f := .glo "_law_mixed") rfl), F, rfl, sc__law_mixed, tr__law_mixed, rfl, rfl, by decide, (fun _ _ _ _ _ _ us hl => match us, hl with | [_, _], _ => rfl), fun q hq => by cases hq⟩
theorem def__law_turned (X : K.In h) (G : h.Ns mainGlobals mg) (c : He.SaysD fa fn K) : DefI K mg Tb Phi "_law_turned" N._law_turned ["turning", "row"] [] := by
  obtain ⟨fd, F⟩ := c.def_ 21 (d := d__law_turned) rfl
  exact ⟨_, fd, "_law_turned", _, _, _, ["turning", "row", "at"], c__law_turned, He.glo_ok X G (c.fact 21 (f := .glo "_law_turned") rfl), F, rfl, sc__law_turned, tr__law_turned, rfl, rfl, by decide, (fun _ _ _ _ _ _ us hl => match us, hl with | [_, _], _ => rfl), fun q hq => by cases hq⟩
theorem def__law_longer (X : K.In h) (G : h.Ns mainGlobals mg) (c : He.SaysD fa fn K) : DefI K mg Tb Phi "_law_longer" N._law_longer ["rows", "many"] [] := by
  obtain ⟨fd, F⟩ := c.def_ 22 (d := d__law_longer) rfl
  exact ⟨_, fd, "_law_longer", _, _, _, ["rows", "many", "found", "row", "place"], c__law_longer, He.glo_ok X G (c.fact 22 (f := .glo "_law_longer") rfl), F, rfl, sc__law_longer, tr__law_longer, rfl, rfl, by decide, (fun _ _ _ _ _ _ us hl => match us, hl with | [_, _], _ => rfl), fun q hq => by cases hq⟩
theorem def__law_turnings (X : K.In h) (G : h.Ns mainGlobals mg) (c : He.SaysD fa fn K) : DefI K mg Tb Phi "_law_turnings" N._law_turnings ["many"] [] := by
  obtain ⟨fd, F⟩ := c.def_ 23 (d := d__law_turnings) rfl
  exact ⟨_, fd, "_law_turnings", _, _, _, ["many", "found", "turn"], c__law_turnings, He.glo_ok X G (c.fact 23 (f := .glo "_law_turnings") rfl), F, rfl, sc__law_turnings, tr__law_turnings, rfl, rfl, by decide, (fun _ _ _ _ _ _ us hl => match us, hl with | [_], _ => rfl), fun q hq => by cases hq⟩
theorem def__law_closed (X : K.In h) (G : h.Ns mainGlobals mg) (c : He.SaysD fa fn K) : DefI K mg Tb Phi "_law_closed" N._law_closed ["many", "turnings"] [] := by
  obtain ⟨fd, F⟩ := c.def_ 24 (d := d__law_closed) rfl
  exact ⟨_, fd, "_law_closed", _, _, _, ["many", "turnings", "found", "turn", "one", "made"], c__law_closed, He.glo_ok X G (c.fact 24 (f := .glo "_law_closed") rfl), F, rfl, sc__law_closed, tr__law_closed, rfl, rfl, by decide, (fun _ _ _ _ _ _ us hl => match us, hl with | [_, _], _ => rfl), fun q hq => by cases hq⟩
theorem def__law_group (X : K.In h) (G : h.Ns mainGlobals mg) (c : He.SaysD fa fn K) : DefI K mg Tb Phi "_law_group" N._law_group ["feed", "many"] [] := by
  obtain ⟨fd, F⟩ := c.def_ 25 (d := d__law_group) rfl
  exact ⟨_, fd, "_law_group", _, _, _, ["feed", "many", "turnings", "turn"], c__law_group, He.glo_ok X G (c.fact 25 (f := .glo "_law_group") rfl), F, rfl, sc__law_group, tr__law_group, rfl, rfl, by decide, (fun _ _ _ _ _ _ us hl => match us, hl with | [_, _], _ => rfl), fun q hq => by cases hq⟩
theorem def__law_least (X : K.In h) (G : h.Ns mainGlobals mg) (c : He.SaysD fa fn K) : DefI K mg Tb Phi "_law_least" N._law_least ["group", "row"] [] := by
  obtain ⟨fd, F⟩ := c.def_ 26 (d := d__law_least) rfl
  exact ⟨_, fd, "_law_least", _, _, _, ["group", "row", "one"], c__law_least, He.glo_ok X G (c.fact 26 (f := .glo "_law_least") rfl), F, rfl, sc__law_least, tr__law_least, rfl, rfl, by decide, (fun _ _ _ _ _ _ us hl => match us, hl with | [_, _], _ => rfl), fun q hq => by cases hq⟩
theorem def__law_ways (X : K.In h) (G : h.Ns mainGlobals mg) (c : He.SaysD fa fn K) : DefI K mg Tb Phi "_law_ways" N._law_ways ["joint", "kinds"] [] := by
  obtain ⟨fd, F⟩ := c.def_ 27 (d := d__law_ways) rfl
  exact ⟨_, fd, "_law_ways", _, _, _, ["joint", "kinds", "found", "index", "rows", "turn", "row", "many", "group", "one", "at"], c__law_ways, He.glo_ok X G (c.fact 27 (f := .glo "_law_ways") rfl), F, rfl, sc__law_ways, tr__law_ways, rfl, rfl, by decide, (fun _ _ _ _ _ _ us hl => match us, hl with | [_, _], _ => rfl), fun q hq => by cases hq⟩
theorem def__law_kinds (X : K.In h) (G : h.Ns mainGlobals mg) (c : He.SaysD fa fn K) : DefI K mg Tb Phi "_law_kinds" N._law_kinds ["feed", "many", "most", "least_names"] [] := by
  obtain ⟨fd, F⟩ := c.def_ 28 (d := d__law_kinds) rfl
  exact ⟨_, fd, "_law_kinds", _, _, _, ["feed", "many", "most", "least_names", "found", "turn", "size"], c__law_kinds, He.glo_ok X G (c.fact 28 (f := .glo "_law_kinds") rfl), F, rfl, sc__law_kinds, tr__law_kinds, rfl, rfl, by decide, (fun _ _ _ _ _ _ us hl => match us, hl with | [_, _, _, _], _ => rfl), fun q hq => by cases hq⟩
theorem def__law_rows (X : K.In h) (G : h.Ns mainGlobals mg) (c : He.SaysD fa fn K) : DefI K mg Tb Phi "_law_rows" N._law_rows ["names", "many"] [] := by
  obtain ⟨fd, F⟩ := c.def_ 29 (d := d__law_rows) rfl
  exact ⟨_, fd, "_law_rows", _, _, _, ["names", "many", "found", "turn", "longer", "row", "name"], c__law_rows, He.glo_ok X G (c.fact 29 (f := .glo "_law_rows") rfl), F, rfl, sc__law_rows, tr__law_rows, rfl, rfl, by decide, (fun _ _ _ _ _ _ us hl => match us, hl with | [_, _], _ => rfl), fun q hq => by cases hq⟩
theorem def__law_all_ways (X : K.In h) (G : h.Ns mainGlobals mg) (c : He.SaysD fa fn K) : DefI K mg Tb Phi "_law_all_ways" N._law_all_ways ["kind", "others"] [] := by
  obtain ⟨fd, F⟩ := c.def_ 30 (d := d__law_all_ways) rfl
  exact ⟨_, fd, "_law_all_ways", _, _, _, ["kind", "others", "found", "index", "many", "group", "row"], c__law_all_ways, He.glo_ok X G (c.fact 30 (f := .glo "_law_all_ways") rfl), F, rfl, sc__law_all_ways, tr__law_all_ways, rfl, rfl, by decide, (fun _ _ _ _ _ _ us hl => match us, hl with | [_, _], _ => rfl), fun q hq => by cases hq⟩
theorem def__law_behind (X : K.In h) (G : h.Ns mainGlobals mg) (c : He.SaysD fa fn K) : DefI K mg Tb Phi "_law_behind" N._law_behind ["last", "first", "second"] [] := by
  obtain ⟨fd, F⟩ := c.def_ 31 (d := d__law_behind) rfl
  exact ⟨_, fd, "_law_behind", _, _, _, ["last", "first", "second", "found", "index", "places", "far", "row"], c__law_behind, He.glo_ok X G (c.fact 31 (f := .glo "_law_behind") rfl), F, rfl, sc__law_behind, tr__law_behind, rfl, rfl, by decide, (fun _ _ _ _ _ _ us hl => match us, hl with | [_, _, _], _ => rfl), fun q hq => by cases hq⟩
theorem def__law_right (X : K.In h) (G : h.Ns mainGlobals mg) (c : He.SaysD fa fn K) : DefI K mg Tb Phi "_law_right" N._law_right ["feed"] [] := by
  obtain ⟨fd, F⟩ := c.def_ 32 (d := d__law_right) rfl
  exact ⟨_, fd, "_law_right", _, _, _, ["feed", "none", "things", "others", "good", "last", "first", "second", "told", "at", "kind", "way", "function", "due", "place", "ways", "index", "one", "many", "group"], c__law_right, He.glo_ok X G (c.fact 32 (f := .glo "_law_right") rfl), F, rfl, sc__law_right, tr__law_right, rfl, rfl, by decide, (fun _ _ _ _ _ _ us hl => match us, hl with | [_], _ => rfl), fun q hq => by cases hq⟩
theorem def_law (X : K.In h) (G : h.Ns mainGlobals mg) (c : He.SaysD fa fn K) : DefI K mg Tb Phi "law" N.law ["script"] [] := by
  obtain ⟨fd, F⟩ := c.def_ 33 (d := d_law) rfl
  exact ⟨_, fd, "law", _, _, _, ["script", "k"], c_law, He.glo_ok X G (c.fact 33 (f := .glo "law") rfl), F, rfl, sc_law, tr_law, rfl, rfl, by decide, (fun _ _ _ _ _ _ us hl => match us, hl with | [_], _ => rfl), fun q hq => by cases hq⟩
theorem modI (X : K.In h) (G : h.Ns mainGlobals mg) (c : He.SaysD fa fn K) : ModI K mg Tb Phi := by
  refine ⟨fun p hp => ?_, fun x hx => ?_, fun p hp => ?_, (fun p hp => by cases hp), (fun p hp => by cases hp), (fun p hp => by cases hp), fun p hp => ?_, (fun p hp => by cases hp)⟩
  · simp only [List.mem_cons, List.not_mem_nil, or_false] at hp
    rcases hp with rfl | rfl | rfl | rfl | rfl | rfl | rfl | rfl | rfl | rfl | rfl | rfl | rfl | rfl | rfl | rfl | rfl | rfl | rfl | rfl | rfl | rfl | rfl | rfl | rfl | rfl | rfl | rfl | rfl | rfl | rfl | rfl | rfl | rfl
    · exact def_is_integer X G c
    · exact def_is_row_unlike X G c
    · exact def_is_turning_form X G c
    · exact def_turned_by X G c
    · exact def_still X G c
    · exact def_is_group_form X G c
    · exact def_least_row X G c
    · exact def_is_many X G c
    · exact def_is_kind_form X G c
    · exact def_is_set_form X G c
    · exact def_need_set X G c
    · exact def_is_row_form X G c
    · exact def_is_row_steady X G c
    · exact def_is_rows_form X G c
    · exact def_is_map_form X G c
    · exact def_is_map X G c
    · exact def__law_feed X G c
    · exact def__law_draw X G c
    · exact def__law_one X G c
    · exact def__law_same X G c
    · exact def__law_mixed X G c
    · exact def__law_turned X G c
    · exact def__law_longer X G c
    · exact def__law_turnings X G c
    · exact def__law_closed X G c
    · exact def__law_group X G c
    · exact def__law_least X G c
    · exact def__law_ways X G c
    · exact def__law_kinds X G c
    · exact def__law_rows X G c
    · exact def__law_all_ways X G c
    · exact def__law_behind X G c
    · exact def__law_right X G c
    · exact def_law X G c
  · simp only [bltNames, List.mem_cons, List.not_mem_nil, or_false] at hx
    rcases hx with rfl | rfl | rfl | rfl | rfl | rfl | rfl | rfl | rfl | rfl | rfl | rfl | rfl | rfl | rfl | rfl
    · exact He.free_ok X G (c.fact 42 (f := .free "len") rfl)
    · exact He.free_ok X G (c.fact 40 (f := .free "int") rfl)
    · exact He.free_ok X G (c.fact 49 (f := .free "sum") rfl)
    · exact He.free_ok X G (c.fact 44 (f := .free "max") rfl)
    · exact He.free_ok X G (c.fact 45 (f := .free "min") rfl)
    · exact He.free_ok X G (c.fact 36 (f := .free "all") rfl)
    · exact He.free_ok X G (c.fact 50 (f := .free "tuple") rfl)
    · exact He.free_ok X G (c.fact 43 (f := .free "list") rfl)
    · exact He.free_ok X G (c.fact 47 (f := .free "sorted") rfl)
    · exact He.free_ok X G (c.fact 41 (f := .free "isinstance") rfl)
    · exact He.free_ok X G (c.fact 46 (f := .free "range") rfl)
    · exact He.free_ok X G (c.fact 39 (f := .free "enumerate") rfl)
    · exact He.free_ok X G (c.fact 51 (f := .free "zip") rfl)
    · exact He.free_ok X G (c.fact 37 (f := .free "bool") rfl)
    · exact He.free_ok X G (c.fact 48 (f := .free "str") rfl)
    · exact He.free_ok X G (c.fact 38 (f := .free "dict") rfl)
  · simp only [List.mem_cons, List.not_mem_nil, or_false] at hp
    rcases hp with rfl | rfl
    · exact He.int_ok X G (c.fact 34 (f := .int "MOST_TURNINGS" 120) rfl)
    · exact He.int_ok X G (c.fact 35 (f := .int "MOST_KINDS" 300) rfl)
  · simp only [List.mem_cons, List.not_mem_nil, or_false] at hp
    rcases hp with rfl | rfl
    · exact (fun ⟨a, b, c', d⟩ => ⟨He.glo_ok X G (c.fact 52 (f := .glo "WriterError") rfl), a, b, c', d, He.exm_ok (c.fact 54 (f := .exm "WriterError" "WriterError" true) rfl)⟩) (He.exc_ok (c.fact 53 (f := .exc "WriterError") rfl))
    · exact (fun ⟨a, b, c', d⟩ => ⟨He.glo_ok X G (c.fact 55 (f := .glo "BadSet") rfl), a, b, c', d, He.exm_ok (c.fact 57 (f := .exm "BadSet" "BadSet" true) rfl)⟩) (He.exc_ok (c.fact 56 (f := .exc "BadSet") rfl))
end
end NW.K03
open PySem PySem.W PySem.Calls PyProof.Rows
theorem PySem.Challenge.cw_namewriters_k03_whole_maps_judged_holds : PySem.Challenge.rw_namewriters_k03_whole_maps_judged.Holds := by
  w_on; o_law
  refine HandSHeadRun.head_any (r := OpenLaw.row PySem.Challenge.rw_namewriters_k03_whole_maps_judged) (q := view (OpenLaw.row PySem.Challenge.rw_namewriters_k03_whole_maps_judged).prog [44]) (H := NW.K03.hk) (ob := NW.K03.ob) (M := 6000) (loose := NW.K03.loose) (d := HandSHeadRun.topDef (OpenLaw.row PySem.Challenge.rw_namewriters_k03_whole_maps_judged).prog 44) (kwd := []) NW.K03.ob_eq
    (by kernel_rfl) (fun s => by kernel_rfl) NW.K03.run (by kernel_rfl) (by kernel_rfl) (by kernel_rfl) (by rfl) (by first | assumption | decide +kernel) (by decide +kernel) ⟨rfl, rfl, rfl, rfl, rfl, by decide +kernel⟩ ?hw ?hc
  case hw => w_witness2
  case hc =>
    refine L2.walk_ofE (l := PySem.Challenge.rw_namewriters_k03_whole_maps_judged) (n := 63) (k := 120) (x := "script") (CX := fun outer H s E e s' => ∃ w, L2.CX (PySem.Challenge.rw_namewriters_k03_whole_maps_judged).prog w outer H s E e s') rfl (by decide) (by kernel_rfl) ⟨rfl, by decide, by decide⟩ ?F (fun _ _ _ _ ⟨_, z⟩ => by obtain ⟨_, _, _, _, _, _, _, _, _, _, _, _, q⟩ := z; exact q)
    intro w mg fa h Y G hmg0
    obtain ⟨K, KX, c⟩ := Y
    have hmg : mg ("law" : PySem.Str) = some (.ref fa) := by
      have e : (HandSHeadRun.topDef (OpenLaw.row PySem.Challenge.rw_namewriters_k03_whole_maps_judged).prog 44).name = ("law" : PySem.Str) := by kernel_rfl
      rw [← e]
      exact hmg0
    obtain ⟨fd, sp, hb, hsp, hF⟩ := NW.law_fn (P := (PySem.Challenge.rw_namewriters_k03_whole_maps_judged).prog) (W := NW.WW) (n := 60) (NW.K03.modI KX G c) hmg (by decide) NW.K03.pure_law (PySem.Challenge.rw_namewriters_k03_whole_maps_judged).prog w rfl
    exact ⟨K, fd, sp, KX, hb, hsp, fun base _ _ => hF base⟩
