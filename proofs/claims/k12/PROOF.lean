import PyProof.Rows.All
import HandS.Conv
import HandS.Deep
import HandS.ForExc
import HandS.ForMost
import HandS.IsInst
import HandS.NoneIn
import HandS.SetFor
import HandS.Strs
import HandS.Style
import HandS.TupAny
import HandS.TupLe
import HandS.TupMul
import HandS.Walk
import HandS.Zip
import KE.DataMinMax
import KE.GoesEnum
import KE.KTupSum
import KE.SortData
import OpenK.AllK
import PySem.Syntax
import Wide.All
import Wide.FinOn
import PySem.Challenge.RW_tidewindows_k12_needless_bars
set_option Elab.async false
set_option linter.all false
set_option autoImplicit false
set_option maxRecDepth 100000
set_option maxHeartbeats 4000000
/-! TwLang: data, a small language over data, its evaluator. -/
namespace TW
open PySem (Str Operator CmpOp)

abbrev nameOf (x : String) : Str := Str.ofString x
/-- data: what a value stands for. scr: the law's script; ref: a cell of the store; glb: a def or class of the module by its name; exn: a caught error of a class -/
inductive D where
  | non | bl (b : Bool) | int (i : Int) | str (x : Str)
  | tup (xs : List D) | lst (xs : List D) | scr (xs : List Int)
  | ref (n : Nat) | glb (x : String) | exn (x : String)
  deriving Inhabited
inductive Cell where
  | lst (xs : List D) | ins (c : String) (fs : List (String × D))
abbrev Store := List Cell
theorem nrfl {α : Type} {a b : α} (h : a = b) : a = b := h
/-- what comes of a run -/
inductive R (α : Type) where
  | ok (a : α) (st : Store) | exc (c : String) (st : Store) | stuck
def R.bind {α β : Type} (r : R α) (f : α → Store → R β) : R β := match r with
  | .ok a st => f a st
  | .exc c st => .exc c st
  | .stuck => .stuck
@[simp] theorem R.bind_ok {α β : Type} (a : α) (st : Store) (f : α → Store → R β) : (R.ok a st).bind f = f a st := nrfl rfl
@[simp] theorem R.bind_exc {α β : Type} (c : String) (st : Store) (f : α → Store → R β) : (R.exc c st : R α).bind f = .exc c st := nrfl rfl
@[simp] theorem R.bind_stuck {α β : Type} (f : α → Store → R β) : (R.stuck : R α).bind f = .stuck := nrfl rfl
def ofO {α : Type} (o : Option α) (st : Store) : R α := match o with
  | some a => .ok a st
  | none => .stuck
@[simp] theorem ofO_some {α : Type} (a : α) (st : Store) : ofO (some a) st = .ok a st := nrfl rfl
@[simp] theorem ofO_none {α : Type} (st : Store) : (ofO none st : R α) = .stuck := nrfl rfl

/-- no error may come out of a comprehension -/
def noexc {α : Type} (r : R α) : R α := match r with
  | .exc _ _ => .stuck
  | r => r
@[simp] theorem noexc_ok {α : Type} (a : α) (st : Store) : noexc (.ok a st) = .ok a st := nrfl rfl
@[simp] theorem noexc_stuck {α : Type} : noexc (.stuck : R α) = .stuck := nrfl rfl
/-- the greatest length -/
def lim : Nat := 16777216
/-- a cell read -/
def der (st : Store) : D → D
  | .ref n => match st[n]? with
    | some (.lst xs) => .lst xs
    | _ => .ref n
  | d => d
/-- .. and the script as a list -/
def rd (st : Store) (d : D) : D := match der st d with
  | .scr xs => .lst (xs.map .int)
  | d => d
@[simp] theorem der_non (st : Store) : der st .non = .non := nrfl rfl
@[simp] theorem der_bl (st : Store) (b : Bool) : der st (.bl b) = .bl b := nrfl rfl
@[simp] theorem der_int (st : Store) (i : Int) : der st (.int i) = .int i := nrfl rfl
@[simp] theorem der_str (st : Store) (x : Str) : der st (.str x) = .str x := nrfl rfl
@[simp] theorem der_tup (st : Store) (xs : List D) : der st (.tup xs) = .tup xs := nrfl rfl
@[simp] theorem der_lst (st : Store) (xs : List D) : der st (.lst xs) = .lst xs := nrfl rfl
@[simp] theorem der_scr (st : Store) (xs : List Int) : der st (.scr xs) = .scr xs := nrfl rfl
@[simp] theorem der_glb (st : Store) (x : String) : der st (.glb x) = .glb x := nrfl rfl
@[simp] theorem rd_non (st : Store) : rd st .non = .non := nrfl rfl
@[simp] theorem rd_bl (st : Store) (b : Bool) : rd st (.bl b) = .bl b := nrfl rfl
@[simp] theorem rd_int (st : Store) (i : Int) : rd st (.int i) = .int i := nrfl rfl
@[simp] theorem rd_str (st : Store) (x : Str) : rd st (.str x) = .str x := nrfl rfl
@[simp] theorem rd_tup (st : Store) (xs : List D) : rd st (.tup xs) = .tup xs := nrfl rfl
@[simp] theorem rd_lst (st : Store) (xs : List D) : rd st (.lst xs) = .lst xs := nrfl rfl
@[simp] theorem rd_scr (st : Store) (xs : List Int) : rd st (.scr xs) = .lst (xs.map .int) := nrfl rfl
@[simp] theorem rd_glb (st : Store) (x : String) : rd st (.glb x) = .glb x := nrfl rfl

/-! ### data that are the same -/
mutual
def D.same : D → D → Bool
  | .non, .non => true
  | .bl a, .bl b => a == b
  | .int i, .int j => i == j
  | .str x, .str y => x == y
  | .tup xs, .tup ys => D.sameL xs ys
  | .lst xs, .lst ys => D.sameL xs ys
  | .scr xs, .scr ys => xs == ys
  | .ref n, .ref m => n == m
  | .glb x, .glb y => x == y
  | .exn x, .exn y => x == y
  | _, _ => false
def D.sameL : List D → List D → Bool
  | [], [] => true
  | x :: xs, y :: ys => D.same x y && D.sameL xs ys
  | _, _ => false
end
mutual
theorem D.same_refl : ∀ d : D, D.same d d = true
  | .non => rfl
  | .bl b => by simp [D.same]
  | .int i => by simp [D.same]
  | .str x => by simp [D.same]
  | .tup xs => by simp [D.same, D.sameL_refl xs]
  | .lst xs => by simp [D.same, D.sameL_refl xs]
  | .scr xs => by simp [D.same]
  | .ref n => by simp [D.same]
  | .glb x => by simp [D.same]
  | .exn x => by simp [D.same]
theorem D.sameL_refl : ∀ ds : List D, D.sameL ds ds = true
  | [] => rfl
  | x :: xs => by simp [D.sameL, D.same_refl x, D.sameL_refl xs]
end
mutual
theorem D.same_eq : ∀ d e : D, D.same d e = true → d = e := by
  intro d e h
  cases d <;> cases e <;> simp [D.same] at h <;> first
    | rfl
    | (subst h; rfl)
    | (rw [D.sameL_eq _ _ h])
theorem D.sameL_eq : ∀ ds es : List D, D.sameL ds es = true → ds = es
  | [], [], _ => rfl
  | x :: xs, y :: ys, h => by
    simp [D.sameL] at h
    rw [D.same_eq x y h.1, D.sameL_eq xs ys h.2]
  | [], _ :: _, h => by simp [D.sameL] at h
  | _ :: _, [], h => by simp [D.sameL] at h
end
def Cell.same : Cell → Cell → Bool
  | .lst xs, .lst ys => D.sameL xs ys
  | .ins c fs, .ins c' fs' => c == c' && (fs.map (·.1) == fs'.map (·.1)) && D.sameL (fs.map (·.2)) (fs'.map (·.2))
  | _, _ => false
theorem Cell.same_refl (c : Cell) : Cell.same c c = true := by
  cases c <;> simp [Cell.same, D.sameL_refl]
theorem unzip_eq {α β : Type} : ∀ {l m : List (α × β)}, l.map (·.1) = m.map (·.1) → l.map (·.2) = m.map (·.2) → l = m
  | [], [], _, _ => rfl
  | [], _ :: _, h, _ => by simp at h
  | _ :: _, [], h, _ => by simp at h
  | (a, b) :: l, (c, d) :: m, h1, h2 => by
    simp only [List.map_cons, List.cons.injEq] at h1 h2
    obtain ⟨rfl, h1⟩ := h1
    obtain ⟨rfl, h2⟩ := h2
    rw [unzip_eq h1 h2]
theorem Cell.same_eq (c e : Cell) (h : Cell.same c e = true) : c = e := by
  cases c <;> cases e <;> simp [Cell.same] at h
  · rw [D.sameL_eq _ _ h]
  · obtain ⟨⟨rfl, h1⟩, h2⟩ := h
    rw [unzip_eq h1 (D.sameL_eq _ _ h2)]
def sameSt : Store → Store → Bool
  | [], [] => true
  | x :: xs, y :: ys => Cell.same x y && sameSt xs ys
  | _, _ => false
@[simp] theorem sameSt_refl : ∀ st : Store, sameSt st st = true
  | [] => rfl
  | x :: xs => by simp [sameSt, Cell.same_refl x, sameSt_refl xs]
theorem sameSt_eq : ∀ {s t : Store}, sameSt s t = true → s = t
  | [], [], _ => rfl
  | x :: xs, y :: ys, h => by
    simp [sameSt] at h
    rw [Cell.same_eq x y h.1, sameSt_eq h.2]
  | [], _ :: _, h => by simp [sameSt] at h
  | _ :: _, [], h => by simp [sameSt] at h

/-! ### equality and order of data -/
mutual
def D.eqv : D → D → Bool
  | .non, .non => true
  | .bl a, .bl b => a == b
  | .bl a, .int j => (if a then 1 else 0) == j
  | .int i, .bl b => i == (if b then 1 else 0)
  | .int i, .int j => i == j
  | .str x, .str y => x == y
  | .tup xs, .tup ys => D.eqvL xs ys
  | .lst xs, .lst ys => D.eqvL xs ys
  | _, _ => false
def D.eqvL : List D → List D → Bool
  | [], [] => true
  | x :: xs, y :: ys => D.eqv x y && D.eqvL xs ys
  | _, _ => false
end
/-- data that may be compared: no cell within, at most n deep -/
def D.good : Nat → D → Bool
  | _, .non => true
  | _, .bl _ => true
  | _, .int _ => true
  | _, .str x => x.cps.all (· < 0x110000)
  | n + 1, .tup xs => xs.all (D.good n)
  | n + 1, .lst xs => xs.all (D.good n)
  | _, _ => false
/-- rngD, bools, texts, None -/
def D.flat : D → Bool
  | .non => true
  | .bl _ => true
  | .int _ => true
  | .str _ => true
  | _ => false
/-- data in order: rngD, tuples of such -/
def D.ord : Nat → D → Bool
  | _, .int _ => true
  | n + 1, .tup xs => xs.all (D.ord n)
  | _, _ => false
mutual
def D.lt : D → D → Bool
  | .int i, .int j => decide (i < j)
  | .tup xs, .tup ys => D.ltL xs ys
  | _, _ => false
def D.ltL : List D → List D → Bool
  | _, [] => false
  | [], _ :: _ => true
  | x :: xs, y :: ys => if D.eqv x y then D.ltL xs ys else D.lt x y
end
/-! two data of one shape: what < may compare -/
mutual
def D.like : D → D → Bool
  | .int _, .int _ => true
  | .tup xs, .tup ys => D.likeL xs ys
  | _, _ => false
def D.likeL : List D → List D → Bool
  | x :: xs, y :: ys => D.like x y && D.likeL xs ys
  | _, _ => true
end

/-! ### operations by values -/
def binop (o : Operator) (x y : D) : Option D := match o, x, y with
  | .Add, .int i, .int j => some (.int (i + j))
  | .Add, .tup xs, .tup ys => if xs.length + ys.length ≤ lim then some (.tup (xs ++ ys)) else none
  | .Add, .lst xs, .lst ys => if xs.length + ys.length ≤ lim then some (.lst (xs ++ ys)) else none
  | .Add, .str a, .str b => if a.length + b.length ≤ lim then some (.str (a ++ b)) else none
  | .Sub, .int i, .int j => some (.int (i - j))
  | .Mult, .int i, .int j => if (-(2 ^ 64) < i ∧ i < 2 ^ 64) ∨ (-(2 ^ 64) < j ∧ j < 2 ^ 64) then some (.int (i * j)) else none
  | .Mult, .tup xs, .int k => if -(2 ^ 63) ≤ k ∧ k ≤ 1000 ∧ xs.length ≤ 1000 then some (.tup (List.replicate k.toNat xs).flatten) else none
  | .Mult, .lst xs, .int k => if -(2 ^ 63) ≤ k ∧ k ≤ 1000 ∧ xs.length ≤ 1000 then some (.lst (List.replicate k.toNat xs).flatten) else none
  | .FloorDiv, .int i, .int j => if 0 < j ∧ j < 1073741824 then some (.int (i / j)) else none
  | .Mod, .int i, .int j => if 0 < j then some (.int (i % j)) else none
  | .Pow, .int i, .int j => if 0 ≤ j ∧ j ≤ 1000000 ∧ i.natAbs < 2 ^ 64 then some (.int (i ^ j.toNat)) else none
  | _, _, _ => none
def inL (x : D) (ys : List D) : Bool := ys.any fun y => D.eqv y x
def isop (x y : D) : Option Bool := match x, y with
  | x, .non => some (match x with | .non => true | _ => false)
  | .bl a, .bl b => some (decide (a = b))
  | _, _ => none
def ltop (x y : D) : Option Bool := match x, y with
  | .int i, .int j => some (decide (i < j))
  | .tup xs, .tup ys => if D.ord 4 (.tup xs) && D.ord 4 (.tup ys) && D.likeL xs ys then some (D.ltL xs ys) else none
  | _, _ => none
def cmpop (o : CmpOp) (x y : D) : Option Bool := match o with
  | .Eq => if D.good 8 x && D.good 8 y then some (D.eqv x y) else none
  | .NotEq => if D.good 8 x && D.good 8 y then some (!D.eqv x y) else none
  | .Lt => ltop x y
  | .Gt => ltop y x
  | .LtE => match x, y with
    | .int i, .int j => some (decide (i ≤ j))
    | _, _ => none
  | .GtE => match x, y with
    | .int i, .int j => some (decide (j ≤ i))
    | _, _ => none
  | .Is => isop x y
  | .IsNot => (isop x y).map (!·)
  | .In => match y with
    | .lst ys => if D.good 8 x && D.good 8 y then some (inL x ys) else none
    | .tup ys => if D.good 8 x && D.good 8 y then some (inL x ys) else none
    | _ => none
  | .NotIn => match y with
    | .lst ys => if D.good 8 x && D.good 8 y then some (!inL x ys) else none
    | .tup ys => if D.good 8 x && D.good 8 y then some (!inL x ys) else none
    | _ => none
/-- an item by its place, from behind where the place is below 0 -/
def pick {α : Type} (xs : List α) (k : Int) : Option α :=
  if 0 ≤ k then xs[k.toNat]? else if -(xs.length : Int) ≤ k then xs[(k + xs.length).toNat]? else none
def idxop (x y : D) : Option D := match x, y with
  | .tup xs, .int k => pick xs k
  | .lst xs, .int k => pick xs k
  | _, _ => none
/-- a slice's end within n -/
def clip (n d : Nat) : Option Int → Nat
  | none => d
  | some v => if v < 0 then (v + n).toNat else min v.toNat n
def cut {α : Type} (xs : List α) (lo hi : Option Int) : List α :=
  (xs.drop (clip xs.length 0 lo)).take (clip xs.length xs.length hi - clip xs.length 0 lo)
def slcop (x : D) (lo hi : Option Int) : Option D := match x with
  | .tup xs => some (.tup (cut xs lo hi))
  | .lst xs => some (.lst (cut xs lo hi))
  | _ => none
def revop (x : D) : Option D := match x with
  | .tup xs => some (.tup xs.reverse)
  | .lst xs => some (.lst xs.reverse)
  | _ => none
def toInt : D → Option Int
  | .int i => some i
  | _ => none
def toBl : D → Option Bool
  | .bl b => some b
  | _ => none
def toInts : List D → Option (List Int)
  | [] => some []
  | .int i :: r => (toInts r).map (i :: ·)
  | _ => none
def toBls : List D → Option (List Bool)
  | [] => some []
  | .bl b :: r => (toBls r).map (b :: ·)
  | _ => none
def minI : List Int → Option Int
  | [] => none
  | x :: r => some (r.foldl (fun a b => if b < a then b else a) x)
def maxI : List Int → Option Int
  | [] => none
  | x :: r => some (r.foldl (fun a b => if b > a then b else a) x)
/-- the first least of data in order -/
def minD : List D → Option D
  | [] => none
  | x :: r => some (r.foldl (fun a b => if D.lt b a then b else a) x)
/-- a stable sort by < -/
def leD (x y : D) : Bool := !D.lt y x
def sortD (xs : List D) : List D := xs.mergeSort leD
/-- an int into its place, once -/
def insU (x : Int) : List Int → List Int
  | [] => [x]
  | y :: r => if x < y then x :: y :: r else if x = y then y :: r else y :: insU x r
/-- sorted(set(..)) -/
def ssetI (ns : List Int) : List Int := ns.foldr insU []
/-- ints alone, or tuples with an item -/
def sortOk (xs : List D) : Bool := (xs.all fun d => match d with | .tup (_ :: _) => true | _ => false) || xs.all fun d => match d with | .int _ => true | _ => false
/-- all of one shape -/
def likeAll (xs : List D) : Bool := xs.all (D.ord 4) && xs.all fun x => xs.all fun y => D.like x y
def bltin (f : String) (as : List D) : Option D := match f, as with
  | "len", [.tup xs] => some (.int xs.length)
  | "len", [.lst xs] => some (.int xs.length)
  | "len", [.str x] => if x.length ≤ lim then some (.int x.length) else none
  | "tuple", [.lst xs] => some (.tup xs)
  | "tuple", [.tup xs] => some (.tup xs)
  | "list", [.lst xs] => some (.lst xs)
  | "list", [.tup xs] => some (.lst xs)
  | "abs", [.int i] => some (.int (if i < 0 then -i else i))
  | "min", [.int i, .int j] => some (.int (if j < i then j else i))
  | "max", [.int i, .int j] => some (.int (if j > i then j else i))
  | "min", [.lst xs] => match toInts xs with
    | some ns => (minI ns).map .int
    | none => if likeAll xs then minD xs else none
  | "min", [.tup xs] => (toInts xs).bind fun ns => (minI ns).map .int
  | "max", [.lst xs] => (toInts xs).bind fun ns => (maxI ns).map .int
  | "max", [.tup xs] => (toInts xs).bind fun ns => (maxI ns).map .int
  | "sum", [.lst xs] => (toInts xs).map fun ns => .int ns.sum
  | "sum", [.tup xs] => (toInts xs).map fun ns => .int ns.sum
  | "all", [.lst xs] => (toBls xs).map fun bs => .bl (bs.all id)
  | "any", [.lst xs] => (toBls xs).map fun bs => .bl (bs.any id)
  | "sorted", [.lst xs] => if likeAll xs && sortOk xs then some (.lst (sortD xs)) else none
  | "int", [.int i] => some (.int i)
  | "int", [.bl b] => some (.int (if b then 1 else 0))
  | _, _ => none
/-- is it of one of these built-in types -/
def isTy (d : D) (t : String) : Option Bool := match d with
  | .non => some false
  | .bl _ => some (t == "int" || t == "bool")
  | .int _ => some (t == "int")
  | .str _ => some (t == "str")
  | .tup _ => some (t == "tuple")
  | .lst _ => some (t == "list")
  | _ => none

/-! ### the language -/
inductive IK where | seq | rng1 | rng2 | zip2 | enum
  deriving DecidableEq
inductive Tg where | nm (i : Nat) | tp (is : List Nat)
inductive E where
  | var (i : Nat) | cst (d : D) | glb (x : String)
  | bin (o : Operator) (a b : E) | neg (a : E) | not (a : E) | and (as : List E) | or (as : List E) | ite (c a b : E)
  | cmp (o : CmpOp) (a b : E) | chn (o o' : CmpOp) (a b c : E)
  | tup (as : List E) | lst (as : List E) | newl (as : List E) | catc (a b : E)
  | idx (a i : E) | slc (a : E) (lo hi : List E) | rev (a : E)
  | call (f : String) (as : List E) | blt (f : String) (as : List E) | lrng (as : List E) | sst (a : E) | isi (a : E) (ts : List String)
  | app (o a : E) | ext (o a : E)
  | lc (elt : E) (tg : Tg) (k : IK) (its : List E) (ifs : List E) (own : List Nat)
  | lc2 (elt : E) (tg : Tg) (k : IK) (its : List E) (ifs : List E) (tg1 : Tg) (k1 : IK) (its1 : List E) (ifs1 : List E) (own own1 : List Nat)
inductive S where
  | asg (i : Nat) (e : E) | par (i j : Nat) (a b : E) | unp (is : List Nat) (e : E)
  | set (o i e : E) | expr (e : E) | ret (e : E) | pass | raise (x : String)
  | ite (c : E) (a b : List S) | for_ (tg : Tg) (k : IK) (its : List E) (body : List S) | whl (n : Nat) (c : E) (body : List S)

abbrev Env := List (Option D)
abbrev Fn := List D → Store → R D
abbrev Tab := String → Option Fn
def callT (T : Tab) (f : String) (ds : List D) (st : Store) : R D := match T f with
  | some g => g ds st
  | none => .stuck
inductive Out where | next (env : Env) | ret (d : D)

def asgs : List Nat → List D → Env → Option Env
  | [], [], env => some env
  | i :: is, d :: ds, env => asgs is ds (env.set i (some d))
  | _, _, _ => none
/-- a target takes data -/
def asgT (tg : Tg) (env : Env) (d : D) : Option Env := match tg, d with
  | .nm i, d => some (env.set i (some d))
  | .tp is, .tup ds => asgs is ds env
  | _, _ => none
def wipeE (env : Env) : List Nat → Env
  | [] => env
  | v :: vs => (wipeE env vs).set v none
def rngD (i : Int) (n : Nat) : List D := (List.range n).map fun k => .int (i + (k : Nat))
def zipD : List D → List D → List D
  | x :: xs, y :: ys => .tup [x, y] :: zipD xs ys
  | _, _ => []
def enumD (i : Nat) : List D → List D
  | x :: xs => .tup [.int i, x] :: enumD (i + 1) xs
  | [] => []
/-- what is walked -/
def iter (k : IK) (as : List D) : Option (List D) := match k, as with
  | .seq, [.tup xs] => some xs
  | .seq, [.lst xs] => some xs
  | .rng1, [.int j] => if -1000000 ≤ j ∧ j ≤ 1000000 then some (rngD 0 j.toNat) else none
  | .rng2, [.int i, .int j] => if -1000000 ≤ i ∧ i ≤ 1000000 ∧ -1000000 ≤ j ∧ j ≤ 1000000 then some (rngD i (j - i).toNat) else none
  | .zip2, [.tup xs, .tup ys] => some (zipD xs ys)
  | .zip2, [.lst xs, .lst ys] => some (zipD xs ys)
  | .enum, [.tup xs] => some (enumD 0 xs)
  | .enum, [.lst xs] => some (enumD 0 xs)
  | _, _ => none
/-- what is walked stands as it stood -/
def chk {α : Type} (st : Store) (ds : List D) (st' : Store) (r : R α) : R α := if ds.all fun d => (match d with | .ref _ => D.same (der st' d) (der st d) | _ => true) then r else .stuck
/-- a comprehension's turns -/
def lcL (st0 : Store) (ds : List D) (f : D → Store → R (List D)) : List D → Store → R (List D)
  | [], st => .ok [] st
  | x :: xs, st => (f x st).bind fun ys st1 => chk st0 ds st1 ((lcL st0 ds f xs st1).bind fun zs st2 => .ok (ys ++ zs) st2)
/-- a for's turns -/
def forL (st0 : Store) (ds : List D) (f : D → Env → Store → R Out) : List D → Env → Store → R Out
  | [], env, st => .ok (.next env) st
  | x :: xs, env, st => (f x env st).bind fun o st1 => match o with
    | .ret d => .ok (.ret d) st1
    | .next env1 => chk st0 ds st1 (forL st0 ds f xs env1 st1)
def whlL (c : Env → Store → R D) (f : Env → Store → R Out) : Nat → Env → Store → R Out
  | 0, _, _ => .stuck
  | n + 1, env, st => (c env st).bind fun b st1 => match b with
    | .bl true => (f env st1).bind fun o st2 => match o with
      | .ret d => .ok (.ret d) st2
      | .next env1 => whlL c f n env1 st2
    | .bl false => .ok (.next env) st1
    | _ => .stuck
def onTup (x : D) (f : List D → R Out) : R Out := match x with
  | .tup ds => f ds
  | _ => .stuck
def opt1 (ds : List D) : Option (Option Int) := match ds with
  | [] => some none
  | [.int i] => some (some i)
  | _ => none
/-- a cell by its number -/
def cellOf (st : Store) (d : D) : Option (Nat × List D) := match d with
  | .ref n => match st[n]? with
    | some (.lst xs) => some (n, xs)
    | _ => none
  | _ => none
def onBl {α : Type} (d : D) (t f : R α) : R α := match d with
  | .bl true => t
  | .bl false => f
  | _ => .stuck
@[simp] theorem onBl_t {α : Type} (t f : R α) : onBl (.bl true) t f = t := nrfl rfl
@[simp] theorem onBl_f {α : Type} (t f : R α) : onBl (.bl false) t f = f := nrfl rfl
def limited (r : R (List D)) : R D := r.bind fun ys st => if ys.length ≤ lim then .ok (.lst ys) st else .stuck
def appC (st : Store) (o d : D) : R D := match cellOf st o with
  | some (n, xs) => if xs.length < lim then .ok .non (st.set n (.lst (xs ++ [d]))) else .stuck
  | none => .stuck
def D.isRef (n : Nat) : D → Bool
  | .ref m => m == n
  | _ => false
def extC (st : Store) (o d : D) : R D := match cellOf st o, der st d with
  | some (n, xs), .lst ys => if xs.length + ys.length ≤ lim ∧ d.isRef n = false then .ok .non (st.set n (.lst (xs ++ ys))) else .stuck
  | _, _ => .stuck
def setC (st : Store) (o i d : D) : R Unit := match cellOf st o, i with
  | some (n, xs), .int k => if 0 ≤ k ∧ k < xs.length then .ok () (st.set n (.lst (xs.set k.toNat d))) else .stuck
  | _, _ => .stuck

def sstI (o : Option (List Int)) (st : Store) : R D := match o with
  | some ns => if ns.length ≤ 60 then .ok (.lst ((ssetI ns).map .int)) st else .stuck
  | none => .stuck
def sstR (x : D) (st : Store) : R D := match x with
  | .tup xs => sstI (toInts xs) st
  | .lst xs => sstI (toInts xs) st
  | _ => .stuck
def negR (x : D) (st : Store) : R D := match x with
  | .int i => .ok (.int (-i)) st
  | _ => .stuck
def notR (x : D) (st : Store) : R D := match x with
  | .bl b => .ok (.bl (!b)) st
  | _ => .stuck
@[simp] theorem negR_int (i : Int) (st : Store) : negR (.int i) st = .ok (.int (-i)) st := nrfl rfl
@[simp] theorem notR_bl (b : Bool) (st : Store) : notR (.bl b) st = .ok (.bl (!b)) st := nrfl rfl
mutual
def evE (T : Tab) : E → Env → Store → R D
  | .var i, env, st => match env[i]? with
    | some (some d) => .ok d st
    | _ => .stuck
  | .cst d, _, st => .ok d st
  | .glb x, _, st => .ok (.glb x) st
  | .bin o a b, env, st => (evE T a env st).bind fun x st => (evE T b env st).bind fun y st => ofO (binop o (der st x) (der st y)) st
  | .neg a, env, st => (evE T a env st).bind negR
  | .not a, env, st => (evE T a env st).bind notR
  | .and as, env, st => evAnd T as env st
  | .or as, env, st => evOr T as env st
  | .ite c a b, env, st => (evE T c env st).bind fun x st => onBl x (evE T a env st) (evE T b env st)
  | .cmp o a b, env, st => (evE T a env st).bind fun x st => (evE T b env st).bind fun y st => (ofO (cmpop o (rd st x) (rd st y)) st).bind fun b st => .ok (.bl b) st
  | .chn o o' a b c, env, st => (evE T a env st).bind fun x st => (evE T b env st).bind fun y st => (ofO (cmpop o (rd st x) (rd st y)) st).bind fun k st =>
      if k then (evE T c env st).bind fun z st => (ofO (cmpop o' (rd st y) (rd st z)) st).bind fun b st => .ok (.bl b) st else .ok (.bl false) st
  | .tup as, env, st => (evEs T as env st).bind fun ds st => .ok (.tup ds) st
  | .lst as, env, st => (evEs T as env st).bind fun ds st => .ok (.lst ds) st
  | .newl as, env, st => (evEs T as env st).bind fun ds st => .ok (.ref st.length) (st ++ [.lst ds])
  | .catc a b, env, st => (evE T a env st).bind fun x st => (evE T b env st).bind fun y st => match der st x, der st y with
    | .lst xs, .lst ys => if xs.length + ys.length ≤ lim then .ok (.ref st.length) (st ++ [.lst (xs ++ ys)]) else .stuck
    | _, _ => .stuck
  | .idx a i, env, st => (evE T a env st).bind fun x st => (evE T i env st).bind fun y st => ofO (idxop (rd st x) y) st
  | .slc a lo hi, env, st => (evE T a env st).bind fun x st => ((evEs T lo env st).bind fun l st => ofO (opt1 l) st).bind fun l st => ((evEs T hi env st).bind fun h st => ofO (opt1 h) st).bind fun h st =>
      ofO (slcop (der st x) l h) st
  | .rev a, env, st => (evE T a env st).bind fun x st => ofO (revop (der st x)) st
  | .call f as, env, st => (evEs T as env st).bind fun ds st => callT T f ds st
  | .blt f as, env, st => (evEs T as env st).bind fun ds st => ofO (bltin f (ds.map (rd st))) st
  | .lrng as, env, st => (evEs T as env st).bind fun ds st => match ds with
    | [.int j] => if -1000000 ≤ j ∧ j ≤ 1000000 then .ok (.lst (rngD 0 j.toNat)) st else .stuck
    | [.int i, .int j] => if -1000000 ≤ i ∧ i ≤ 1000000 ∧ -1000000 ≤ j ∧ j ≤ 1000000 then .ok (.lst (rngD i (j - i).toNat)) st else .stuck
    | _ => .stuck
  | .sst a, env, st => (evE T a env st).bind fun x st => sstR (rd st x) st
  | .isi a ts, env, st => (evE T a env st).bind fun x st => match ts with
    | [t] => (ofO (isTy (der st x) t) st).bind fun b st => .ok (.bl b) st
    | [t, u] => (ofO (isTy (der st x) t) st).bind fun b st => (ofO (isTy (der st x) u) st).bind fun c st => .ok (.bl (b || c)) st
    | _ => .stuck
  | .app o a, env, st => (evE T o env st).bind fun x st => (ofO (cellOf st x) st).bind fun _ st => (evE T a env st).bind fun d st => appC st x d
  | .ext o a, env, st => (evE T o env st).bind fun x st => (ofO (cellOf st x) st).bind fun _ st => (evE T a env st).bind fun d st => extC st x d
  | .lc elt tg k its ifs own, env, st => (evEs T its env st).bind fun ds st => match iter k (ds.map (rd st)) with
    | none => .stuck
    | some xs => (lcL st ds (fun x st => noexc (match asgT tg (wipeE env own) x with
        | none => .stuck
        | some env1 => (evIfs T ifs env1 st).bind fun b st => if b then (evE T elt env1 st).bind fun y st => .ok [y] st else .ok [] st)) xs st).bind fun ys st => .ok (.lst ys) st
  | .lc2 elt tg k its ifs tg1 k1 its1 ifs1 own own1, env, st => (evEs T its env st).bind fun ds st => match iter k (ds.map (rd st)) with
    | none => .stuck
    | some xs => limited (lcL st ds (fun x st => noexc (match asgT tg (wipeE env own) x with
        | none => .stuck
        | some env1 => (evIfs T ifs env1 st).bind fun b st => if b then (evEs T its1 env1 st).bind fun ds1 st => match iter k1 (ds1.map (rd st)) with
            | none => .stuck
            | some xs1 => lcL st ds1 (fun x st => noexc (match asgT tg1 (wipeE env1 own1) x with
                | none => .stuck
                | some env2 => (evIfs T ifs1 env2 st).bind fun b st => if b then (evE T elt env2 st).bind fun y st => .ok [y] st else .ok [] st)) xs1 st
          else .ok [] st)) xs st)
def evEs (T : Tab) : List E → Env → Store → R (List D)
  | [], _, st => .ok [] st
  | a :: as, env, st => (evE T a env st).bind fun x st => (evEs T as env st).bind fun xs st => .ok (x :: xs) st
def evAnd (T : Tab) : List E → Env → Store → R D
  | [], _, _ => .stuck
  | a :: as, env, st => match as with
    | [] => evE T a env st
    | b :: r => (evE T a env st).bind fun x st => onBl x (evAnd T (b :: r) env st) (.ok (.bl false) st)
def evOr (T : Tab) : List E → Env → Store → R D
  | [], _, _ => .stuck
  | a :: as, env, st => match as with
    | [] => evE T a env st
    | b :: r => (evE T a env st).bind fun x st => onBl x (.ok (.bl true) st) (evOr T (b :: r) env st)
def evIfs (T : Tab) : List E → Env → Store → R Bool
  | [], _, st => .ok true st
  | a :: as, env, st => match as with
    | [] => (evE T a env st).bind fun x st => match x with
      | .bl b => .ok b st
      | _ => .stuck
    | _ => .stuck
end

mutual
def evS (T : Tab) : S → Env → Store → R Out
  | .asg i e, env, st => (evE T e env st).bind fun d st => .ok (.next (env.set i (some d))) st
  | .par i j a b, env, st => (evE T a env st).bind fun x st => (evE T b env st).bind fun y st => .ok (.next ((env.set i (some x)).set j (some y))) st
  | .unp is e, env, st => (evE T e env st).bind fun d st => match der st d with
    | .tup ds => match asgs is ds env with
      | some env1 => .ok (.next env1) st
      | none => .stuck
    | .lst ds => match asgs is ds env with
      | some env1 => .ok (.next env1) st
      | none => .stuck
    | _ => .stuck
  | .set o i e, env, st => (evE T e env st).bind fun d st => (evE T o env st).bind fun x st => (evE T i env st).bind fun y st => (setC st x y d).bind fun _ st => .ok (.next env) st
  | .expr e, env, st => (evE T e env st).bind fun _ st => .ok (.next env) st
  | .ret e, env, st => (evE T e env st).bind fun d st => .ok (.ret d) st
  | .pass, env, st => .ok (.next env) st
  | .raise x, _, st => .exc x st
  | .ite c a b, env, st => (evE T c env st).bind fun x st => onBl x (evSs T a env st) (evSs T b env st)
  | .for_ tg k its body, env, st => (evEs T its env st).bind fun ds st => match iter k (ds.map (rd st)) with
    | none => .stuck
    | some xs => forL st ds (fun x env st => match asgT tg env x with
        | none => .stuck
        | some env1 => evSs T body env1 st) xs env st
  | .whl n c body, env, st => whlL (fun env st => evE T c env st) (fun env st => evSs T body env st) n env st
def evSs (T : Tab) : List S → Env → Store → R Out
  | [], env, st => .ok (.next env) st
  | s :: r, env, st => (evS T s env st).bind fun o st => match o with
    | .ret d => .ok (.ret d) st
    | .next env1 => evSs T r env1 st
end

/-! ### defs -/
structure Def where
  n : Nat
  ps : Nat
  body : List S
  keep : Bool
mutual
def D.under (k : Nat) : D → Bool
  | .tup xs => D.underL k xs
  | .lst xs => D.underL k xs
  | .ref n => decide (n < k)
  | _ => true
def D.underL (k : Nat) : List D → Bool
  | [] => true
  | x :: xs => D.under k x && D.underL k xs
end
def frz (k : Nat) (st : Store) (d : D) : Option D := match d with
  | .ref n => if n < k then some d else match st[n]? with
    | some (.lst xs) => if D.underL k xs then some (.lst xs) else none
    | _ => none
  | d => if D.under k d then some d else none
def sameOld {α : Type} (st st' : Store) (r : R α) : R α := if sameSt (st'.take st.length) st then r else .stuck
def leave (keep : Bool) (st : Store) (r : R Out) : R D := match r with
  | .ok o st' =>
    let d := match o with
      | .ret d => d
      | .next _ => .non
    if keep then .ok d st' else sameOld st st' (ofO (frz st.length st' d) st)
  | .exc c st' => if keep then .exc c st' else sameOld st st' (.exc c st)
  | .stuck => .stuck
def runDef (T : Tab) (d : Def) : Fn := fun ds st =>
  if ds.length = d.ps then leave d.keep st (evSs T d.body (ds.map some ++ List.replicate (d.n - d.ps) none) st) else .stuck
/-- the defs of a text, the last first -/
def tab : List (String × Def) → Tab
  | [] => fun _ => none
  | (x, d) :: r => fun y => if y = x then some (runDef (tab r) d) else tab r y
end TW
/-! TwRep: how a heap bears data: RV (a value), SR (the store), PostG (what is wanted behind a run). -/
namespace TW
open PySem PySem.Spec PyProof.Rows L2

theorem lim_eq : lim = sizeLine := by decide


section
variable (K : PySem.W.Frag) (mg : Str → Option Value)
mutual
/-- the value bears the data: A the cells' addresses, B the part of the heap that stays -/
inductive RV (A : List Addr) (B : Hp) : V → D → Prop
  | non : RV A B .non .non
  | bl (b : Bool) : RV A B (.bl b) (.bl b)
  | int (i : Int) : RV A B (.int i) (.int i)
  | str (x : Str) : RV A B (.str x) (.str x)
  | tup {a : Addr} {xs : List V} {ds : List D} : SqT K B a xs → xs.length ≤ lim → RVs A B xs ds → RV A B (.ref a) (.tup ds)
  | lst {a : Addr} {xs : List V} {ds : List D} : B a = some (.lst xs) → xs.length ≤ lim → RVs A B xs ds → RV A B (.ref a) (.lst ds)
  | scr {a : Addr} {ns : List Int} : SqL K B a (ns.map V.int) → ns.length ≤ lim → RV A B (.ref a) (.scr ns)
  | ref {a : Addr} {n : Nat} : A[n]? = some a → RV A B (.ref a) (.ref n)
  | glb {x : String} {f : Addr} : mg (nameOf x) = some (.ref f) → RV A B (.ref f) (.glb x)
inductive RVs (A : List Addr) (B : Hp) : List V → List D → Prop
  | nil : RVs A B [] []
  | cons {v : V} {vs : List V} {d : D} {ds : List D} : RV A B v d → RVs A B vs ds → RVs A B (v :: vs) (d :: ds)
end
end

/-- more cells, more that stays -/
structure Ext (A : List Addr) (B : Hp) (A' : List Addr) (B' : Hp) : Prop where
  a : ∀ (n : Nat) (x : Addr), A[n]? = some x → A'[n]? = some x
  b : Same B B'
theorem Ext.refl (A : List Addr) (B : Hp) : Ext A B A B := ⟨fun _ _ h => h, Same.refl B⟩
theorem Ext.trans {A A1 A2 : List Addr} {B B1 B2 : Hp} (x : Ext A B A1 B1) (y : Ext A1 B1 A2 B2) : Ext A B A2 B2 := ⟨fun n a h => y.a n a (x.a n a h), x.b.trans y.b⟩
theorem Ext.b_of {A : List Addr} {B B' : Hp} (h : Same B B') : Ext A B A B' := ⟨fun _ _ q => q, h⟩

theorem Same.seqT {K : PySem.W.Frag} {H H' : Hp} {a : Addr} {xs : List V} (e : Same H H') (h : SqT K H a xs) : SqT K H' a xs := by
  rcases h with (h | ⟨o, h⟩) | h
  · exact .inl (.inl (e _ _ h))
  · exact .inl (.inr ⟨o, e _ _ h⟩)
  · exact .inr h

section
variable {K : PySem.W.Frag} {mg : Str → Option Value} {A A' : List Addr} {B B' : Hp}
mutual
theorem RV.mono (x : Ext A B A' B') : ∀ {v : V} {d : D}, RV K mg A B v d → RV K mg A' B' v d
  | _, _, .non => .non
  | _, _, .bl b => .bl b
  | _, _, .int i => .int i
  | _, _, .str z => .str z
  | _, _, .tup h hl hs => .tup (Same.seqT x.b h) hl (RVs.mono x hs)
  | _, _, .lst h hl hs => .lst (x.b _ _ h) hl (RVs.mono x hs)
  | _, _, .scr h hl => .scr (Same.seq x.b h) hl
  | _, _, .ref h => .ref (x.a _ _ h)
  | _, _, .glb h => .glb h
theorem RVs.mono (x : Ext A B A' B') : ∀ {vs : List V} {ds : List D}, RVs K mg A B vs ds → RVs K mg A' B' vs ds
  | _, _, .nil => .nil
  | _, _, .cons h hs => .cons (RV.mono x h) (RVs.mono x hs)
end
theorem RVs.length {vs : List V} {ds : List D} : RVs K mg A B vs ds → vs.length = ds.length
  | .nil => rfl
  | .cons _ hs => congrArg (· + 1) hs.length
theorem RVs.get : ∀ {vs : List V} {ds : List D} {i : Nat} {d : D}, RVs K mg A B vs ds → ds[i]? = some d → ∃ v, vs[i]? = some v ∧ RV K mg A B v d
  | _, _, _, _, .nil, e => by simp at e
  | _, _, 0, _, .cons r _, e => by simp at e; subst e; exact ⟨_, rfl, r⟩
  | _, _, i + 1, d, .cons _ t, e => by
    obtain ⟨u, h1, h2⟩ := RVs.get (i := i) (d := d) t (by simpa using e)
    exact ⟨u, by simpa using h1, h2⟩
theorem RVs.get' : ∀ {vs : List V} {ds : List D} {i : Nat} {v : V}, RVs K mg A B vs ds → vs[i]? = some v → ∃ d, ds[i]? = some d ∧ RV K mg A B v d
  | _, _, _, _, .nil, e => by simp at e
  | _, _, 0, _, .cons r _, e => by simp at e; subst e; exact ⟨_, rfl, r⟩
  | _, _, i + 1, d, .cons _ t, e => by
    obtain ⟨u, h1, h2⟩ := RVs.get' (i := i) (v := d) t (by simpa using e)
    exact ⟨u, by simpa using h1, h2⟩
theorem RVs.append : ∀ {vs us : List V} {ds es : List D}, RVs K mg A B vs ds → RVs K mg A B us es → RVs K mg A B (vs ++ us) (ds ++ es)
  | _, _, _, _, .nil, s => s
  | _, _, _, _, .cons r t, s => .cons r (RVs.append t s)
theorem RVs.take : ∀ {vs : List V} {ds : List D} (n : Nat), RVs K mg A B vs ds → RVs K mg A B (vs.take n) (ds.take n)
  | _, _, 0, _ => .nil
  | _, _, _ + 1, .nil => .nil
  | _, _, n + 1, .cons r t => .cons r (RVs.take n t)
theorem RVs.drop : ∀ {vs : List V} {ds : List D} (n : Nat), RVs K mg A B vs ds → RVs K mg A B (vs.drop n) (ds.drop n)
  | _, _, 0, r => r
  | _, _, _ + 1, .nil => .nil
  | _, _, n + 1, .cons _ t => RVs.drop n t
theorem RVs.reverse : ∀ {vs : List V} {ds : List D}, RVs K mg A B vs ds → RVs K mg A B vs.reverse ds.reverse
  | _, _, .nil => .nil
  | _, _, .cons r t => by
    rw [List.reverse_cons, List.reverse_cons]
    exact (RVs.reverse t).append (.cons r .nil)
theorem RVs.rep {vs : List V} {ds : List D} (h : RVs K mg A B vs ds) : ∀ k : Nat, RVs K mg A B (List.replicate k vs).flatten (List.replicate k ds).flatten
  | 0 => .nil
  | k + 1 => by
    rw [List.replicate_succ, List.replicate_succ, List.flatten_cons, List.flatten_cons]
    exact h.append (RVs.rep h k)
theorem RVs.set {v : V} {d : D} (r : RV K mg A B v d) : ∀ {vs : List V} {ds : List D} (i : Nat), RVs K mg A B vs ds → RVs K mg A B (vs.set i v) (ds.set i d)
  | _, _, _, .nil => .nil
  | _, _, 0, .cons _ t => .cons r t
  | _, _, i + 1, .cons q t => .cons q (RVs.set r i t)
theorem RVs.ints : ∀ ns : List Int, RVs K mg A B (ns.map V.int) (ns.map D.int)
  | [] => .nil
  | n :: ns => .cons (.int n) (RVs.ints ns)
theorem RVs.toInts : ∀ {vs : List V} {ds : List D} {ns : List Int}, RVs K mg A B vs ds → toInts ds = some ns → vs = ns.map V.int
  | _, _, _, .nil, h => by cases h; rfl
  | _, _, ns, .cons r t, h => by
    cases r with
    | int i =>
      rename_i vs ds
      have h' : (TW.toInts ds).map (i :: ·) = some ns := h
      cases e : TW.toInts ds with
      | none => rw [e] at h'; cases h'
      | some ms =>
        rw [e] at h'
        cases h'
        rw [List.map_cons, RVs.toInts t e]
    | _ => cases h
theorem RVs.toBls : ∀ {vs : List V} {ds : List D} {bs : List Bool}, RVs K mg A B vs ds → toBls ds = some bs → vs = bs.map V.bl
  | _, _, _, .nil, h => by cases h; rfl
  | _, _, ns, .cons r t, h => by
    cases r with
    | bl i =>
      rename_i vs ds
      have h' : (TW.toBls ds).map (i :: ·) = some ns := h
      cases e : TW.toBls ds with
      | none => rw [e] at h'; cases h'
      | some ms =>
        rw [e] at h'
        cases h'
        rw [List.map_cons, RVs.toBls t e]
    | _ => cases h
end

/-! ### the store -/
section
variable (K : PySem.W.Frag) (mg : Str → Option Value)
/-- a cell at an address -/
def CellR (A : List Addr) (B H : Hp) (a : Addr) : Cell → Prop
  | .lst ds => ∃ xs, H a = some (.lst xs) ∧ xs.length ≤ lim ∧ RVs K mg A B xs ds
  | .ins c fs => ∃ (C dx : Addr) (fv : List (Str × V)), mg (nameOf c) = some (.ref C) ∧ H a = some (.ins C dx fv) ∧ fv.map (·.1) = fs.map (fun f => nameOf f.1) ∧ RVs K mg A B (fv.map (·.2)) (fs.map (·.2))
/-- the heap H bears the store; F is kept besides -/
structure SR (A : List Addr) (B F H : Hp) (st : Store) : Prop where
  len : A.length = st.length
  nd : A.Nodup
  nb : ∀ a ∈ A, B a = none
  nf : ∀ a ∈ A, F a = none
  sb : Same B H
  sf : Same F H
  fb : ∀ a o, F a = some o → B a = none
  cel : ∀ (n : Nat) (a : Addr) (c : Cell), A[n]? = some a → st[n]? = some c → CellR K mg A B H a c
end
section
variable {K : PySem.W.Frag} {mg : Str → Option Value} {A A' : List Addr} {B B' F H H' : Hp} {st : Store}
theorem CellR.mono {a : Addr} {c : Cell} (x : Ext A B A' B') (h : CellR K mg A B H a c) (e : H' a = H a) : CellR K mg A' B' H' a c := by
  cases c with
  | lst ds =>
    obtain ⟨xs, h1, hl, h2⟩ := h
    exact ⟨xs, e.trans h1, hl, h2.mono x⟩
  | ins c fs =>
    obtain ⟨C, dx, fv, h0, h1, h2, h3⟩ := h
    exact ⟨C, dx, fv, h0, e.trans h1, h2, h3.mono x⟩
theorem CellR.some {a : Addr} {c : Cell} (h : CellR K mg A B H a c) : ∃ o, H a = some o := by
  cases c with
  | lst ds =>
    obtain ⟨xs, h1, h2⟩ := h
    exact ⟨_, h1⟩
  | ins c fs =>
    obtain ⟨C, dx, fv, h0, h1, h2, h3⟩ := h
    exact ⟨_, h1⟩
theorem SR.mem {a : Addr} (s : SR K mg A B F H st) (h : a ∈ A) : ∃ o, H a = some o := by
  obtain ⟨n, hn, e⟩ := List.getElem_of_mem h
  have h1 : A[n]? = some a := by rw [List.getElem?_eq_getElem hn, e]
  have h2 : n < st.length := by rw [← s.len]; exact hn
  exact (s.cel n a _ h1 (List.getElem?_eq_getElem h2)).some
theorem SR.notin {p : Addr} (s : SR K mg A B F H st) (hp : H p = none) : p ∉ A := fun h => by
  obtain ⟨o, e⟩ := s.mem h
  rw [hp] at e
  cases e
/-- a new object of the part that stays -/
theorem SR.alloc {p : Addr} {o : HO} (s : SR K mg A B F H st) (hp : H p = none) : SR K mg A (upd B p o) F (upd H p o) st := by
  have hB : B p = none := s.sb.free hp
  have hF : F p = none := s.sf.free hp
  have x : Ext A B A (upd B p o) := .b_of fun b u e => by rw [upd_ne (ne_of_none e hB)]; exact e
  refine ⟨s.len, s.nd, fun a ha => ?_, s.nf, fun b u e => ?_, fun b u e => ?_, fun b u e => ?_, fun n a c h1 h2 => ?_⟩
  · have z : a ≠ p := fun z => s.notin hp (by rw [← z]; exact ha)
    rw [upd_ne z]
    exact s.nb a ha
  · by_cases z : b = p
    · subst z; rw [upd_same] at e; rw [upd_same]; exact e
    · rw [upd_ne z] at e; rw [upd_ne z]; exact s.sb b u e
  · rw [upd_ne (ne_of_none e hF)]
    exact s.sf b u e
  · rw [upd_ne (ne_of_none e hF)]
    exact s.fb b u e
  · refine (s.cel n a c h1 h2).mono x (upd_ne fun z => s.notin hp ?_)
    rw [← z]
    exact List.mem_of_getElem? h1
theorem ext_alloc {p : Addr} {o : HO} (s : SR K mg A B F H st) (hp : H p = none) : Ext A B A (upd B p o) :=
  .b_of fun b u e => by rw [upd_ne (ne_of_none e (s.sb.free hp))]; exact e
/-- a new cell -/
theorem SR.newcell {p : Addr} {o : HO} {c : Cell} (s : SR K mg A B F H st) (hp : H p = none) (hc : CellR K mg (A ++ [p]) B (upd H p o) p c) : SR K mg (A ++ [p]) B F (upd H p o) (st ++ [c]) := by
  have hB : B p = none := s.sb.free hp
  have hF : F p = none := s.sf.free hp
  have hA : p ∉ A := s.notin hp
  have x : Ext A B (A ++ [p]) B := ⟨fun n a e => by rw [List.getElem?_append_left (List.getElem?_eq_some_iff.mp e).1]; exact e, Same.refl B⟩
  refine ⟨by rw [List.length_append, List.length_append, s.len]; rfl, ?_, fun a ha => ?_, fun a ha => ?_, fun b u e => ?_, fun b u e => ?_, s.fb, fun n a d h1 h2 => ?_⟩
  · rw [List.nodup_append]
    refine ⟨s.nd, by simp, fun a ha b hb e => ?_⟩
    have : b = p := by simpa using hb
    subst this
    subst e
    exact hA ha
  · rcases List.mem_append.mp ha with h | h
    · exact s.nb a h
    · have : a = p := by simpa using h
      subst this
      exact hB
  · rcases List.mem_append.mp ha with h | h
    · exact s.nf a h
    · have : a = p := by simpa using h
      subst this
      exact hF
  · rw [upd_ne (ne_of_none e hB)]
    exact s.sb b u e
  · rw [upd_ne (ne_of_none e hF)]
    exact s.sf b u e
  · by_cases hn : n < A.length
    · rw [List.getElem?_append_left hn] at h1
      rw [List.getElem?_append_left (by rw [← s.len]; exact hn)] at h2
      refine (s.cel n a d h1 h2).mono x (upd_ne fun z => hA ?_)
      rw [← z]
      exact List.mem_of_getElem? h1
    · have e1 : n = A.length := by
        have := (List.getElem?_eq_some_iff.mp h1).1
        rw [List.length_append, List.length_singleton] at this
        omega
      subst e1
      have h1' : p = a := by
        rw [List.getElem?_append_right (Nat.le_refl _)] at h1
        simpa using h1
      have h2' : c = d := by
        rw [s.len, List.getElem?_append_right (Nat.le_refl _)] at h2
        simpa using h2
      subst h1' h2'
      exact hc
theorem ext_newcell {p : Addr} : Ext A B (A ++ [p]) B := ⟨fun n a e => by rw [List.getElem?_append_left (List.getElem?_eq_some_iff.mp e).1]; exact e, Same.refl B⟩
/-- a cell changed -/
theorem SR.setcell {p : Addr} {n : Nat} {o : HO} {c : Cell} (s : SR K mg A B F H st) (hn : A[n]? = some p) (hc : CellR K mg A B (upd H p o) p c) : SR K mg A B F (upd H p o) (st.set n c) := by
  have hp : p ∈ A := List.mem_of_getElem? hn
  have hB := s.nb p hp
  have hF := s.nf p hp
  refine ⟨by rw [List.length_set]; exact s.len, s.nd, s.nb, s.nf, fun b u e => ?_, fun b u e => ?_, s.fb, fun m a d h1 h2 => ?_⟩
  · rw [upd_ne (ne_of_none e hB)]
    exact s.sb b u e
  · rw [upd_ne (ne_of_none e hF)]
    exact s.sf b u e
  · by_cases e : m = n
    · subst e
      rw [hn] at h1
      cases h1
      have hlt : m < st.length := by rw [← s.len]; exact (List.getElem?_eq_some_iff.mp hn).1
      rw [List.getElem?_set_self hlt] at h2
      cases h2
      exact hc
    · rw [List.getElem?_set_ne (Ne.symm e)] at h2
      refine (s.cel m a d h1 h2).mono (Ext.refl A B) (upd_ne fun z => e ?_)
      subst z
      obtain ⟨i1, e1⟩ := List.getElem?_eq_some_iff.mp h1
      obtain ⟨i2, e2⟩ := List.getElem?_eq_some_iff.mp hn
      exact (List.getElem_inj s.nd).mp (e1.trans e2.symm)
end

/-! ### what is wanted behind a run -/
section
variable (mg : Str → Option Value) (K : PySem.W.Frag)
/-- Rel: how the result bears what the run gives; W: the wish about errors -/
def PostG {α β : Type} (Rel : List Addr → Hp → β → α → Prop) (W : XK) (A : List Addr) (B F : Hp) (Q : β → Hp → Prop) : R α → Prop
  | .ok d st' => ∀ v A' B' H', Ext A B A' B' → Rel A' B' v d → SR K mg A' B' F H' st' → Q v H'
  | .exc c st' => ∃ C, mg (nameOf c) = some (.ref C) ∧ ∀ A' B' H', Ext A B A' B' → SR K mg A' B' F H' st' → W (.ref C) none H'
  | .stuck => False
end
section
variable {mg : Str → Option Value} {K : PySem.W.Frag} {α β γ δ : Type} {Rel : List Addr → Hp → β → α → Prop} {Rel' : List Addr → Hp → δ → γ → Prop} {W : XK} {A A' : List Addr} {B B' F : Hp} {σ : L2.St} {Q Q' : β → Hp → Prop} {P : δ → Hp → Prop} {r : R α} {f : α → Store → R γ}
theorem PostG.ext (h : PostG mg K Rel W A B F Q r) (x : Ext A B A' B') : PostG mg K Rel W A' B' F Q r := by
  cases r with
  | ok d st => exact fun v A1 B1 H1 e rel s => h v A1 B1 H1 (x.trans e) rel s
  | exc c st =>
    obtain ⟨C, hC, h⟩ := h
    exact ⟨C, hC, fun A1 B1 H1 e s => h A1 B1 H1 (x.trans e) s⟩
  | stuck => exact h
theorem PostG.imp (h : PostG mg K Rel W A B F Q r) (q : ∀ v H, Q v H → Q' v H) : PostG mg K Rel W A B F Q' r := by
  cases r with
  | ok d st => exact fun v A1 B1 H1 e rel s => q _ _ (h v A1 B1 H1 e rel s)
  | exc c st => exact h
  | stuck => exact h
/-- one step of a run -/
theorem PostG.step (h : PostG mg K Rel' W A B F P (r.bind f))
    (k : ∀ v H1 A1 B1 st1 x, r = .ok x st1 → Ext A B A1 B1 → Rel A1 B1 v x → SR K mg A1 B1 F H1 st1 → PostG mg K Rel' W A1 B1 F P (f x st1) → Q v H1) : PostG mg K Rel W A B F Q r := by
  cases r with
  | ok d st => exact fun v A1 B1 H1 e rel s => k v H1 A1 B1 st d rfl e rel s (PostG.ext (r := f d st) h e)
  | exc c st => exact h
  | stuck => exact h
end
end TW
/-! TwMul: a tuple repeated. -/
namespace TW
open PySem PySem.Spec PyProof.Rows L2
theorem tuple_mul0 (l : Addr) (items : Array Value) (n : Nat) (dd : Option Addr) (sl : Array (Option Value)) (x : Int) (u : Tok) (c0 : (decide (x < -(2 ^ 63)) || decide (x ≥ 2 ^ 63)) = false) (c1 : (items.isEmpty || x == 1) = false) (c2 : (decide (x ≤ 0) || items.isEmpty) = true) :
    Meets (Builtin.«tuple.__mul__» ⟨[.ref l, .int x u], []⟩) (fun _ R s => s.heap.get? l = some { cls := .type "tuple", dict := dd, data := .seq items n, slots := sl } ∧
      R (.ok (.ret (Value.ref s.heap.objs.size))) { s with heap := s.heap.push { cls := Value.type "tuple", data := Data.seq #[] }, toks := s.toks }) :=
  .of_wp fun prog w A R s h => by
    obtain ⟨hp, g, d, tk, os⟩ := s
    obtain ⟨hl, h⟩ := h
    have f1 := AutoSeq1.idx_int
    wp_walk using wpAny_loadPart' hl
    repeat (first
      | (refine wpAny_ite_false (decide_eq_false (by rw [c0]; exact Bool.false_ne_true)) ?_; wp_walk using wpAny_loadPart' hl)
      | (refine wpAny_ite_false (decide_eq_false (by rw [c1]; exact Bool.false_ne_true)) ?_; wp_walk using wpAny_loadPart' hl)
      | (refine wpAny_ite_true (decide_eq_true c2) ?_; wp_walk using wpAny_loadPart' hl))
    exact ⟨_, rfl, h⟩
theorem tuple_mul1 (l : Addr) (items : Array Value) (n : Nat) (dd : Option Addr) (sl : Array (Option Value)) (x : Int) (u : Tok) (c0 : (decide (x < -(2 ^ 63)) || decide (x ≥ 2 ^ 63)) = false) (c1 : (items.isEmpty || x == 1) = true) :
    Meets (Builtin.«tuple.__mul__» ⟨[.ref l, .int x u], []⟩) (fun _ R s => s.heap.get? l = some { cls := .type "tuple", dict := dd, data := .seq items n, slots := sl } ∧
      R (.ok (.ret (Value.ref l))) s) :=
  .of_wp fun prog w A R s h => by
    obtain ⟨hp, g, d, tk, os⟩ := s
    obtain ⟨hl, h⟩ := h
    have f1 := AutoSeq1.idx_int
    wp_walk using wpAny_loadPart' hl
    repeat (first
      | (refine wpAny_ite_false (decide_eq_false (by rw [c0]; exact Bool.false_ne_true)) ?_; wp_walk using wpAny_loadPart' hl)
      | (refine wpAny_ite_true (decide_eq_true c1) ?_; wp_walk using wpAny_loadPart' hl))
    exact ⟨_, rfl, h⟩
def rRep1 (K : PySem.W.Frag) : R2 := fun x y H Q => ∃ l k xs, x = .ref l ∧ y = .int k ∧ SqT K H l xs ∧ -(2 ^ 63) ≤ k ∧ k ≤ 1000 ∧ (xs = [] ∨ k = 1) ∧ Q (.ref l) H
def rRep0 (K : PySem.W.Frag) : R2 := fun x y H Q => ∃ l k xs, x = .ref l ∧ y = .int k ∧ SqT K H l xs ∧ -(2 ^ 63) ≤ k ∧ k ≤ 0 ∧ xs ≠ [] ∧ ∀ p, H p = none → Q (.ref p) (upd H p (.tup []))
section
variable {X : Cx}
theorem op_rep1 : OpR X (binaryOp .Mult) (rRep1 X.K) := by
  intro pins s σ H x y v u Q I rx ry h
  obtain ⟨l, k, xs, rfl, rfl, hT, h1, h2, hk, q⟩ := h
  cases rx
  obtain ⟨t, rfl⟩ := ry
  obtain ⟨its, r, ⟨⟨cls, dd, data, sl⟩, ho, hc, n, hd⟩, hs⟩ := I.tuple hT
  simp only at hc hd
  subst hc hd
  have hle : its.length = xs.length := r.length.symm
  have c0 : (decide (k < -(2 ^ 63)) || decide (k ≥ 2 ^ 63)) = false := by
    rw [decide_eq_false (by omega), decide_eq_false (by omega)] <;> rfl
  have c1 : (its.toArray.isEmpty || k == 1) = true := by
    rcases hk with rfl | rfl
    · have : its = [] := List.eq_nil_of_length_eq_zero hle
      subst this
      rfl
    · simp
  exact wpAny_binaryOp_repeat_ref (T := "tuple") (U := "int") (by decide) ⟨_, ho, rfl⟩ (fun s' => typeIs_int s' k t) noFill_tuple_mul F.fills_int_mul F.slot_int_rmul repeat_tuple F.slot_int_index.lookup
    (call_meets F.slot_int_rmul (typeIs_int s k t) F.entry_int_rmul (F.args_int_rmul_2 _ _) (int_rmul_tuple k t l its.toArray n dd sl)
      ⟨ho, rfl, ⟨_, ho, rfl⟩, call_meets F.slot_tuple_mul ⟨_, ho, rfl⟩ F.entry_tuple_mul (F.args_tuple_mul_2 _ _) (tuple_mul1 l its.toArray n dd sl k t c0 c1) ⟨ho, ⟨.ref l, H, I, rfl, q⟩⟩⟩)
theorem op_rep0 : OpR X (binaryOp .Mult) (rRep0 X.K) := by
  intro pins s σ H x y v u Q I rx ry h
  obtain ⟨l, k, xs, rfl, rfl, hT, h1, h2, hne, q⟩ := h
  cases rx
  obtain ⟨t, rfl⟩ := ry
  obtain ⟨its, r, ⟨⟨cls, dd, data, sl⟩, ho, hc, n, hd⟩, hs⟩ := I.tuple hT
  simp only at hc hd
  subst hc hd
  have hle : its.length = xs.length := r.length.symm
  have hn : its ≠ [] := fun e => hne (by
    rw [e] at hle
    exact List.eq_nil_of_length_eq_zero hle.symm)
  have hi : its.toArray.isEmpty = false := by
    cases its with
    | nil => exact absurd rfl hn
    | cons a b => rfl
  have c0 : (decide (k < -(2 ^ 63)) || decide (k ≥ 2 ^ 63)) = false := by
    rw [decide_eq_false (by omega), decide_eq_false (by omega)] <;> rfl
  have c1 : (its.toArray.isEmpty || k == 1) = false := by
    rw [hi, Bool.false_or]
    exact beq_eq_false_iff_ne.mpr (by omega)
  have c2 : (decide (k ≤ 0) || its.toArray.isEmpty) = true := by
    rw [hi, Bool.or_false]
    exact decide_eq_true h2
  refine wpAny_binaryOp_repeat_ref (T := "tuple") (U := "int") (by decide) ⟨_, ho, rfl⟩ (fun s' => typeIs_int s' k t) noFill_tuple_mul F.fills_int_mul F.slot_int_rmul repeat_tuple F.slot_int_index.lookup
    (call_meets F.slot_int_rmul (typeIs_int s k t) F.entry_int_rmul (F.args_int_rmul_2 _ _) (int_rmul_tuple k t l its.toArray n dd sl)
      ⟨ho, rfl, ⟨_, ho, rfl⟩, call_meets F.slot_tuple_mul ⟨_, ho, rfl⟩ F.entry_tuple_mul (F.args_tuple_mul_2 _ _) (tuple_mul0 l its.toArray n dd sl k t c0 c1 c2) ⟨ho, ?_⟩⟩)
  refine ⟨.ref s.heap.objs.size, _, I.laid (t' := s.toks) (o := .tup []) (fun b ob q => Heap.get?_push_of_some _ q) (Nat.le_refl _) ?_, rfl, q _ (I.hok.fresh (Nat.le_refl _))⟩
  exact ⟨by show 0 ≤ sizeLine; exact Nat.zero_le _, [], .nil, IsTup.new _ _⟩
end
end TW
/-! TwOps: the readings by what they mean (sem..), and the operations by values. -/
namespace TW
open PySem PySem.Spec PyProof.Rows L2

section
variable (X : Cx)
def semE (e : Expr) : TE := fun σ H Q => ∀ (pins : List (Addr × Obj)) (s : Shared), Inv X pins σ H s → wpAny (model X.prog X.w) X.A (eval e X.env) (EP X pins σ Q) X.xe s
def semT (e : Expr) : TT := fun σ H Q => ∀ (pins : List (Addr × Obj)) (s : Shared), Inv X pins σ H s → wpAny (model X.prog X.w) X.A (isTrue e X.env (eval e X.env)) (TP X pins σ Q) X.xe s
def semA (es : List Expr) : TA := fun σ H Q => ∀ (pos : Pos) (pins : List (Addr × Obj)) (s : Shared), Inv X pins σ H s → wpAny (model X.prog X.w) X.A (spliced (backTo pos (starEach es X.env))) (AP X pins σ Q) X.xe s
def semS (st : Stmt) : TS := fun D σ H => ∀ (pins : List (Addr × Obj)) (s : Shared), Inv X pins σ H s → wpAny (model X.prog X.w) X.A (exec st X.env) (SP X pins D) X.xe s
def semSs (st : List Stmt) : TS := fun D σ H => ∀ (pins : List (Addr × Obj)) (s : Shared), Inv X pins σ H s → wpAny (model X.prog X.w) X.A (execs st X.env) (SP X pins D) X.xe s
def opSem (f : Value → Value → Sem Value) : R2 := fun x y H Q => ∀ (pins : List (Addr × Obj)) (s : Shared) (σ : L2.St) (v u : Value), Inv X pins σ H s → RelV x v → RelV y u → wpAny (model X.prog X.w) X.A (f v u) (EP X pins σ Q) X.xe s
def unSem (f : Value → Sem Value) : V → Hp → VK → Prop := fun x H Q => ∀ (pins : List (Addr × Obj)) (s : Shared) (σ : L2.St) (v : Value), Inv X pins σ H s → RelV x v → wpAny (model X.prog X.w) X.A (f v) (EP X pins σ Q) X.xe s
def callSem (f : Value) : List V → Hp → VK → Prop := fun xs H Q => ∀ (pins : List (Addr × Obj)) (s : Shared) (σ : L2.St) (us : List Value), Inv X pins σ H s → Vals xs us → wpAny (model X.prog X.w) X.A (call f us) (EP X pins σ Q) X.xe s
def mtSem (id : String) : V → List V → Hp → VK → Prop := fun x xs H Q => ∀ (pins : List (Addr × Obj)) (s : Shared) (σ : L2.St) (v : Value) (us : List Value), Inv X pins σ H s → RelV x v → Vals xs us → wpAny (model X.prog X.w) X.A (call (.builtin id) (v :: us)) (EP X pins σ Q) X.xe s
def ixSem : R2 := fun x y H Q => ∀ (value slice : Expr) (pins : List (Addr × Obj)) (s : Shared) (σ : L2.St) (v u : Value), Inv X pins σ H s → RelV x v → RelV y u →
    subscripted slice false v u = operate [v, u] (getItem v u) → wpAny (model X.prog X.w) X.A (subscriptTail value slice v u) (EP X pins σ Q) X.xe s
end
section
variable {X : Cx}
theorem pe_sem {e : Expr} : PE X e (semE X e) := ⟨fun pins s _ _ _ I h => h pins s I⟩
theorem pt_sem {e : Expr} : PT X e (semT X e) := ⟨fun pins s _ _ _ I h => h pins s I⟩
theorem pa_sem {es : List Expr} : PA X es (semA X es) := ⟨fun pos pins s _ _ _ I h => h pos pins s I⟩
theorem ps_sem {st : Stmt} : PS X st (semS X st) := ⟨fun pins s _ _ _ I h => h pins s I⟩
theorem pss_sem {st : List Stmt} : PSs X st (semSs X st) := ⟨fun pins s _ _ _ I h => h pins s I⟩
theorem semE_of {e : Expr} {t : TE} (h : PE X e t) {σ : L2.St} {H : Hp} {Q : VK} (q : t σ H Q) : semE X e σ H Q := fun pins s I => h.run pins s σ H Q I q
theorem semT_of {e : Expr} {t : TT} (h : PT X e t) {σ : L2.St} {H : Hp} {Q : Bool → Hp → Prop} (q : t σ H Q) : semT X e σ H Q := fun pins s I => h.run pins s σ H Q I q
theorem semA_of {es : List Expr} {t : TA} (h : PA X es t) {σ : L2.St} {H : Hp} {Q : List V → Hp → Prop} (q : t σ H Q) : semA X es σ H Q := fun pos pins s I => h.run pos pins s σ H Q I q
theorem semS_of {st : Stmt} {t : TS} (h : PS X st t) {D : Ends} {σ : L2.St} {H : Hp} (q : t D σ H) : semS X st D σ H := fun pins s I => h.run pins s σ H D I q
theorem semSs_of {st : List Stmt} {t : TS} (h : PSs X st t) {D : Ends} {σ : L2.St} {H : Hp} (q : t D σ H) : semSs X st D σ H := fun pins s I => h.run pins s σ H D I q
theorem opr_sem {f : Value → Value → Sem Value} : OpR X f (opSem X f) := fun pins s σ _ _ _ v u _ I rx ry h => h pins s σ v u I rx ry
theorem opSem_of {f : Value → Value → Sem Value} {r : R2} (h : OpR X f r) {x y : V} {H : Hp} {Q : VK} (q : r x y H Q) : opSem X f x y H Q := fun pins s σ v u I rx ry => h pins s σ H x y v u Q I rx ry q
theorem unr_sem {f : Value → Sem Value} : UnR X f (unSem X f) := fun pins s σ _ _ v _ I rx h => h pins s σ v I rx
theorem unSem_of {f : Value → Sem Value} {r : V → Hp → VK → Prop} (h : UnR X f r) {x : V} {H : Hp} {Q : VK} (q : r x H Q) : unSem X f x H Q := fun pins s σ v I rx => h pins s σ H x v Q I rx q
theorem callr_sem {f : Value} : CallR X f (callSem X f) := fun pins s σ _ _ us _ I r h => h pins s σ us I r
theorem callSem_of {f : Value} {r : List V → Hp → VK → Prop} (h : CallR X f r) {xs : List V} {H : Hp} {Q : VK} (q : r xs H Q) : callSem X f xs H Q := fun pins s σ us I rx => h pins s σ H xs us Q I rx q
theorem mtr_sem {id : String} : MtR X id (mtSem X id) := fun pins s σ _ _ _ v us _ I rx rs h => h pins s σ v us I rx rs
theorem mtSem_of {id : String} {r : V → List V → Hp → VK → Prop} (h : MtR X id r) {x : V} {xs : List V} {H : Hp} {Q : VK} (q : r x xs H Q) : mtSem X id x xs H Q := fun pins s σ v us I rx rs => h pins s σ H x xs v us Q I rx rs q
theorem ixr_sem : IxR X (ixSem X) := fun value slice pins s σ _ _ _ v u _ I rx ry h hs => h value slice pins s σ v u I rx ry hs
theorem ixSem_of {r : R2} (h : IxR X r) {x y : V} {H : Hp} {Q : VK} (q : r x y H Q) : ixSem X x y H Q := fun value slice pins s σ v u I rx ry hs => h value slice pins s σ H x y v u Q I rx ry q hs
end

/-! ### data read at the heap as it stands -/
section
variable (K : PySem.W.Frag) (mg : Str → Option Value)
/-- behind der -/
inductive RH (A : List Addr) (B H : Hp) : V → D → Prop
  | non : RH A B H .non .non
  | bl (b : Bool) : RH A B H (.bl b) (.bl b)
  | int (i : Int) : RH A B H (.int i) (.int i)
  | str (x : Str) : RH A B H (.str x) (.str x)
  | tup {a : Addr} {xs : List V} {ds : List D} : SqT K H a xs → xs.length ≤ lim → RVs K mg A B xs ds → RH A B H (.ref a) (.tup ds)
  | lst {a : Addr} {xs : List V} {ds : List D} : H a = some (.lst xs) → xs.length ≤ lim → RVs K mg A B xs ds → RH A B H (.ref a) (.lst ds)
  | scr {a : Addr} {ns : List Int} : SqL K H a (ns.map V.int) → ns.length ≤ lim → RH A B H (.ref a) (.scr ns)
  | ref {a : Addr} {n : Nat} : A[n]? = some a → RH A B H (.ref a) (.ref n)
  | glb {x : String} {f : Addr} : mg (nameOf x) = some (.ref f) → RH A B H (.ref f) (.glb x)
/-- behind rd -/
inductive RS (A : List Addr) (B H : Hp) : V → D → Prop
  | non : RS A B H .non .non
  | bl (b : Bool) : RS A B H (.bl b) (.bl b)
  | int (i : Int) : RS A B H (.int i) (.int i)
  | str (x : Str) : RS A B H (.str x) (.str x)
  | tup {a : Addr} {xs : List V} {ds : List D} : SqT K H a xs → xs.length ≤ lim → RVs K mg A B xs ds → RS A B H (.ref a) (.tup ds)
  | lst {a : Addr} {xs : List V} {ds : List D} : SqL K H a xs → xs.length ≤ lim → RVs K mg A B xs ds → RS A B H (.ref a) (.lst ds)
  | ref {a : Addr} {n : Nat} : A[n]? = some a → RS A B H (.ref a) (.ref n)
  | glb {x : String} {f : Addr} : mg (nameOf x) = some (.ref f) → RS A B H (.ref f) (.glb x)
end
section
variable {K : PySem.W.Frag} {mg : Str → Option Value} {A : List Addr} {B F H : Hp} {st : Store} {v : V} {d : D}
theorem RV.rh (r : RV K mg A B v d) (s : SR K mg A B F H st) : RH K mg A B H v (der st d) := by
  cases r with
  | non => exact .non
  | bl b => exact .bl b
  | int i => exact .int i
  | str x => exact .str x
  | tup h hl hs => exact .tup (Same.seqT s.sb h) hl hs
  | lst h hl hs => exact .lst (s.sb _ _ h) hl hs
  | scr h hl => exact .scr (Same.seq s.sb h) hl
  | glb h => exact .glb h
  | ref h =>
    rename_i a n
    show RH K mg A B H (.ref a) (match st[n]? with
      | some (.lst xs) => .lst xs
      | _ => .ref n)
    split
    · rename_i xs e
      obtain ⟨ys, h1, hl, h2⟩ := s.cel n a _ h e
      exact .lst h1 hl h2
    · exact .ref h
theorem RV.rs (r : RV K mg A B v d) (s : SR K mg A B F H st) : RS K mg A B H v (rd st d) := by
  have h := r.rh s
  unfold rd
  generalize der st d = e at h
  cases h with
  | non => exact .non
  | bl b => exact .bl b
  | int i => exact .int i
  | str x => exact .str x
  | tup h hl hs => exact .tup h hl hs
  | lst h hl hs => exact .lst (SqL.of h) hl hs
  | scr h hl => exact .lst h (by rw [List.length_map]; exact hl) (RVs.ints _)
  | glb h => exact .glb h
  | ref h => exact .ref h
theorem RVs.rss {vs : List V} {ds : List D} (s : SR K mg A B F H st) : RVs K mg A B vs ds → Paired (RS K mg A B H) vs (ds.map (rd st))
  | .nil => .nil
  | .cons r t => .cons (r.rs s) (t.rss s)
end

section
variable {X : Cx} {W : XK} {A : List Addr} {B F H : Hp} {st : Store} {σ : L2.St} {Q : VK}
abbrev Post (X : Cx) (W : XK) (A : List Addr) (B F : Hp) (Q : VK) (r : R D) : Prop := PostG X.mg X.K (RV X.K X.mg) W A B F Q r
theorem PostG.here {v : V} {d : D} (hp : Post X W A B F Q (.ok d st)) (r : RV X.K X.mg A B v d) (s : SR X.K X.mg A B F H st) : Q v H := hp v A B H (Ext.refl A B) r s
theorem PostG.newT {p : Addr} {xs : List V} {ds : List D} (hp : Post X W A B F Q (.ok (.tup ds) st)) (s : SR X.K X.mg A B F H st) (h : RVs X.K X.mg A B xs ds) (hl : xs.length ≤ lim) (e : H p = none) : Q (.ref p) (upd H p (.tup xs)) :=
  hp _ A (upd B p (.tup xs)) _ (ext_alloc s e) (.tup (SqT.of upd_same) hl (h.mono (ext_alloc s e))) (s.alloc e)
theorem PostG.newL {p : Addr} {xs : List V} {ds : List D} (hp : Post X W A B F Q (.ok (.lst ds) st)) (s : SR X.K X.mg A B F H st) (h : RVs X.K X.mg A B xs ds) (hl : xs.length ≤ lim) (e : H p = none) : Q (.ref p) (upd H p (.lst xs)) :=
  hp _ A (upd B p (.lst xs)) _ (ext_alloc s e) (.lst upd_same hl (h.mono (ext_alloc s e))) (s.alloc e)
/-- a tuple that stands -/
theorem RV.ofT {K : PySem.W.Frag} {mg : Str → Option Value} {a : Addr} {xs : List V} {ds : List D} (r : RV K mg A B (.ref a) (.tup ds)) : ∃ xs, SqT K B a xs ∧ RVs K mg A B xs ds := by
  cases r with
  | tup h hl hs => exact ⟨_, h, hs⟩

/-! ### binary operators -/
theorem der_tup_inv {d : D} {ds : List D} (h : der st d = .tup ds) : d = .tup ds := by
  cases d with
  | ref n =>
    unfold der at h
    simp only at h
    split at h <;> cases h
  | _ => exact h
theorem binop_ok {o : Operator} {x y : V} {dx dy : D} (rx : RV X.K X.mg A B x dx) (ry : RV X.K X.mg A B y dy) (s : SR X.K X.mg A B F H st)
    (hp : Post X W A B F Q (ofO (binop o (der st dx) (der st dy)) st)) : opSem X (binaryOp o) x y H Q := by
  have hx := rx.rh s
  have hy := ry.rh s
  have ex : ∀ ds, der st dx = .tup ds → dx = .tup ds := fun ds h => der_tup_inv h
  have ey : ∀ ds, der st dy = .tup ds → dy = .tup ds := fun ds h => der_tup_inv h
  generalize der st dx = gx at hp hx ex
  generalize der st dy = gy at hp hy ey
  unfold binop at hp
  split at hp
  · cases hx; cases hy
    exact opSem_of op_add ⟨_, _, rfl, rfl, hp.here (.int _) s⟩
  · split at hp
    · rename_i hz
      cases hx with
      | tup hx1 hxl hx2 =>
        cases hy with
        | tup hy1 hyl hy2 =>
          have tx := ex _ rfl
          have ty := ey _ rfl
          subst tx ty
          refine opSem_of op_catA ⟨_, _, _, _, rfl, rfl, hx1, hy1, ?_, fun e => ?_, fun _ e => ?_, fun _ _ p np => ?_⟩
          · rw [← lim_eq, hx2.length, hy2.length]; exact hz
          · subst e
            cases hx2
            exact hp.here ry s
          · subst e
            cases hy2
            rw [List.append_nil] at hp
            exact hp.here rx s
          · exact hp.newT s (hx2.append hy2) (by rw [List.length_append, hx2.length, hy2.length]; exact hz) np
    · exact hp.elim
  · split at hp
    · rename_i hz
      cases hx with
      | lst hx1 hxl hx2 =>
        cases hy with
        | lst hy1 hyl hy2 =>
          refine opSem_of op_cat ⟨_, _, _, _, rfl, rfl, hx1, hy1, ?_, fun p np => ?_⟩
          · rw [← lim_eq, hx2.length, hy2.length]; exact hz
          · exact hp.newL s (hx2.append hy2) (by rw [List.length_append, hx2.length, hy2.length]; exact hz) np
    · exact hp.elim
  · split at hp
    · rename_i hz
      cases hx; cases hy
      exact opSem_of op_add_str ⟨_, _, rfl, rfl, by rw [← lim_eq]; exact hz, hp.here (.str _) s⟩
    · exact hp.elim
  · cases hx; cases hy
    exact opSem_of op_sub ⟨_, _, rfl, rfl, hp.here (.int _) s⟩
  · split at hp
    · rename_i hz
      cases hx; cases hy
      exact opSem_of op_mul ⟨_, _, rfl, rfl, hz, hp.here (.int _) s⟩
    · exact hp.elim
  · split at hp
    · rename_i hz
      cases hy
      cases hx with
      | tup hx1 hxl hx2 =>
        rename_i xs k _ xs'
        have e : xs'.length ≤ 1000 := by rw [hx2.length]; exact hz.2.2
        have tx := ex _ rfl
        subst tx
        by_cases h1 : xs' = [] ∨ k = 1
        · refine opSem_of op_rep1 ⟨_, _, _, rfl, rfl, hx1, hz.1, hz.2.1, h1, ?_⟩
          have ed : (List.replicate k.toNat xs).flatten = xs := by
            rcases h1 with rfl | rfl
            · cases hx2
              simp
            · simp
          rw [ed] at hp
          exact hp.here rx s
        · by_cases h0 : k ≤ 0
          · refine opSem_of op_rep0 ⟨_, _, _, rfl, rfl, hx1, hz.1, h0, fun z => h1 (.inl z), fun p np => ?_⟩
            have ed : (List.replicate k.toNat xs).flatten = [] := by
              rw [show k.toNat = 0 by omega]
              rfl
            rw [ed] at hp
            exact hp.newT s .nil (Nat.zero_le _) np
          · refine opSem_of op_repT ⟨_, _, _, rfl, rfl, hx1, fun z => h1 (.inl z), by have : k ≠ 1 := fun z => h1 (.inr z); omega, hz.2.1, e, fun p np => hp.newT s (hx2.rep _) ?_ np⟩
            rw [PyProof.Rows.lm_len_rep_flat]
            exact Nat.le_trans (Nat.mul_le_mul (show k.toNat ≤ 1000 by omega) e) (by decide)
    · exact hp.elim
  · split at hp
    · rename_i hz
      cases hy
      cases hx with
      | lst hx1 hxl hx2 =>
        rename_i xs k _ xs'
        have e : xs'.length ≤ 1000 := by rw [hx2.length]; exact hz.2.2
        have e2 : k.toNat ≤ 1000 := by omega
        refine opSem_of op_rep ⟨_, _, _, rfl, rfl, hx1, hz.1, by omega, ?_, fun p np => hp.newL s (hx2.rep _) ?_ np⟩
        · exact Nat.le_trans (Nat.mul_le_mul e e2) (by decide)
        · rw [PyProof.Rows.lm_len_rep_flat]
          exact Nat.le_trans (Nat.mul_le_mul e2 e) (by decide)
    · exact hp.elim
  · split at hp
    · rename_i hz
      cases hx; cases hy
      exact opSem_of op_fdiv ⟨_, _, rfl, rfl, hz, hp.here (.int _) s⟩
    · exact hp.elim
  · split at hp
    · rename_i hz
      cases hx; cases hy
      exact opSem_of op_mod ⟨_, _, rfl, rfl, hz, hp.here (.int _) s⟩
    · exact hp.elim
  · split at hp
    · rename_i hz
      cases hx; cases hy
      exact opSem_of op_pow ⟨_, _, rfl, rfl, hz, hp.here (.int _) s⟩
    · exact hp.elim
  · exact hp.elim
end
end TW
/-! TwOrd: ints and tuples of such in order. -/
namespace TW
open PySem PySem.Spec PyProof.Rows L2
/-- two lists, item by item -/
inductive F2 {α β : Type} (P : α → β → Prop) : List α → List β → Prop
  | nil : F2 P [] []
  | cons {a : α} {b : β} {l : List α} {m : List β} : P a b → F2 P l m → F2 P (a :: l) (b :: m)
theorem F2.length {α β : Type} {P : α → β → Prop} : ∀ {l : List α} {m : List β}, F2 P l m → l.length = m.length
  | _, _, .nil => rfl
  | _, _, .cons _ t => congrArg (· + 1) t.length
theorem F2.get {α β : Type} {P : α → β → Prop} : ∀ {l : List α} {m : List β}, F2 P l m → ∀ {j : Nat} {a : α} {b : β}, l[j]? = some a → m[j]? = some b → P a b
  | _, _, .nil, j, a, b, h, _ => by simp at h
  | _, _, .cons p t, 0, a, b, h1, h2 => by simp at h1 h2; subst h1 h2; exact p
  | _, _, .cons p t, j + 1, a, b, h1, h2 => t.get (by simpa using h1) (by simpa using h2)
/-- the value bears ints, tuples of such: read off the heap itself -/
def OD : Nat → Heap → Value → D → Prop
  | _, _, v, .int i => ∃ t, v = .int i t
  | n + 1, h, v, .tup ds => ∃ (a : Addr) (vs : List Value), v = .ref a ∧ h.IsTuple a vs.toArray ∧ F2 (OD n h) vs ds
  | _, _, _, _ => False
theorem OD.int {n : Nat} {h : Heap} {v : Value} {i : Int} (o : OD n h v (.int i)) : ∃ t, v = .int i t := by cases n <;> exact o
theorem OD.mkI {n : Nat} {h : Heap} {i : Int} {t : Tok} : OD n h (.int i t) (.int i) := by cases n <;> exact ⟨t, rfl⟩
theorem od_fun : ∀ (n : Nat) (h : Heap) (v : Value) (d e : D), OD n h v d → OD n h v e → d = e
  | n, h, v, .int i, .int j, o1, o2 => by
    obtain ⟨t, e1⟩ := o1.int
    obtain ⟨t', e2⟩ := o2.int
    rw [e1] at e2
    cases e2
    rfl
  | 0, h, v, .int i, .tup es, o1, o2 => o2.elim
  | n + 1, h, v, .int i, .tup es, o1, o2 => by
    obtain ⟨t, e1⟩ := o1.int
    obtain ⟨a, vs, e2, _⟩ := o2
    rw [e1] at e2
    cases e2
  | 0, h, v, .tup ds, _, o1, o2 => o1.elim
  | n + 1, h, v, .tup ds, .int j, o1, o2 => by
    obtain ⟨t, e1⟩ := o2.int
    obtain ⟨a, vs, e2, _⟩ := o1
    rw [e1] at e2
    cases e2
  | n + 1, h, v, .tup ds, .tup es, o1, o2 => by
    obtain ⟨a, vs, e1, t1, f1⟩ := o1
    obtain ⟨b, us, e2, t2, f2⟩ := o2
    rw [e1] at e2
    cases e2
    obtain ⟨o, g1, _, n1, d1⟩ := t1
    obtain ⟨o', g2, _, n2, d2⟩ := t2
    rw [g1] at g2
    cases g2
    rw [d1] at d2
    have ev : vs = us := by
      have := (Data.seq.inj d2).1
      simpa using congrArg Array.toList this
    subst ev
    have : ∀ (vs : List Value) (ds es : List D), F2 (OD n h) vs ds → F2 (OD n h) vs es → ds = es := by
      intro vs
      induction vs with
      | nil => intro ds es f g; cases f; cases g; rfl
      | cons v vs ih =>
        intro ds es f g
        cases f with
        | cons p f =>
          cases g with
          | cons q g => rw [od_fun n h v _ _ p q, ih _ _ f g]
    rw [this vs ds es f1 f2]
  | 0, _, _, .non, _, o, _ => o.elim
  | _ + 1, _, _, .non, _, o, _ => o.elim
  | 0, _, _, .bl _, _, o, _ => o.elim
  | _ + 1, _, _, .bl _, _, o, _ => o.elim
  | 0, _, _, .str _, _, o, _ => o.elim
  | _ + 1, _, _, .str _, _, o, _ => o.elim
  | 0, _, _, .lst _, _, o, _ => o.elim
  | _ + 1, _, _, .lst _, _, o, _ => o.elim
  | 0, _, _, .scr _, _, o, _ => o.elim
  | _ + 1, _, _, .scr _, _, o, _ => o.elim
  | 0, _, _, .ref _, _, o, _ => o.elim
  | _ + 1, _, _, .ref _, _, o, _ => o.elim
  | 0, _, _, .glb _, _, o, _ => o.elim
  | _ + 1, _, _, .glb _, _, o, _ => o.elim
  | 0, _, _, .exn _, _, o, _ => o.elim
  | _ + 1, _, _, .exn _, _, o, _ => o.elim
  | 0, _, _, .int _, .non, _, o => o.elim
  | _ + 1, _, _, .int _, .non, _, o => o.elim
  | 0, _, _, .int _, .bl _, _, o => o.elim
  | _ + 1, _, _, .int _, .bl _, _, o => o.elim
  | 0, _, _, .int _, .str _, _, o => o.elim
  | _ + 1, _, _, .int _, .str _, _, o => o.elim
  | 0, _, _, .int _, .lst _, _, o => o.elim
  | _ + 1, _, _, .int _, .lst _, _, o => o.elim
  | 0, _, _, .int _, .scr _, _, o => o.elim
  | _ + 1, _, _, .int _, .scr _, _, o => o.elim
  | 0, _, _, .int _, .ref _, _, o => o.elim
  | _ + 1, _, _, .int _, .ref _, _, o => o.elim
  | 0, _, _, .int _, .glb _, _, o => o.elim
  | _ + 1, _, _, .int _, .glb _, _, o => o.elim
  | 0, _, _, .int _, .exn _, _, o => o.elim
  | _ + 1, _, _, .int _, .exn _, _, o => o.elim
  | _ + 1, _, _, .tup _, .non, _, o => o.elim
  | _ + 1, _, _, .tup _, .bl _, _, o => o.elim
  | _ + 1, _, _, .tup _, .str _, _, o => o.elim
  | _ + 1, _, _, .tup _, .lst _, _, o => o.elim
  | _ + 1, _, _, .tup _, .scr _, _, o => o.elim
  | _ + 1, _, _, .tup _, .ref _, _, o => o.elim
  | _ + 1, _, _, .tup _, .glb _, _, o => o.elim
  | _ + 1, _, _, .tup _, .exn _, _, o => o.elim
mutual
theorem ord_eqv : ∀ (n : Nat) (d : D), D.ord n d = true → D.eqv d d = true
  | _, .int i, _ => by simp [D.eqv]
  | n + 1, .tup xs, h => by
    have h' : xs.all (D.ord n) = true := h
    simp only [D.eqv]
    exact ord_eqvL n xs h'
  | 0, .tup _, h => by cases h
  | n, .non, h => by cases n <;> cases h
  | n, .bl _, h => by cases n <;> cases h
  | n, .str _, h => by cases n <;> cases h
  | n, .lst _, h => by cases n <;> cases h
  | n, .scr _, h => by cases n <;> cases h
  | n, .ref _, h => by cases n <;> cases h
  | n, .glb _, h => by cases n <;> cases h
  | n, .exn _, h => by cases n <;> cases h
theorem ord_eqvL : ∀ (n : Nat) (ds : List D), ds.all (D.ord n) = true → D.eqvL ds ds = true
  | _, [], _ => rfl
  | n, d :: ds, h => by
    rw [List.all_cons, Bool.and_eq_true] at h
    simp only [D.eqvL, ord_eqv n d h.1, ord_eqvL n ds h.2, Bool.and_self]
end
theorem eqv_int (i j : Int) : D.eqv (.int i) (.int j) = (i == j) := by simp [D.eqv]
theorem od_ord : ∀ (n : Nat) (h : Heap) (v : Value) (d : D), OD n h v d → D.ord n d = true
  | 0, h, v, d, o => by cases d <;> first | rfl | exact o.elim
  | n + 1, h, v, d, o => by
    cases d with
    | int i => rfl
    | tup ds =>
      obtain ⟨a, vs, _, _, f⟩ := o
      show ds.all (D.ord n) = true
      rw [List.all_eq_true]
      intro d hd
      have : ∀ (vs : List Value) (ds : List D), F2 (OD n h) vs ds → ∀ d ∈ ds, D.ord n d = true := by
        intro vs
        induction vs with
        | nil => intro ds f; cases f; intro d hd; cases hd
        | cons v vs ih =>
          intro ds f
          cases f with
          | cons p f =>
            intro d hd
            rcases List.mem_cons.mp hd with rfl | q
            · exact od_ord n h v _ p
            · exact ih _ f d q
      exact this vs ds f d hd
    | _ => exact o.elim
theorem eqvL_range : ∀ (ds es : List D) (e : Nat → Bool), (∀ (j : Nat) (d d' : D), ds[j]? = some d → es[j]? = some d' → e j = D.eqv d d') → ((List.range (min ds.length es.length)).all e && ds.length == es.length) = D.eqvL ds es
  | [], [], e, _ => by simp [D.eqvL]
  | [], y :: ys, e, _ => by simp [D.eqvL]
  | x :: xs, [], e, _ => by simp [D.eqvL]
  | x :: xs, y :: ys, e, h => by
    have ih := eqvL_range xs ys (fun j => e (j + 1)) fun j d d' h1 h2 => h (j + 1) d d' (by simpa using h1) (by simpa using h2)
    simp only [D.eqvL]
    rw [← ih, ← h 0 x y rfl rfl]
    rw [List.length_cons, List.length_cons, Nat.succ_min_succ, List.range_succ_eq_map, List.all_cons, List.all_map]
    have : (xs.length + 1 == ys.length + 1) = (xs.length == ys.length) := by
      rw [Bool.eq_iff_iff]; simp
    rw [this, Bool.and_assoc]
    rfl
theorem ltL_lex : ∀ (ds es : List D) (e r : Nat → Bool) (i : Nat), (∀ (j : Nat) (d d' : D), ds[j]? = some d → es[j]? = some d' → e (i + j) = D.eqv d d' ∧ (D.eqv d d' = false → r (i + j) = D.lt d d')) → Ob.lexAt e r (decide (ds.length < es.length)) i (min ds.length es.length) = D.ltL ds es
  | [], [], e, r, i, _ => by simp [D.ltL, Ob.lexAt]
  | [], y :: ys, e, r, i, _ => by simp [D.ltL, Ob.lexAt]
  | x :: xs, [], e, r, i, _ => by simp [D.ltL, Ob.lexAt]
  | x :: xs, y :: ys, e, r, i, h => by
    obtain ⟨h1, h2⟩ := h 0 x y rfl rfl
    rw [Nat.add_zero] at h1 h2
    rw [List.length_cons, List.length_cons, Nat.succ_min_succ, Ob.lexAt_succ, h1]
    simp only [D.ltL]
    cases q : D.eqv x y with
    | true =>
      simp only [if_true]
      rw [← ltL_lex xs ys e r (i + 1) fun j d d' g1 g2 => by
        have := h (j + 1) d d' (by simpa using g1) (by simpa using g2)
        rw [show i + 1 + j = i + (j + 1) by omega]
        exact this]
      congr 1
      rw [Bool.eq_iff_iff]; simp
    | false =>
      simp only [Bool.false_eq_true, if_false]
      exact h2 q
theorem likeL_get : ∀ {ds es : List D} {j : Nat} {d d' : D}, D.likeL ds es = true → ds[j]? = some d → es[j]? = some d' → D.like d d' = true
  | [], _, j, d, d', _, h, _ => by simp at h
  | _ :: _, [], j, d, d', _, _, h => by simp at h
  | x :: xs, y :: ys, 0, d, d', hl, h1, h2 => by
    simp only [D.likeL, Bool.and_eq_true] at hl
    simp at h1 h2
    subst h1 h2
    exact hl.1
  | x :: xs, y :: ys, j + 1, d, d', hl, h1, h2 => by
    simp only [D.likeL, Bool.and_eq_true] at hl
    exact likeL_get hl.2 (by simpa using h1) (by simpa using h2)
theorem f2_at {n : Nat} {h : Heap} {vs : List Value} {ds : List D} (f : F2 (OD n h) vs ds) {j : Nat} (hj : j < vs.toArray.size) : ∃ d, ds[j]? = some d ∧ OD n h vs.toArray[j] d := by
  have hj' : j < vs.length := by simpa using hj
  have hd : j < ds.length := by rw [← f.length]; exact hj'
  refine ⟨ds[j], List.getElem?_eq_getElem hd, ?_⟩
  have := f.get (List.getElem?_eq_getElem hj') (List.getElem?_eq_getElem hd)
  simpa using this
/-- equality of data in order -/
theorem od_eq : ∀ (n : Nat) (A : Around) (s : Shared) (v u : Value) (d e : D), OD n s.heap v d → OD n s.heap u e → D.like d e = true → A.units + n < cLine → SeqAt.EqAt A s v u (D.eqv d e)
  | n, A, s, v, u, .int i, .int j, o1, o2, _, _ => by
    obtain ⟨t, rfl⟩ := o1.int
    obtain ⟨t', rfl⟩ := o2.int
    rw [eqv_int]
    exact SeqAt.EqAt.int_int _ _ _ _
  | n + 1, A, s, v, u, .tup ds, .tup es, o1, o2, hl, hu => by
    obtain ⟨a, vs, rfl, t1, f1⟩ := id o1
    obtain ⟨b, us, rfl, t2, f2⟩ := id o2
    by_cases hab : a = b
    · subst hab
      have e := od_fun (n + 1) _ _ _ _ o1 o2
      rw [e, ord_eqv (n + 1) _ (od_ord (n + 1) _ _ _ o2)]
      exact SeqAt.EqAt.same _
    · have hL : D.likeL ds es = true := by simpa [D.like] using hl
      have R := SeqAt.RcAt.tuples (A := A) (s := s) (e := fun j => D.eqv ((ds[j]?).getD .non) ((es[j]?).getD .non)) t1 t2 (by omega) fun j h1 h2 => by
        obtain ⟨d, g1, p1⟩ := f2_at f1 h1
        obtain ⟨d', g2, p2⟩ := f2_at f2 h2
        rw [g1, g2]
        exact od_eq n A.in1 s _ _ d d' p1 p2 (likeL_get hL g1 g2) (by show A.units + 1 + n < cLine; omega)
      have e1 : vs.toArray.size = ds.length := by rw [List.size_toArray]; exact f1.length
      have e2 : us.toArray.size = es.length := by rw [List.size_toArray]; exact f2.length
      rw [e1, e2, eqvL_range ds es _ fun j d d' g1 g2 => by rw [g1, g2]; rfl] at R
      have q : D.eqv (.tup ds) (.tup es) = D.eqvL ds es := by simp [D.eqv]
      rw [q]
      exact SeqAt.EqAt.of_refs hab R
  | 0, A, s, v, u, .tup ds, e, o1, _, _, _ => o1.elim
  | n, A, s, v, u, .int i, .tup es, _, _, hl, _ => by simp [D.like] at hl
  | n, A, s, v, u, .tup ds, .int j, _, _, hl, _ => by simp [D.like] at hl
  | n, A, s, v, u, .non, e, _, _, hl, _ => by simp [D.like] at hl
  | n, A, s, v, u, .bl _, e, _, _, hl, _ => by simp [D.like] at hl
  | n, A, s, v, u, .str _, e, _, _, hl, _ => by simp [D.like] at hl
  | n, A, s, v, u, .lst _, e, _, _, hl, _ => by simp [D.like] at hl
  | n, A, s, v, u, .scr _, e, _, _, hl, _ => by simp [D.like] at hl
  | n, A, s, v, u, .ref _, e, _, _, hl, _ => by simp [D.like] at hl
  | n, A, s, v, u, .glb _, e, _, _, hl, _ => by simp [D.like] at hl
  | n, A, s, v, u, .exn _, e, _, _, hl, _ => by simp [D.like] at hl
  | n, A, s, v, u, .int i, .non, _, _, hl, _ => by simp [D.like] at hl
  | n, A, s, v, u, .int i, .bl _, _, _, hl, _ => by simp [D.like] at hl
  | n, A, s, v, u, .int i, .str _, _, _, hl, _ => by simp [D.like] at hl
  | n, A, s, v, u, .int i, .lst _, _, _, hl, _ => by simp [D.like] at hl
  | n, A, s, v, u, .int i, .scr _, _, _, hl, _ => by simp [D.like] at hl
  | n, A, s, v, u, .int i, .ref _, _, _, hl, _ => by simp [D.like] at hl
  | n, A, s, v, u, .int i, .glb _, _, _, hl, _ => by simp [D.like] at hl
  | n, A, s, v, u, .int i, .exn _, _, _, hl, _ => by simp [D.like] at hl
  | n, A, s, v, u, .tup ds, .non, _, _, hl, _ => by simp [D.like] at hl
  | n, A, s, v, u, .tup ds, .bl _, _, _, hl, _ => by simp [D.like] at hl
  | n, A, s, v, u, .tup ds, .str _, _, _, hl, _ => by simp [D.like] at hl
  | n, A, s, v, u, .tup ds, .lst _, _, _, hl, _ => by simp [D.like] at hl
  | n, A, s, v, u, .tup ds, .scr _, _, _, hl, _ => by simp [D.like] at hl
  | n, A, s, v, u, .tup ds, .ref _, _, _, hl, _ => by simp [D.like] at hl
  | n, A, s, v, u, .tup ds, .glb _, _, _, hl, _ => by simp [D.like] at hl
  | n, A, s, v, u, .tup ds, .exn _, _, _, hl, _ => by simp [D.like] at hl
/-- the two shapes that compare -/
theorem like_cases {d e : D} (h : D.like d e = true) : (∃ i j, d = .int i ∧ e = .int j) ∨ ∃ ds es, d = .tup ds ∧ e = .tup es ∧ D.likeL ds es = true := by
  cases d <;> cases e <;> simp [D.like] at h
  · exact .inl ⟨_, _, rfl, rfl⟩
  · exact .inr ⟨_, _, rfl, rfl, h⟩
theorem od_lt : ∀ (n : Nat) (A : Around) (s : Shared) (v u : Value) (d e : D), OD n s.heap v d → OD n s.heap u e → D.like d e = true → A.units + n < cLine → Ob.RcOp .Lt A s v u (D.lt d e) := by
  intro n
  induction n with
  | zero =>
    intro A s v u d e o1 o2 hl hu
    rcases like_cases hl with ⟨i, j, rfl, rfl⟩ | ⟨ds, es, rfl, rfl, _⟩
    · obtain ⟨t, rfl⟩ := o1.int
      obtain ⟨t', rfl⟩ := o2.int
      have q : D.lt (.int i) (.int j) = decide (i < j) := by simp [D.lt]
      rw [q]
      exact Ob.RcOp.lt_int _ _ _ _
    · exact o1.elim
  | succ n ih =>
    intro A s v u d e o1 o2 hl hu
    rcases like_cases hl with ⟨i, j, rfl, rfl⟩ | ⟨ds, es, rfl, rfl, hL⟩
    · obtain ⟨t, rfl⟩ := o1.int
      obtain ⟨t', rfl⟩ := o2.int
      have q : D.lt (.int i) (.int j) = decide (i < j) := by simp [D.lt]
      rw [q]
      exact Ob.RcOp.lt_int _ _ _ _
    · obtain ⟨a, vs, rfl, t1, f1⟩ := o1
      obtain ⟨b, us, rfl, t2, f2⟩ := o2
      have R := Ob.RcOp.tuples_lt (A := A) (s := s) (e := fun j => D.eqv ((ds[j]?).getD .non) ((es[j]?).getD .non)) (r := fun j => D.lt ((ds[j]?).getD .non) ((es[j]?).getD .non)) t1 t2 (by omega) (fun j h1 h2 => by
        obtain ⟨d, g1, p1⟩ := f2_at f1 h1
        obtain ⟨d', g2, p2⟩ := f2_at f2 h2
        rw [g1, g2]
        exact od_eq n A.in1 s _ _ d d' p1 p2 (likeL_get hL g1 g2) (by show A.units + 1 + n < cLine; omega)) (fun j h1 h2 _ => by
        obtain ⟨d, g1, p1⟩ := f2_at f1 h1
        obtain ⟨d', g2, p2⟩ := f2_at f2 h2
        rw [g1, g2]
        exact ih A.in1 s _ _ d d' p1 p2 (likeL_get hL g1 g2) (by show A.units + 1 + n < cLine; omega))
      have e1 : vs.toArray.size = ds.length := by rw [List.size_toArray]; exact f1.length
      have e2 : us.toArray.size = es.length := by rw [List.size_toArray]; exact f2.length
      rw [e1, e2, ltL_lex ds es _ _ 0 fun j d d' g1 g2 => by rw [Nat.zero_add, g1, g2]; exact ⟨rfl, fun _ => rfl⟩] at R
      have q : D.lt (.tup ds) (.tup es) = D.ltL ds es := by simp [D.lt]
      rw [q]
      exact R
mutual
theorem eqv_symm : ∀ (d e : D), D.like d e = true → D.eqv d e = D.eqv e d
  | .int i, .int j, _ => by
    rw [eqv_int, eqv_int, Bool.eq_iff_iff, beq_iff_eq, beq_iff_eq]
    exact eq_comm
  | .tup ds, .tup es, h => by
    simp only [D.eqv]
    exact eqvL_symm ds es (by simpa [D.like] using h)
  | .non, e, h => by simp [D.like] at h
  | .bl _, e, h => by simp [D.like] at h
  | .str _, e, h => by simp [D.like] at h
  | .lst _, e, h => by simp [D.like] at h
  | .scr _, e, h => by simp [D.like] at h
  | .ref _, e, h => by simp [D.like] at h
  | .glb _, e, h => by simp [D.like] at h
  | .exn _, e, h => by simp [D.like] at h
  | .int i, .non, h => by simp [D.like] at h
  | .int i, .bl _, h => by simp [D.like] at h
  | .int i, .str _, h => by simp [D.like] at h
  | .int i, .tup _, h => by simp [D.like] at h
  | .int i, .lst _, h => by simp [D.like] at h
  | .int i, .scr _, h => by simp [D.like] at h
  | .int i, .ref _, h => by simp [D.like] at h
  | .int i, .glb _, h => by simp [D.like] at h
  | .int i, .exn _, h => by simp [D.like] at h
  | .tup ds, .non, h => by simp [D.like] at h
  | .tup ds, .bl _, h => by simp [D.like] at h
  | .tup ds, .int _, h => by simp [D.like] at h
  | .tup ds, .str _, h => by simp [D.like] at h
  | .tup ds, .lst _, h => by simp [D.like] at h
  | .tup ds, .scr _, h => by simp [D.like] at h
  | .tup ds, .ref _, h => by simp [D.like] at h
  | .tup ds, .glb _, h => by simp [D.like] at h
  | .tup ds, .exn _, h => by simp [D.like] at h
theorem eqvL_symm : ∀ (ds es : List D), D.likeL ds es = true → D.eqvL ds es = D.eqvL es ds
  | [], [], _ => rfl
  | [], _ :: _, _ => by simp [D.eqvL]
  | _ :: _, [], _ => by simp [D.eqvL]
  | x :: xs, y :: ys, h => by
    simp only [D.likeL, Bool.and_eq_true] at h
    simp only [D.eqvL]
    rw [eqv_symm x y h.1, eqvL_symm xs ys h.2]
end
mutual
theorem like_symm : ∀ {d e : D}, D.like d e = true → D.like e d = true := by
  intro d e h
  cases d <;> cases e <;> simp [D.like] at h ⊢
  exact likeL_symm h
theorem likeL_symm : ∀ {ds es : List D}, D.likeL ds es = true → D.likeL es ds = true
  | [], [], _ => rfl
  | [], _ :: _, _ => by simp [D.likeL]
  | _ :: _, [], _ => by simp [D.likeL]
  | x :: xs, y :: ys, h => by
    simp only [D.likeL, Bool.and_eq_true] at h ⊢
    exact ⟨like_symm h.1, likeL_symm h.2⟩
end
theorem od_gt : ∀ (n : Nat) (A : Around) (s : Shared) (v u : Value) (d e : D), OD n s.heap v d → OD n s.heap u e → D.like d e = true → A.units + n < cLine → Ob.RcOp .Gt A s v u (D.lt e d) := by
  intro n
  induction n with
  | zero =>
    intro A s v u d e o1 o2 hl hu
    rcases like_cases hl with ⟨i, j, rfl, rfl⟩ | ⟨ds, es, rfl, rfl, _⟩
    · obtain ⟨t, rfl⟩ := o1.int
      obtain ⟨t', rfl⟩ := o2.int
      have q : D.lt (.int j) (.int i) = decide (j < i) := by simp [D.lt]
      rw [q]
      exact Ob.RcOp.gt_int _ _ _ _
    · exact o1.elim
  | succ n ih =>
    intro A s v u d e o1 o2 hl hu
    rcases like_cases hl with ⟨i, j, rfl, rfl⟩ | ⟨ds, es, rfl, rfl, hL⟩
    · obtain ⟨t, rfl⟩ := o1.int
      obtain ⟨t', rfl⟩ := o2.int
      have q : D.lt (.int j) (.int i) = decide (j < i) := by simp [D.lt]
      rw [q]
      exact Ob.RcOp.gt_int _ _ _ _
    · obtain ⟨a, vs, rfl, t1, f1⟩ := o1
      obtain ⟨b, us, rfl, t2, f2⟩ := o2
      have R := Ob.RcOp.tuples_gt (A := A) (s := s) (e := fun j => D.eqv ((ds[j]?).getD .non) ((es[j]?).getD .non)) (r := fun j => D.lt ((es[j]?).getD .non) ((ds[j]?).getD .non)) t1 t2 (by omega) (fun j h1 h2 => by
        obtain ⟨d, g1, p1⟩ := f2_at f1 h1
        obtain ⟨d', g2, p2⟩ := f2_at f2 h2
        rw [g1, g2]
        exact od_eq n A.in1 s _ _ d d' p1 p2 (likeL_get hL g1 g2) (by show A.units + 1 + n < cLine; omega)) (fun j h1 h2 _ => by
        obtain ⟨d, g1, p1⟩ := f2_at f1 h1
        obtain ⟨d', g2, p2⟩ := f2_at f2 h2
        rw [g1, g2]
        exact ih A.in1 s _ _ d d' p1 p2 (likeL_get hL g1 g2) (by show A.units + 1 + n < cLine; omega))
      have e1 : vs.toArray.size = ds.length := by rw [List.size_toArray]; exact f1.length
      have e2 : us.toArray.size = es.length := by rw [List.size_toArray]; exact f2.length
      have ez : decide (ds.length > es.length) = decide (es.length < ds.length) := rfl
      rw [e1, e2, ez, Nat.min_comm, ltL_lex es ds _ _ 0 fun j d d' g1 g2 => by rw [Nat.zero_add, g1, g2]; exact ⟨eqv_symm _ _ (likeL_get hL g2 g1), fun _ => rfl⟩] at R
      have q : D.lt (.tup es) (.tup ds) = D.ltL es ds := by simp [D.lt]
      rw [q]
      exact R
section
variable {X : Cx} {A : List Addr} {B H : Hp} {σ : L2.St} {pins : List (Addr × Obj)} {s : Shared}
theorem rvs_od {n : Nat} (ih : ∀ (v : V) (d : D) (u : Value), RV X.K X.mg A B v d → D.ord n d = true → RelV v u → OD n s.heap u d) : ∀ {vs : List V} {ds : List D} {us : List Value}, RVs X.K X.mg A B vs ds → ds.all (D.ord n) = true → Vals vs us → F2 (OD n s.heap) us ds
  | _, _, _, .nil, _, .nil => .nil
  | _, _, _, .cons r t, h, .cons q z => by
    rw [List.all_cons, Bool.and_eq_true] at h
    exact .cons (ih _ _ _ r h.1 q) (rvs_od ih t h.2 z)
theorem RV.od (I : Inv X pins σ H s) (sb : Same B H) : ∀ (n : Nat) (v : V) (d : D) (u : Value), RV X.K X.mg A B v d → D.ord n d = true → RelV v u → OD n s.heap u d := by
  intro n
  induction n with
  | zero =>
    intro v d u r h q
    cases r <;> first | (cases h; done) | skip
    obtain ⟨t, rfl⟩ := q
    exact OD.mkI
  | succ n ih =>
    intro v d u r h q
    cases r with
    | int i =>
      obtain ⟨t, rfl⟩ := q
      exact OD.mkI
    | tup h1 hl h2 =>
      obtain ⟨its, rv, p, _⟩ := I.tuple (Same.seqT sb h1)
      cases q
      exact ⟨_, its, rfl, p, rvs_od ih h2 h rv⟩
    | _ => cases h
theorem RS.od (I : Inv X pins σ H s) (sb : Same B H) {n : Nat} {v : V} {d : D} {u : Value} (r : RS X.K X.mg A B H v d) (h : D.ord (n + 1) d = true) (q : RelV v u) : OD (n + 1) s.heap u d := by
  cases r with
  | int i =>
    obtain ⟨t, rfl⟩ := q
    exact OD.mkI
  | tup h1 hl h2 =>
    obtain ⟨its, rv, p, _⟩ := I.tuple h1
    cases q
    exact ⟨_, its, rfl, p, rvs_od (fun v d u r h q => RV.od I sb n v d u r h q) h2 h rv⟩
  | _ => cases h
end
end TW
/-! TwCmp: comparisons, subscripts, built-ins by values. -/
namespace TW
open PySem PySem.Spec PyProof.Rows L2

/-! ### data as PyData -/
mutual
def toP : D → PyData
  | .non => .none
  | .bl b => .bool b
  | .int i => .int i
  | .str x => .str x
  | .tup xs => .tuple (toPs xs)
  | .lst xs => .list (toPs xs)
  | _ => .none
def toPs : List D → List PyData
  | [] => []
  | x :: xs => toP x :: toPs xs
end
theorem good_canLay : ∀ (n : Nat) (d : D), D.good n d = true → PyData.canLay0 (toP d) = true ∧ (toP d).depth ≤ n := by
  intro n
  induction n with
  | zero =>
    intro d h
    cases d <;> simp [D.good] at h <;> simp [toP, PyData.canLay0, PyData.depth, PyData.strOk]
    intro i hi
    exact h i hi
  | succ n ih =>
    have all : ∀ ds : List D, ds.all (D.good n) = true → PyData.canLayAll0 (toPs ds) = true ∧ PyData.depthAll (toPs ds) ≤ n := by
      intro ds
      induction ds with
      | nil => intro _; exact ⟨by simp [toPs, PyData.canLayAll0], by simp [toPs, PyData.depthAll]⟩
      | cons x xs ihx =>
        intro h
        simp only [List.all_cons, Bool.and_eq_true] at h
        obtain ⟨h1, h2⟩ := ih x h.1
        obtain ⟨h3, h4⟩ := ihx h.2
        refine ⟨by simp only [toPs, PyData.canLayAll0, h1, h3]; rfl, ?_⟩
        simp only [toPs, PyData.depthAll]
        omega
    intro d h
    cases d with
    | tup xs =>
      obtain ⟨h1, h2⟩ := all xs h
      exact ⟨by simp only [toP, PyData.canLay0]; exact h1, by simp only [toP, PyData.depth]; omega⟩
    | lst xs =>
      obtain ⟨h1, h2⟩ := all xs h
      exact ⟨by simp only [toP, PyData.canLay0]; exact h1, by simp only [toP, PyData.depth]; omega⟩
    | str x =>
      simp [D.good] at h
      simp [toP, PyData.canLay0, PyData.depth, PyData.strOk]
      intro i hi
      exact h i hi
    | _ => first
      | (simp [D.good] at h; done)
      | simp [toP, PyData.canLay0, PyData.depth]
theorem good_shaped {d : D} (h : D.good 8 d = true) : SeqAt.shaped (toP d) = true := by
  obtain ⟨h1, h2⟩ := good_canLay 8 d h
  unfold SeqAt.shaped
  rw [h1, decide_eq_true (by omega)]
  rfl
mutual
theorem eqv_toP : ∀ (n : Nat) (d e : D), D.good n d = true → D.good n e = true → PyData.eqv (toP d) (toP e) = D.eqv d e
  | 0, d, e, h1, h2 => by
    cases d <;> simp [D.good] at h1 <;> cases e <;> simp [D.good] at h2 <;> simp [toP, PyData.eqv, D.eqv]
  | n + 1, d, e, h1, h2 => by
    cases d with
    | tup xs =>
      cases e with
      | tup ys =>
        simp only [toP, PyData.eqv, D.eqv]
        exact eqv_toPs n xs ys h1 h2
      | _ => first
        | (simp [D.good] at h2; done)
        | simp [toP, PyData.eqv, D.eqv]
    | lst xs =>
      cases e with
      | lst ys =>
        simp only [toP, PyData.eqv, D.eqv]
        exact eqv_toPs n xs ys h1 h2
      | _ => first
        | (simp [D.good] at h2; done)
        | simp [toP, PyData.eqv, D.eqv]
    | _ =>
      first
        | (simp [D.good] at h1; done)
        | (cases e <;> first
          | (simp [D.good] at h2; done)
          | simp [toP, PyData.eqv, D.eqv])
theorem eqv_toPs : ∀ (n : Nat) (ds es : List D), ds.all (D.good n) = true → es.all (D.good n) = true → PyData.eqvAll (toPs ds) (toPs es) = D.eqvL ds es
  | n, [], [], _, _ => by simp [toPs, PyData.eqvAll, D.eqvL]
  | n, [], _ :: _, _, _ => by simp [toPs, PyData.eqvAll, D.eqvL]
  | n, _ :: _, [], _, _ => by simp [toPs, PyData.eqvAll, D.eqvL]
  | n, x :: xs, y :: ys, h1, h2 => by
    simp only [List.all_cons, Bool.and_eq_true] at h1 h2
    simp only [toPs, PyData.eqvAll, D.eqvL]
    rw [eqv_toP n x y h1.1 h2.1, eqv_toPs n xs ys h1.2 h2.2]
end
section
variable {K : PySem.W.Frag} {mg : Str → Option Value} {A : List Addr} {B F H : Hp} {st : Store}
mutual
theorem RV.dp (sb : Same B H) : ∀ (n : Nat) {v : V} {d : D}, D.good n d = true → RV K mg A B v d → Dp K H v (toP d)
  | _, _, _, _, .non => .non
  | _, _, _, _, .bl b => .bl b
  | _, _, _, _, .int i => .int i
  | _, _, _, _, .str x => .str x
  | n + 1, _, _, h, .tup h1 _ hs => .tup (Same.seqT sb h1) (RVs.dp sb n h hs)
  | n + 1, _, _, h, .lst h1 _ hs => .lst (SqL.of (sb _ _ h1)) (RVs.dp sb n h hs)
  | 0, _, _, h, .tup _ _ _ => by simp [D.good] at h
  | 0, _, _, h, .lst _ _ _ => by simp [D.good] at h
  | n, _, _, h, .scr _ _ => by cases n <;> simp [D.good] at h
  | n, _, _, h, .ref _ => by cases n <;> simp [D.good] at h
  | n, _, _, h, .glb _ => by cases n <;> simp [D.good] at h
theorem RVs.dp (sb : Same B H) : ∀ (n : Nat) {vs : List V} {ds : List D}, ds.all (D.good n) = true → RVs K mg A B vs ds → DpAll K H vs (toPs ds)
  | _, _, _, _, .nil => .nil
  | n, _, _, h, .cons r t => by
    simp only [List.all_cons, Bool.and_eq_true] at h
    exact .cons (RV.dp sb n h.1 r) (RVs.dp sb n h.2 t)
end
theorem RS.dp {n : Nat} {v : V} {d : D} (sb : Same B H) (h : D.good n d = true) (r : RS K mg A B H v d) : Dp K H v (toP d) := by
  cases r with
  | non => exact .non
  | bl b => exact .bl b
  | int i => exact .int i
  | str x => exact .str x
  | tup h1 hl hs =>
    cases n with
    | zero => simp [D.good] at h
    | succ n => exact .tup h1 (RVs.dp sb n h hs)
  | lst h1 hl hs =>
    cases n with
    | zero => simp [D.good] at h
    | succ n => exact .lst h1 (RVs.dp sb n h hs)
  | ref _ => cases n <;> simp [D.good] at h
  | glb _ => cases n <;> simp [D.good] at h
end

/-! ### comparisons -/
theorem op_inT {X : Cx} (hu : X.A.units + 65 < cLine) : OpR X (compareOp .In) (fun x y H Q => ∃ d ds, Dp X.K H x d ∧ Dp X.K H y (.tuple ds) ∧ SeqAt.shaped d = true ∧ SeqAt.shaped (.tuple ds) = true ∧ Q (.bl (ds.any fun z => PyData.eqv z d)) H) := by
  intro pins s σ H x y v u Q I rx ry h
  obtain ⟨d, ds, hd, he, sd, se, q⟩ := h
  obtain ⟨as, r1⟩ := Dp.reads I d x v hd rx
  obtain ⟨bs, r2⟩ := Dp.reads I (.tuple ds) y u he ry
  exact SeqAt.in_tuple_reads r2 r1 (SeqAt.canLay_of_shaped se) (SeqAt.canLay_of_shaped sd) (room_in_shaped sd hu) ⟨.bl _, H, I, rfl, q⟩
theorem op_notInT {X : Cx} (hu : X.A.units + 65 < cLine) : OpR X (compareOp .NotIn) (fun x y H Q => ∃ d ds, Dp X.K H x d ∧ Dp X.K H y (.tuple ds) ∧ SeqAt.shaped d = true ∧ SeqAt.shaped (.tuple ds) = true ∧ Q (.bl (!ds.any fun z => PyData.eqv z d)) H) := by
  intro pins s σ H x y v u Q I rx ry h
  obtain ⟨d, ds, hd, he, sd, se, q⟩ := h
  obtain ⟨as, r1⟩ := Dp.reads I d x v hd rx
  obtain ⟨bs, r2⟩ := Dp.reads I (.tuple ds) y u he ry
  exact SeqAt.notIn_tuple_reads r2 r1 (SeqAt.canLay_of_shaped se) (SeqAt.canLay_of_shaped sd) (room_in_shaped sd hu) ⟨.bl _, H, I, rfl, q⟩

section
variable {X : Cx} {W : XK} {A : List Addr} {B F H : Hp} {st : Store} {σ : L2.St} {Q : VK}
theorem any_toPs (n : Nat) (d : D) (h : D.good n d = true) : ∀ ds : List D, ds.all (D.good n) = true → ((toPs ds).any fun z => PyData.eqv z (toP d)) = inL d ds
  | [], _ => rfl
  | x :: xs, hx => by
    simp only [List.all_cons, Bool.and_eq_true] at hx
    unfold inL
    simp only [toPs, List.any_cons]
    rw [eqv_toP n x d hx.1 h, any_toPs n d h xs hx.2]
    rfl
theorem good_mono : ∀ (n : Nat) (d : D), D.good n d = true → D.good (n + 1) d = true
  | 0, d, h => by cases d <;> simp [D.good] at h ⊢ <;> first | exact h | skip
  | n + 1, d, h => by
    cases d with
    | tup xs =>
      show xs.all (D.good (n + 1)) = true
      have h' : xs.all (D.good n) = true := h
      rw [List.all_eq_true] at h' ⊢
      exact fun x hx => good_mono n x (h' x hx)
    | lst xs =>
      show xs.all (D.good (n + 1)) = true
      have h' : xs.all (D.good n) = true := h
      rw [List.all_eq_true] at h' ⊢
      exact fun x hx => good_mono n x (h' x hx)
    | _ => simp [D.good] at h ⊢ <;> first | exact h | skip
theorem isop_ok {b : Bool} {x y : V} {dx dy : D} (rx : RS X.K X.mg A B H x dx) (ry : RS X.K X.mg A B H y dy) (e : isop dx dy = some b) : (y = .non ∧ b = decide (x = .non)) ∨ ∃ p q, x = .bl p ∧ y = .bl q ∧ b = decide (p = q) := by
  cases ry with
  | non =>
    refine .inl ⟨rfl, ?_⟩
    cases rx <;> simp [isop] at e <;> simp [← e]
  | bl q =>
    cases rx with
    | bl p =>
      refine .inr ⟨p, q, rfl, rfl, ?_⟩
      simp [isop] at e
      simp [← e]
    | _ => simp [isop] at e
  | _ => cases rx <;> simp [isop] at e
theorem lt_ok (hu : X.A.units + 65 < cLine) (sb : Same B H) {b : Bool} {x y : V} {dx dy : D} (rx : RS X.K X.mg A B H x dx) (ry : RS X.K X.mg A B H y dy) (e : ltop dx dy = some b) (q : Q (.bl b) H) : opSem X (compareOp .Lt) x y H Q := by
  unfold ltop at e
  split at e
  · cases rx; cases ry
    cases e
    exact opSem_of op_lt ⟨_, _, rfl, rfl, q⟩
  · rename_i xs ys
    split at e
    · rename_i hc
      simp only [Bool.and_eq_true] at hc
      cases e
      intro pins s σ v u I r1 r2
      have hl : D.like (.tup xs) (.tup ys) = true := by simp only [D.like]; exact hc.2
      have R := od_lt 4 X.A s v u _ _ (rx.od I sb hc.1.1 r1) (ry.od I sb hc.1.2 r2) hl (by omega)
      have qe : D.lt (.tup xs) (.tup ys) = D.ltL xs ys := by simp only [D.lt]
      rw [qe] at R
      exact R X.prog X.w X.xe (EP X pins σ Q) ⟨.bl _, H, I, rfl, q⟩
    · cases e
  · cases e
theorem gt_ok (hu : X.A.units + 65 < cLine) (sb : Same B H) {b : Bool} {x y : V} {dx dy : D} (rx : RS X.K X.mg A B H x dx) (ry : RS X.K X.mg A B H y dy) (e : ltop dy dx = some b) (q : Q (.bl b) H) : opSem X (compareOp .Gt) x y H Q := by
  unfold ltop at e
  split at e
  · cases rx; cases ry
    cases e
    exact opSem_of op_gt ⟨_, _, rfl, rfl, q⟩
  · rename_i ys xs
    split at e
    · rename_i hc
      simp only [Bool.and_eq_true] at hc
      cases e
      intro pins s σ v u I r1 r2
      have hl : D.like (.tup xs) (.tup ys) = true := like_symm (by simp only [D.like]; exact hc.2)
      have R := od_gt 4 X.A s v u _ _ (rx.od I sb hc.1.2 r1) (ry.od I sb hc.1.1 r2) hl (by omega)
      have qe : D.lt (.tup ys) (.tup xs) = D.ltL ys xs := by simp only [D.lt]
      rw [qe] at R
      exact R X.prog X.w X.xe (EP X pins σ Q) ⟨.bl _, H, I, rfl, q⟩
    · cases e
  · cases e
theorem cmpop_ok (hu : X.A.units + 65 < cLine) {o : CmpOp} {b : Bool} {x y : V} {dx dy : D} (rx : RV X.K X.mg A B x dx) (ry : RV X.K X.mg A B y dy) (s : SR X.K X.mg A B F H st)
    (e : cmpop o (rd st dx) (rd st dy) = some b) (q : Q (.bl b) H) : opSem X (compareOp o) x y H Q := by
  have hx := rx.rs s
  have hy := ry.rs s
  have sb := s.sb
  generalize rd st dx = gx at e hx
  generalize rd st dy = gy at e hy
  unfold cmpop at e
  split at e
  · split at e
    · rename_i hg
      simp only [Bool.and_eq_true] at hg
      cases e
      refine opSem_of (op_eqD (by omega)) ⟨_, _, hx.dp sb hg.1, hy.dp sb hg.2, good_shaped hg.1, good_shaped hg.2, ?_⟩
      rw [eqv_toP 8 _ _ hg.1 hg.2]
      exact q
    · cases e
  · split at e
    · rename_i hg
      simp only [Bool.and_eq_true] at hg
      cases e
      refine opSem_of (op_neD (by omega)) ⟨_, _, hx.dp sb hg.1, hy.dp sb hg.2, good_shaped hg.1, good_shaped hg.2, ?_⟩
      rw [eqv_toP 8 _ _ hg.1 hg.2]
      exact q
    · cases e
  · exact lt_ok hu sb hx hy e q
  · exact gt_ok hu sb hx hy e q
  · split at e
    · cases hx; cases hy
      cases e
      exact opSem_of op_le ⟨_, _, rfl, rfl, q⟩
    · cases e
  · split at e
    · cases hx; cases hy
      cases e
      exact opSem_of op_ge ⟨_, _, rfl, rfl, q⟩
    · cases e
  · rcases isop_ok hx hy e with ⟨rfl, rfl⟩ | ⟨p, r, rfl, rfl, rfl⟩
    · exact opSem_of op_isN ⟨rfl, q⟩
    · exact opSem_of op_isBl ⟨p, r, rfl, rfl, q⟩
  · cases e2 : isop gx gy with
    | none => rw [e2] at e; cases e
    | some c =>
      rw [e2] at e
      cases e
      rcases isop_ok hx hy e2 with ⟨rfl, rfl⟩ | ⟨p, r, rfl, rfl, rfl⟩
      · exact opSem_of op_notN ⟨rfl, q⟩
      · exact opSem_of op_notBl ⟨p, r, rfl, rfl, q⟩
  · split at e
    · rename_i ys
      split at e
      · rename_i hg
        simp only [Bool.and_eq_true] at hg
        cases e
        have hl : ys.all (D.good 8) = true := by
          have h' : ys.all (D.good 7) = true := hg.2
          rw [List.all_eq_true] at h' ⊢
          exact fun z hz => good_mono 7 z (h' z hz)
        refine opSem_of (op_inD hu) ⟨_, toPs ys, hx.dp sb hg.1, hy.dp sb hg.2, good_shaped hg.1, good_shaped hg.2, ?_⟩
        rw [any_toPs 8 _ hg.1 _ hl]
        exact q
      · cases e
    · rename_i ys
      split at e
      · rename_i hg
        simp only [Bool.and_eq_true] at hg
        cases e
        have hl : ys.all (D.good 8) = true := by
          have h' : ys.all (D.good 7) = true := hg.2
          rw [List.all_eq_true] at h' ⊢
          exact fun z hz => good_mono 7 z (h' z hz)
        refine opSem_of (op_inT hu) ⟨_, toPs ys, hx.dp sb hg.1, hy.dp sb hg.2, good_shaped hg.1, good_shaped hg.2, ?_⟩
        rw [any_toPs 8 _ hg.1 _ hl]
        exact q
      · cases e
    · cases e
  · split at e
    · rename_i ys
      split at e
      · rename_i hg
        simp only [Bool.and_eq_true] at hg
        cases e
        have hl : ys.all (D.good 8) = true := by
          have h' : ys.all (D.good 7) = true := hg.2
          rw [List.all_eq_true] at h' ⊢
          exact fun z hz => good_mono 7 z (h' z hz)
        refine opSem_of (op_notInD hu) ⟨_, toPs ys, hx.dp sb hg.1, hy.dp sb hg.2, good_shaped hg.1, good_shaped hg.2, ?_⟩
        rw [any_toPs 8 _ hg.1 _ hl]
        exact q
      · cases e
    · rename_i ys
      split at e
      · rename_i hg
        simp only [Bool.and_eq_true] at hg
        cases e
        have hl : ys.all (D.good 8) = true := by
          have h' : ys.all (D.good 7) = true := hg.2
          rw [List.all_eq_true] at h' ⊢
          exact fun z hz => good_mono 7 z (h' z hz)
        refine opSem_of (op_notInT hu) ⟨_, toPs ys, hx.dp sb hg.1, hy.dp sb hg.2, good_shaped hg.1, good_shaped hg.2, ?_⟩
        rw [any_toPs 8 _ hg.1 _ hl]
        exact q
      · cases e
    · cases e

/-! ### subscripts -/
theorem pick_atI {α : Type} {xs : List α} {k : Int} {v : α} (h : pick xs k = some v) : atI xs k = some v := by
  unfold pick at h
  unfold atI ixN
  split at h
  · rename_i h0
    have hlt := (List.getElem?_eq_some_iff.mp h).1
    rw [if_pos h0, if_pos (by omega)]
    exact h
  · rename_i h0
    split at h
    · rename_i h1
      rw [if_neg h0, if_pos h1]
      exact h
    · cases h
theorem pick_len {α β : Type} {xs : List α} {ys : List β} {k : Int} {y : β} (hl : xs.length = ys.length) (h : pick ys k = some y) : ∃ j : Nat, ys[j]? = some y ∧ ∀ x, xs[j]? = some x → pick xs k = some x := by
  unfold pick at h
  split at h
  · rename_i h0
    refine ⟨k.toNat, h, fun x hx => ?_⟩
    unfold pick
    rw [if_pos h0]
    exact hx
  · rename_i h0
    split at h
    · rename_i h1
      refine ⟨_, h, fun x hx => ?_⟩
      unfold pick
      rw [if_neg h0, hl, if_pos h1]
      exact hx
    · cases h
theorem RVs.pick {K : PySem.W.Frag} {mg : Str → Option Value} {vs : List V} {ds : List D} {k : Int} {d : D} (r : RVs K mg A B vs ds) (h : pick ds k = some d) : ∃ v, TW.pick vs k = some v ∧ RV K mg A B v d := by
  obtain ⟨j, h1, h2⟩ := pick_len r.length h
  obtain ⟨v, h3, h4⟩ := r.get h1
  exact ⟨v, h2 v h3, h4⟩
theorem idxop_ok {x y : V} {dx dy : D} (rx : RV X.K X.mg A B x dx) (ry : RV X.K X.mg A B y dy) (s : SR X.K X.mg A B F H st)
    (hp : Post X W A B F Q (ofO (idxop (rd st dx) dy) st)) : ixSem X x y H Q := by
  have hx := rx.rs s
  generalize rd st dx = gx at hp hx
  unfold idxop at hp
  split at hp
  · rename_i ds k
    cases ry
    cases hx with
    | tup h1 hl h2 =>
      cases e : pick ds k with
      | none => rw [e] at hp; exact hp.elim
      | some d =>
        rw [e] at hp
        obtain ⟨v, hv, rv⟩ := h2.pick e
        exact ixSem_of ix_tup ⟨_, _, _, v, rfl, rfl, h1, pick_atI hv, hp.here rv s⟩
  · rename_i ds k
    cases ry
    cases hx with
    | lst h1 hl h2 =>
      cases e : pick ds k with
      | none => rw [e] at hp; exact hp.elim
      | some d =>
        rw [e] at hp
        obtain ⟨v, hv, rv⟩ := h2.pick e
        exact ixSem_of ix_list ⟨_, _, _, v, rfl, rfl, h1, pick_atI hv, hp.here rv s⟩
  · exact hp.elim
theorem clip_sIx (n d : Nat) (o : Option Int) : HT.sIx n d o = clip n d o := by
  cases o with
  | none => rfl
  | some v =>
    have h := HT.clip_eq v n d
    show HT.sIx n d (some v) = if v < 0 then (v + n).toNat else min v.toNat n
    split
    · rename_i hv
      rw [if_pos hv] at h
      omega
    · rename_i hv
      rw [if_neg hv] at h
      omega
theorem RVs.cut {K : PySem.W.Frag} {mg : Str → Option Value} {vs : List V} {ds : List D} (r : RVs K mg A B vs ds) (lo hi : Option Int) : RVs K mg A B (cutV vs lo hi) (cut ds lo hi) := by
  unfold cutV TW.cut
  rw [clip_sIx, clip_sIx, r.length]
  exact (r.drop _).take _
def slSem (X : Cx) : V → Option Int → Option Int → Hp → VK → Prop := fun x lo hi H Q => ∀ (pins : List (Addr × Obj)) (s : Shared) (σ : L2.St) (v vl vu : Value) (sl : Addr), Inv X pins σ H s → RelV x v → s.heap.IsSliceOf sl vl vu .none → IsPart vl lo → IsPart vu hi →
    ∃ T id, typeLookup (.type T) "__getitem__" = pure (some (.builtin id)) ∧ s.TypeIs v T ∧ wpAny (model X.prog X.w) X.A (getItem v (.ref sl)) (EP X pins σ Q) X.xe s
theorem slr_sem : SlR X (slSem X) := fun pins s σ _ _ v vl vu _ _ sl _ I rx hs pl pu h => h pins s σ v vl vu sl I rx hs pl pu
theorem slSem_of {r : V → Option Int → Option Int → Hp → VK → Prop} (h : SlR X r) {x : V} {lo hi : Option Int} (q : r x lo hi H Q) : slSem X x lo hi H Q := fun pins s σ v vl vu sl I rx hs pl pu => h pins s σ H x v vl vu lo hi sl Q I rx hs pl pu q
theorem slcop_ok {x : V} {dx : D} {lo hi : Option Int} (rx : RV X.K X.mg A B x dx) (s : SR X.K X.mg A B F H st)
    (hp : Post X W A B F Q (ofO (slcop (der st dx) lo hi) st)) : slSem X x lo hi H Q := by
  have hx := rx.rh s
  have ex : ∀ ds, der st dx = .tup ds → dx = .tup ds := fun ds h => der_tup_inv h
  generalize der st dx = gx at hp hx ex
  unfold slcop at hp
  split at hp
  · rename_i ds
    have tx := ex _ rfl
    subst tx
    cases hx with
    | tup h1 hl h2 =>
      refine slSem_of sl_tupA ⟨_, _, rfl, h1, fun hw => ?_, fun _ p np => hp.newT s (h2.cut lo hi) (Nat.le_trans (cutV_length _ lo hi) hl) np⟩
      have e : cut ds lo hi = ds := by
        unfold cut
        rw [clip_sIx, clip_sIx, h2.length] at hw
        rw [hw.1, hw.2]
        simp
      rw [e] at hp
      exact hp.here rx s
  · cases hx with
    | lst h1 hl h2 => exact slSem_of sl_list ⟨_, _, rfl, SqL.of h1, fun p np => hp.newL s (h2.cut lo hi) (Nat.le_trans (cutV_length _ lo hi) hl) np⟩
  · exact hp.elim
end
end TW
/-! TwSrt: least, greatest, sum, sorted. -/
namespace TW
open PySem PySem.Spec PyProof.Rows L2
/-! ### data in order, as PyData -/
theorem ord_good : ∀ (n : Nat) (d : D), D.ord n d = true → D.good n d = true := by
  intro n
  induction n with
  | zero => intro d h; cases d <;> first | (cases h; done) | rfl
  | succ n ih =>
    intro d h
    cases d with
    | int i => rfl
    | tup xs =>
      have h' : xs.all (D.ord n) = true := h
      show xs.all (D.good n) = true
      rw [List.all_eq_true] at h' ⊢
      exact fun x hx => ih x (h' x hx)
    | _ => cases h
theorem toPs_map : ∀ ds : List D, toPs ds = ds.map toP
  | [] => rfl
  | d :: ds => by simp only [toPs, List.map_cons, toPs_map ds]
theorem lex_nil_nil : PyProof.Rows.lexLt PyProof.Rows.itemOrd (PySem.W.keyToksAll []) (PySem.W.keyToksAll []) = false := PyProof.Rows.lex_irrefl _
theorem lt_toP : ∀ (n : Nat) (d e : D), D.ord n d = true → D.ord n e = true → D.like d e = true → PySem.W.alike (toP d) (toP e) = true ∧ PySem.W.dataLt (toP d) (toP e) = D.lt d e := by
  intro n
  induction n with
  | zero =>
    intro d e h1 h2 hl
    rcases like_cases hl with ⟨i, j, rfl, rfl⟩ | ⟨ds, es, rfl, rfl, _⟩
    · refine ⟨by simp [toP, PySem.W.alike], ?_⟩
      simp only [toP, D.lt]
      exact PySem.W.dataLt_int i j
    · cases h1
  | succ n ih =>
    intro d e h1 h2 hl
    rcases like_cases hl with ⟨i, j, rfl, rfl⟩ | ⟨ds, es, rfl, rfl, hL⟩
    · refine ⟨by simp [toP, PySem.W.alike], ?_⟩
      simp only [toP, D.lt]
      exact PySem.W.dataLt_int i j
    · have a1 : ds.all (D.ord n) = true := h1
      have a2 : es.all (D.ord n) = true := h2
      clear h1 h2 hl
      have main : ∀ (ds es : List D), ds.all (D.ord n) = true → es.all (D.ord n) = true → D.likeL ds es = true → PySem.W.alikeAll (toPs ds) (toPs es) = true ∧ PyProof.Rows.lexLt PyProof.Rows.itemOrd (PySem.W.keyToksAll (toPs ds)) (PySem.W.keyToksAll (toPs es)) = D.ltL ds es := by
        intro ds
        induction ds with
        | nil =>
          intro es _ _ _
          cases es with
          | nil => exact ⟨by simp [toPs, PySem.W.alikeAll], by simp only [toPs, D.ltL]; exact lex_nil_nil⟩
          | cons y ys =>
            refine ⟨by simp [toPs, PySem.W.alikeAll], ?_⟩
            simp only [toPs, D.ltL, PySem.W.keyToksAll]
            rw [PyProof.Rows.lex_true]
            exact .inl rfl
        | cons x xs ihx =>
          intro es b1 b2 hL
          cases es with
          | nil =>
            refine ⟨by simp [toPs, PySem.W.alikeAll], ?_⟩
            simp only [toPs, D.ltL, PySem.W.keyToksAll]
            rw [PyProof.Rows.lex_false]
            exact ⟨rfl, .inl rfl⟩
          | cons y ys =>
            rw [List.all_cons, Bool.and_eq_true] at b1 b2
            simp only [D.likeL, Bool.and_eq_true] at hL
            obtain ⟨p1, p2⟩ := ih x y b1.1 b2.1 hL.1
            obtain ⟨q1, q2⟩ := ihx ys b1.2 b2.2 hL.2
            refine ⟨by simp only [toPs, PySem.W.alikeAll, p1, q1, Bool.and_self], ?_⟩
            simp only [toPs, D.ltL]
            have ev := eqv_toP n x y (ord_good n x b1.1) (ord_good n y b2.1)
            cases he : D.eqv x y with
            | true => rw [PySem.W.dataLt_all_yes p1 (by rw [ev, he]), q2]; rfl
            | false => rw [PySem.W.dataLt_all_no p1 (by rw [ev, he]), p2]; rfl
      obtain ⟨m1, m2⟩ := main ds es a1 a2 hL
      refine ⟨by simp only [toP, PySem.W.alike]; exact m1, ?_⟩
      simp only [toP, D.lt]
      rw [PySem.W.dataLt_tuple]
      exact m2
theorem toP_inj : ∀ (n : Nat) (d e : D), D.ord n d = true → D.ord n e = true → toP d = toP e → d = e := by
  intro n
  induction n with
  | zero =>
    intro d e h1 h2 h
    cases d <;> first | (cases h1; done) | skip
    cases e <;> first | (cases h2; done) | skip
    simp [toP] at h
    rw [h]
  | succ n ih =>
    intro d e h1 h2 h
    have main : ∀ (ds es : List D), ds.all (D.ord n) = true → es.all (D.ord n) = true → toPs ds = toPs es → ds = es := by
      intro ds
      induction ds with
      | nil => intro es _ _ h; cases es with
        | nil => rfl
        | cons => simp [toPs] at h
      | cons x xs ihx =>
        intro es b1 b2 h
        cases es with
        | nil => simp [toPs] at h
        | cons y ys =>
          rw [List.all_cons, Bool.and_eq_true] at b1 b2
          simp only [toPs, List.cons.injEq] at h
          rw [ih x y b1.1 b2.1 h.1, ihx ys b1.2 b2.2 h.2]
    cases d with
    | int i =>
      cases e with
      | int j => simp [toP] at h; rw [h]
      | tup es => simp [toP] at h
      | _ => cases h2
    | tup ds =>
      cases e with
      | int j => simp [toP] at h
      | tup es =>
        simp only [toP, PyData.tuple.injEq] at h
        rw [main ds es h1 h2 h]
      | _ => cases h2
    | _ => cases h1
theorem ord_depth {n : Nat} {d : D} (h : D.ord n d = true) : (toP d).depth ≤ n := (good_canLay n d (ord_good n d h)).2
/-! ### read off the heap -/
theorem od_reads : ∀ (n : Nat) (h : Heap) (v : Value) (d : D), OD n h v d → ∃ as, Reads h v (toP d) as := by
  intro n
  induction n with
  | zero =>
    intro h v d o
    cases d with
    | int i =>
      obtain ⟨t, rfl⟩ := o.int
      exact ⟨_, .int i t⟩
    | _ => exact o.elim
  | succ n ih =>
    intro h v d o
    cases d with
    | int i =>
      obtain ⟨t, rfl⟩ := o.int
      exact ⟨_, .int i t⟩
    | tup ds =>
      obtain ⟨a, vs, rfl, ⟨o, g1, g2, k, g3⟩, f⟩ := o
      have main : ∀ (vs : List Value) (ds : List D), F2 (OD n h) vs ds → ∃ as, ReadsAll h vs (toPs ds) as := by
        intro vs
        induction vs with
        | nil => intro ds f; cases f; exact ⟨_, .nil⟩
        | cons v vs ihv =>
          intro ds f
          cases f with
          | cons p f =>
            obtain ⟨as, r⟩ := ih h v _ p
            obtain ⟨bs, t⟩ := ihv _ f
            exact ⟨_, .cons r t⟩
      obtain ⟨as, r⟩ := main vs ds f
      exact ⟨as, .tuple g1 g2 g3 (by simpa using r)⟩
    | _ => exact o.elim
theorem od_readsAll {n : Nat} {h : Heap} : ∀ {vs : List Value} {ds : List D}, F2 (OD n h) vs ds → ∃ as, ReadsAll h vs (toPs ds) as
  | _, _, .nil => ⟨_, .nil⟩
  | _, _, .cons p f => by
    obtain ⟨as, r⟩ := od_reads n h _ _ p
    obtain ⟨bs, t⟩ := od_readsAll f
    exact ⟨_, .cons r t⟩
theorem likeAll_ord {xs : List D} (h : likeAll xs = true) : xs.all (D.ord 4) = true ∧ ∀ x ∈ xs, ∀ y ∈ xs, D.like x y = true := by
  unfold likeAll at h
  rw [Bool.and_eq_true] at h
  exact ⟨h.1, fun x hx y hy => List.all_eq_true.mp (List.all_eq_true.mp h.2 x hx) y hy⟩
theorem likeAll_alike {xs : List D} (h : likeAll xs = true) : PySem.W.AlikeAll (toPs xs) := by
  obtain ⟨h1, h2⟩ := likeAll_ord h
  rw [List.all_eq_true] at h1
  rw [toPs_map]
  refine ⟨fun p hp q hq => ?_, fun p hp z => ?_⟩
  · obtain ⟨x, hx, rfl⟩ := List.mem_map.mp hp
    obtain ⟨y, hy, rfl⟩ := List.mem_map.mp hq
    exact (lt_toP 4 x y (h1 x hx) (h1 y hy) (h2 x hx y hy)).1
  · obtain ⟨x, hx, rfl⟩ := List.mem_map.mp hp
    have := h1 x hx
    cases x <;> first | (cases this; done) | (simp [toP] at z)
theorem depthAll_le {n : Nat} : ∀ {xs : List D}, xs.all (D.ord n) = true → PyData.depthAll (toPs xs) ≤ n
  | [], _ => by simp [toPs, PyData.depthAll]
  | x :: xs, h => by
    rw [List.all_cons, Bool.and_eq_true] at h
    have h1 := ord_depth h.1
    have h2 := depthAll_le h.2
    simp only [toPs, PyData.depthAll]
    omega
theorem min_toP : ∀ (r : List D) (x : D), (∀ a ∈ x :: r, D.ord 4 a = true) → (∀ a ∈ x :: r, ∀ b ∈ x :: r, D.like a b = true) →
    toP (r.foldl (fun a b => if D.lt b a then b else a) x) = PySem.W.minD (toP x) (toPs r) ∧ r.foldl (fun a b => if D.lt b a then b else a) x ∈ x :: r
  | [], x, _, _ => ⟨rfl, List.mem_cons_self⟩
  | y :: r, x, ho, hl => by
    have e : PySem.W.dataLt (toP y) (toP x) = D.lt y x := (lt_toP 4 y x (ho y (by simp)) (ho x (by simp)) (hl y (by simp) x (by simp))).2
    unfold PySem.W.minD
    simp only [List.foldl_cons, toPs]
    rw [e]
    cases h : D.lt y x with
    | true =>
      simp only [if_true]
      obtain ⟨p, q⟩ := min_toP r y (fun a ha => ho a (by rcases List.mem_cons.mp ha with rfl | z; simp; simp [z])) (fun a ha b hb => hl a (by rcases List.mem_cons.mp ha with rfl | z; simp; simp [z]) b (by rcases List.mem_cons.mp hb with rfl | z; simp; simp [z]))
      exact ⟨p, List.mem_cons_of_mem _ q⟩
    | false =>
      simp only [Bool.false_eq_true, if_false]
      obtain ⟨p, q⟩ := min_toP r x (fun a ha => ho a (by rcases List.mem_cons.mp ha with rfl | z; simp; simp [z])) (fun a ha b hb => hl a (by rcases List.mem_cons.mp ha with rfl | z; simp; simp [z]) b (by rcases List.mem_cons.mp hb with rfl | z; simp; simp [z]))
      refine ⟨p, ?_⟩
      rcases List.mem_cons.mp q with z | z
      · rw [z]; simp
      · exact List.mem_cons_of_mem _ (List.mem_cons_of_mem _ z)
section
variable {X : Cx} {W : XK} {A : List Addr} {B F H : Hp} {st : Store} {Q : VK}
theorem F2.ofVals {vs : List V} {us : List Value} (r : Vals vs us) {j : Nat} {v : Value} (h : us[j]? = some v) : ∃ x, vs[j]? = some x ∧ RelV x v := by
  have hl := r.length
  have hj : j < vs.length := by rw [hl]; exact (List.getElem?_eq_some_iff.mp h).1
  obtain ⟨u, hu, ru⟩ := r.get (List.getElem?_eq_getElem hj)
  rw [h] at hu
  cases hu
  exact ⟨_, List.getElem?_eq_getElem hj, ru⟩
/-- min of a list of data in order -/
theorem min_ok (hc : X.calm = true) (hu : X.A.units + 65 < cLine) (sb : Same B H) {a : Addr} {vs : List V} {xs : List D} {m : D} (h1 : SqL X.K H a vs) (h2 : RVs X.K X.mg A B vs xs) (hk : likeAll xs = true) (e : minD xs = some m) (q : ∀ v, RV X.K X.mg A B v m → Q v H) :
    callSem X (.builtin "min") [.ref a] H Q := by
  intro pins s σ us I r
  rw [Vals.ref1 r]
  obtain ⟨its, rv, hl, _⟩ := I.list h1
  obtain ⟨ho, hlk⟩ := likeAll_ord hk
  have f : F2 (OD 4 s.heap) its xs := rvs_od (fun v d u r h q => RV.od I sb 4 v d u r h q) h2 ho rv
  cases xs with
  | nil => cases e
  | cons x r =>
    obtain ⟨as, hr⟩ := od_readsAll f
    rw [List.all_eq_true] at ho
    obtain ⟨m1, m2⟩ := min_toP r x ho hlk
    have em : r.foldl (fun a b => if D.lt b a then b else a) x = m := Option.some.inj e
    rw [em] at m1 m2
    refine PySem.W.min_list_data (I.ok.hd hc) hl.isList (x := toP x) (xs := toPs r) (as := as) (by simpa [toPs] using hr) (by simpa [toPs] using likeAll_alike hk) ?_ fun i v h' tk bs hv hR hkp => ?_
    · have := depthAll_le (n := 4) (xs := x :: r) (List.all_eq_true.mpr ho)
      simp only [toPs] at this
      omega
    · have hv' : its[i]? = some v := by simpa using hv
      obtain ⟨y, hy, ry⟩ := F2.ofVals rv hv'
      obtain ⟨d, hd, rd⟩ := h2.get' hy
      obtain ⟨as', r1⟩ := od_reads 4 s.heap v d (f.get hv' hd)
      have r2 := PyProof.Rows.Reads.keeps hkp r1
      rw [← m1] at hR
      have hdm := List.mem_of_getElem? hd
      have ed := PySem.W.alike_unique _ _ v _ _ (lt_toP 4 d m (ho d hdm) (ho m m2) (hlk d hdm m m2)).1 r2 hR
      have := toP_inj 4 d m (ho d hdm) (ho m m2) ed
      subst this
      exact ⟨y, H, I.kept hkp, ry, q y rd⟩
/-! ### a tuple of ints -/
theorem ints_reads {h : Heap} : ∀ {its : List Value} {ns : List Int}, IntsAre its ns → ∃ as, ReadsAll h its (ns.map PyData.int) as := by
  intro its ns hi
  have := hi
  induction its generalizing ns with
  | nil =>
    have : ns = [] := List.eq_nil_of_length_eq_zero (by rw [← hi.length]; rfl)
    subst this
    exact ⟨_, .nil⟩
  | cons v its ih =>
    cases ns with
    | nil => have := hi.length; simp at this
    | cons n ns =>
      cases hi with
      | cons t h2 =>
        rename_i h2
        obtain ⟨as, r⟩ := ih h2 h2
        exact ⟨_, .cons (.int _ _) r⟩
theorem min_int : ∀ (r : List Int) (x : Int), PySem.W.minD (.int x) (r.map PyData.int) = .int (r.foldl (fun a b => if b < a then b else a) x)
  | [], x => rfl
  | y :: r, x => by
    unfold PySem.W.minD
    simp only [List.map_cons, List.foldl_cons, PySem.W.dataLt_int]
    by_cases h : y < x
    · simp only [h, decide_true, if_true]; exact min_int r y
    · simp only [h, decide_false, Bool.false_eq_true, if_false]; exact min_int r x
theorem max_int : ∀ (r : List Int) (x : Int), PySem.W.maxD (.int x) (r.map PyData.int) = .int (r.foldl (fun a b => if b > a then b else a) x)
  | [], x => rfl
  | y :: r, x => by
    unfold PySem.W.maxD
    simp only [List.map_cons, List.foldl_cons, PySem.W.dataLt_int]
    by_cases h : x < y
    · have h' : y > x := h
      simp only [h, h', decide_true, if_true]; exact max_int r y
    · have h' : ¬ y > x := h
      simp only [h, h', decide_false, Bool.false_eq_true, if_false]; exact max_int r x
theorem alike_ints (ns : List Int) : PySem.W.AlikeAll (ns.map PyData.int) := by
  refine ⟨fun p hp q hq => ?_, fun p hp z => ?_⟩
  · obtain ⟨x, hx, rfl⟩ := List.mem_map.mp hp
    obtain ⟨y, hy, rfl⟩ := List.mem_map.mp hq
    simp [PySem.W.alike]
  · obtain ⟨x, hx, rfl⟩ := List.mem_map.mp hp
    cases z
theorem depth_ints : ∀ ns : List Int, PyData.depthAll (ns.map PyData.int) = 0
  | [] => by simp [PyData.depthAll]
  | n :: ns => by simp [PyData.depthAll, PyData.depth, depth_ints ns]
theorem minT_ok (hc : X.calm = true) (hu : X.A.units + 65 < cLine) {a : Addr} {ns : List Int} {m : Int} (h1 : SqT X.K H a (ns.map V.int)) (e : minI ns = some m) (q : Q (.int m) H) : callSem X (.builtin "min") [.ref a] H Q := by
  intro pins s σ us I r
  rw [Vals.ref1 r]
  obtain ⟨its, rv, hl, _⟩ := I.tuple h1
  obtain ⟨as, hr⟩ := ints_reads (h := s.heap) rv.ints
  cases ns with
  | nil => cases e
  | cons x r =>
    refine PySem.W.min_tuple_data (I.ok.hd hc) hl (x := .int x) (xs := r.map PyData.int) (as := as) (by simpa using hr) (alike_ints (x :: r)) (by have := depth_ints (x :: r); simp only [List.map_cons] at this; omega) fun i v h' tk bs hv hR hkp => ?_
    rw [min_int] at hR
    cases hR
    have em : r.foldl (fun a b => if b < a then b else a) x = m := Option.some.inj e
    rw [em]
    exact ⟨.int m, H, I.kept hkp, ⟨_, rfl⟩, q⟩
theorem maxT_ok (hc : X.calm = true) (hu : X.A.units + 65 < cLine) {a : Addr} {ns : List Int} {m : Int} (h1 : SqT X.K H a (ns.map V.int)) (e : maxI ns = some m) (q : Q (.int m) H) : callSem X (.builtin "max") [.ref a] H Q := by
  intro pins s σ us I r
  rw [Vals.ref1 r]
  obtain ⟨its, rv, hl, _⟩ := I.tuple h1
  obtain ⟨as, hr⟩ := ints_reads (h := s.heap) rv.ints
  cases ns with
  | nil => cases e
  | cons x r =>
    refine PySem.W.max_tuple_data (I.ok.hd hc) hl (x := .int x) (xs := r.map PyData.int) (as := as) (by simpa using hr) (alike_ints (x :: r)) (by have := depth_ints (x :: r); simp only [List.map_cons] at this; omega) fun i v h' tk bs hv hR hkp => ?_
    rw [max_int] at hR
    cases hR
    have em : r.foldl (fun a b => if b > a then b else a) x = m := Option.some.inj e
    rw [em]
    exact ⟨.int m, H, I.kept hkp, ⟨_, rfl⟩, q⟩
theorem sumT_ok (hc : X.calm = true) {a : Addr} {ns : List Int} (h1 : SqT X.K H a (ns.map V.int)) (q : Q (.int ns.sum) H) : callSem X (.builtin "sum") [.ref a] H Q := by
  intro pins s σ us I r
  rw [Vals.ref1 r]
  obtain ⟨its, rv, hl, _⟩ := I.tuple h1
  have hi := rv.ints
  obtain ⟨xs, e⟩ := hi.allInts.items
  have hn : numsOf (intItems xs).toList = ns := by rw [← e]; exact hi.numsOf
  rw [nums_intItems] at hn
  rw [e] at hl
  refine PySem.W.ktm_sumG (I.ok.hd hc) hl fun h' tk t' hk => ?_
  rw [preSum_eq, List.take_of_length_le (by simp), hn]
  exact ⟨.int _, H, I.kept hk, ⟨_, rfl⟩, q⟩
/-! ### sorted -/
theorem sort_le {n : Nat} {d e : D} (h1 : D.ord n d = true) (h2 : D.ord n e = true) (hl : D.like e d = true) : PySem.W.dataLe false toP d e = leD d e := by
  show (!PySem.W.dataLt (toP e) (toP d)) = !D.lt e d
  rw [(lt_toP n e d h2 h1 hl).2]
theorem each_zip {R : Value → V × D → Prop} {h : Heap} : ∀ {vs : List V} {ds : List D} {us : List Value}, RVs X.K X.mg A B vs ds → Vals vs us → (∀ x d u, (x, d) ∈ vs.zip ds → RV X.K X.mg A B x d → RelV x u → R u (x, d)) → PySem.W.EachIs R us (vs.zip ds)
  | _, _, _, .nil, .nil, _ => .nil
  | _, _, _, .cons r t, .cons q z, k => .cons (k _ _ _ (by simp) r q) (each_zip (h := h) t z fun x d u hm => k x d u (by simp [hm]))
theorem sortD_len (xs : List D) : (sortD xs).length = xs.length := List.length_mergeSort xs
theorem each_out : ∀ {us : List Value} {ps : List (V × D)}, PySem.W.EachIs (fun u (p : V × D) => RelV p.1 u ∧ RV X.K X.mg A B p.1 p.2) us ps → Vals (ps.map (·.1)) us ∧ RVs X.K X.mg A B (ps.map (·.1)) (ps.map (·.2))
  | _, _, .nil => ⟨.nil, .nil⟩
  | _, _, .cons h t => by
    obtain ⟨a, b⟩ := each_out t
    exact ⟨.cons h.1 a, .cons h.2 b⟩
theorem sorted_ok (hu : X.A.units + 65 < cLine) (sb : Same B H) {a : Addr} {vs : List V} {xs : List D} (h1 : SqL X.K H a vs) (hln : vs.length ≤ lim) (h2 : RVs X.K X.mg A B vs xs) (hk : likeAll xs = true) (hso : sortOk xs = true)
    (q : ∀ (p : Addr) (ys : List V), H p = none → ys.length ≤ lim → RVs X.K X.mg A B ys (sortD xs) → Q (.ref p) (upd H p (.lst ys))) : callSem X (.builtin "sorted") [.ref a] H Q := by
  intro pins s σ us I r
  rw [Vals.ref1 r]
  obtain ⟨its, rv, hl, _⟩ := I.list h1
  obtain ⟨ho, hlk⟩ := likeAll_ord hk
  have hoA := ho
  rw [List.all_eq_true] at ho
  have hzl : (vs.zip xs).map (·.2) = xs := List.map_snd_zip (by rw [h2.length]; exact Nat.le_refl _)
  have hmem : ∀ p ∈ vs.zip xs, p.2 ∈ xs := fun p hp => by rw [← hzl]; exact List.mem_map_of_mem hp
  have hmp : (vs.zip xs).map (fun p => toP p.2) = xs.map toP := by
    have : (vs.zip xs).map (fun p => toP p.2) = ((vs.zip xs).map (·.2)).map toP := by rw [List.map_map]; rfl
    rw [this, hzl]
  have halk : PySem.W.AllAlike ((vs.zip xs).map fun p => toP p.2) := by
    intro p hp p' hp'
    rw [hmp] at hp hp'
    obtain ⟨x, hx, rfl⟩ := List.mem_map.mp hp
    obtain ⟨y, hy, rfl⟩ := List.mem_map.mp hp'
    exact (lt_toP 4 x y (ho x hx) (ho y hy) (hlk x hx y hy)).1
  have hsrt : PySem.W.Sortable ((vs.zip xs).map fun p => toP p.2) := by
    rw [hmp]
    unfold sortOk at hso
    rw [Bool.or_eq_true] at hso
    rcases hso with z | z
    · refine .inl fun p hp => ?_
      obtain ⟨x, hx, rfl⟩ := List.mem_map.mp hp
      have := List.all_eq_true.mp z x hx
      cases x with
      | tup ys =>
        cases ys with
        | nil => cases this
        | cons y ys => exact ⟨toP y, toPs ys, by simp [toP, toPs]⟩
      | _ => cases this
    · refine .inr fun p hp => ?_
      obtain ⟨x, hx, rfl⟩ := List.mem_map.mp hp
      have := List.all_eq_true.mp z x hx
      cases x with
      | int i => exact ⟨by simp [toP], fun xs => by simp [toP]⟩
      | _ => cases this
  refine PySem.W.sorted_data (bs := vs.zip xs) (enc := fun p => toP p.2) (R := fun u (p : V × D) => RelV p.1 u ∧ RV X.K X.mg A B p.1 p.2) hl.isList (each_zip (h := s.heap) h2 rv fun x d u _ r q => ⟨q, r⟩)
    (each_zip (h := s.heap) h2 rv fun x d u hm r q => ?_) halk hsrt ?_ ?_ fun out hlo heach => ?_
  · exact od_reads 4 s.heap u d (RV.od I sb 4 x d u r (ho d (hmem (x, d) hm)) q)
  · have : (vs.zip xs).length ≤ vs.length := by rw [List.length_zip]; exact Nat.min_le_left _ _
    rw [← lim_eq]
    omega
  · intro p hp
    have := ord_depth (ho p.2 (hmem p hp))
    show X.A.units + 2 + (toP p.2).depth < cLine
    omega
  · obtain ⟨o1, o2⟩ := each_out heach
    have hsd : ((vs.zip xs).mergeSort (PySem.W.dataLe false fun p => toP p.2)).map (·.2) = sortD xs := by
      have z : ((vs.zip xs).mergeSort (PySem.W.dataLe false fun p => toP p.2)).map (·.2) = ((vs.zip xs).map (·.2)).mergeSort leD :=
        List.map_mergeSort fun p hp p' hp' => sort_le (ho p.2 (hmem p hp)) (ho p'.2 (hmem p' hp')) (hlk _ (hmem p' hp') _ (hmem p hp))
      rw [z, hzl]
      rfl
    rw [hsd] at o2
    obtain ⟨ep, he'⟩ := PyProof.Rows.sortedAll_at s.heap its (List.toArray out)
    have hlen : (((vs.zip xs).mergeSort (PySem.W.dataLe false fun p => toP p.2)).map (·.1)).length ≤ lim := by
      rw [o2.length, sortD_len, ← h2.length]
      exact hln
    exact ⟨.ref _, upd H (s.heap.objs.size + 1) (.lst _), I.laid (t' := s.toks) (fun _ _ => PyProof.Rows.sortedAll_old) (Nat.le_succ _) ⟨by rw [← lim_eq]; exact hlen, out, ep, o1, he'⟩, rfl, q _ _ (I.hok.fresh (Nat.le_succ _)) hlen o2⟩
end
end TW
/-! TwBlt: built-ins by values. -/
namespace TW
open PySem PySem.Spec PyProof.Rows L2
/-- the built-ins of the language, as the model's values -/
def bltVal (f : String) : Value := if f = "tuple" ∨ f = "list" ∨ f = "int" ∨ f = "str" then .type f else .builtin f

theorem minI_spec : ∀ {ns : List Int} {m : Int}, minI ns = some m → m ∈ ns ∧ ∀ y, y ∈ ns → m ≤ y
  | [], _, h => by cases h
  | x :: r, m, h => by
    have h' : r.foldl (fun a b => if b < a then b else a) x = m := Option.some.inj h
    clear h
    induction r generalizing x with
    | nil =>
      have e : x = m := h'
      subst e
      simp
    | cons y r ih =>
      have h2 : r.foldl (fun a b => if b < a then b else a) (if y < x then y else x) = m := h'
      obtain ⟨h3, h4⟩ := ih _ h2
      split at h3 <;> rename_i hc
      · rw [if_pos hc] at h4
        refine ⟨List.mem_cons_of_mem _ h3, fun z hz => ?_⟩
        rcases List.mem_cons.mp hz with e | hz
        · have := h4 y List.mem_cons_self
          omega
        · exact h4 z hz
      · rw [if_neg hc] at h4
        refine ⟨?_, fun z hz => ?_⟩
        · rcases List.mem_cons.mp h3 with e | h3
          · rw [e]; exact List.mem_cons_self
          · exact List.mem_cons_of_mem _ (List.mem_cons_of_mem _ h3)
        · rcases List.mem_cons.mp hz with e | hz
          · rw [e]; exact h4 x List.mem_cons_self
          · rcases List.mem_cons.mp hz with e | hz
            · have := h4 x List.mem_cons_self
              omega
            · exact h4 z (List.mem_cons_of_mem _ hz)
theorem maxI_spec : ∀ {ns : List Int} {m : Int}, maxI ns = some m → m ∈ ns ∧ ∀ y, y ∈ ns → y ≤ m
  | [], _, h => by cases h
  | x :: r, m, h => by
    have h' : r.foldl (fun a b => if b > a then b else a) x = m := Option.some.inj h
    clear h
    induction r generalizing x with
    | nil =>
      have e : x = m := h'
      subst e
      simp
    | cons y r ih =>
      have h2 : r.foldl (fun a b => if b > a then b else a) (if y > x then y else x) = m := h'
      obtain ⟨h3, h4⟩ := ih _ h2
      split at h3 <;> rename_i hc
      · rw [if_pos hc] at h4
        refine ⟨List.mem_cons_of_mem _ h3, fun z hz => ?_⟩
        rcases List.mem_cons.mp hz with e | hz
        · have := h4 y List.mem_cons_self
          omega
        · exact h4 z hz
      · rw [if_neg hc] at h4
        refine ⟨?_, fun z hz => ?_⟩
        · rcases List.mem_cons.mp h3 with e | h3
          · rw [e]; exact List.mem_cons_self
          · exact List.mem_cons_of_mem _ (List.mem_cons_of_mem _ h3)
        · rcases List.mem_cons.mp hz with e | hz
          · rw [e]; exact h4 x List.mem_cons_self
          · rcases List.mem_cons.mp hz with e | hz
            · have := h4 x List.mem_cons_self
              omega
            · exact h4 z (List.mem_cons_of_mem _ hz)
theorem min_uniq {ns : List Int} {m k : Int} (h1 : m ∈ ns) (h2 : ∀ y, y ∈ ns → m ≤ y) (h3 : k ∈ ns) (h4 : ∀ y, y ∈ ns → k ≤ y) : m = k := Int.le_antisymm (h2 k h3) (h4 m h1)
theorem max_uniq {ns : List Int} {m k : Int} (h1 : m ∈ ns) (h2 : ∀ y, y ∈ ns → y ≤ m) (h3 : k ∈ ns) (h4 : ∀ y, y ∈ ns → y ≤ k) : m = k := Int.le_antisymm (h4 m h1) (h2 k h3)

section
variable {X : Cx} {W : XK} {A : List Addr} {B F H : Hp} {st : Store} {σ : L2.St} {Q : VK}
theorem rd_tup_inv {d : D} {ds : List D} (h : rd st d = .tup ds) : d = .tup ds := by
  unfold rd at h
  split at h
  · cases h
  · exact der_tup_inv h
theorem bltin_ok (hc : X.calm = true) (hu : X.A.units + 65 < cLine) {f : String} {vs : List V} {ds : List D} (rs : RVs X.K X.mg A B vs ds) (s : SR X.K X.mg A B F H st)
    (hp : Post X W A B F Q (ofO (bltin f (ds.map (rd st))) st)) : callSem X (bltVal f) vs H Q := by
  have hr := rs.rss s
  have et : ∀ xs, ds.map (rd st) = [.tup xs] → ds = [.tup xs] := fun xs h => by
    cases ds with
    | nil => cases h
    | cons d r =>
      cases r with
      | nil =>
        have h' : rd st d = .tup xs := by simpa using h
        rw [rd_tup_inv h']
      | cons => simp at h
  generalize ds.map (rd st) = gs at hp hr et
  unfold bltin at hp
  split at hp
  · -- len tuple
    rename_i xs
    cases hr with
    | cons r t =>
      cases t
      cases r with
      | tup h1 hl h2 =>
        refine callSem_of call_len_seq ⟨_, _, rfl, .inr h1, ?_⟩
        rw [h2.length]
        exact hp.here (.int _) s
  · cases hr with
    | cons r t =>
      cases t
      cases r with
      | lst h1 hl h2 =>
        refine callSem_of call_len_seq ⟨_, _, rfl, .inl h1, ?_⟩
        rw [h2.length]
        exact hp.here (.int _) s
  · split at hp
    · rename_i hz
      cases hr with
      | cons r t =>
        cases t
        cases r
        exact callSem_of call_len_str ⟨_, rfl, by rw [← lim_eq]; exact hz, hp.here (.int _) s⟩
    · exact hp.elim
  · -- tuple(list)
    cases hr with
    | cons r t =>
      cases t
      cases r with
      | lst h1 hl h2 => exact callSem_of call_tuple_of ⟨_, _, rfl, .inl ⟨h1, fun p np => hp.newT s h2 hl np⟩⟩
  · rename_i xs
    cases hr with
    | cons r t =>
      cases t
      cases r with
      | tup h1 hl h2 =>
        have e := et _ rfl
        subst e
        cases rs with
        | cons q z =>
          cases z
          exact callSem_of call_tuple_of ⟨_, _, rfl, .inr ⟨h1, hp.here q s⟩⟩
  · cases hr with
    | cons r t =>
      cases t
      cases r with
      | lst h1 hl h2 => exact callSem_of call_list_of ⟨_, _, rfl, .inl h1, fun p np => hp.newL s h2 hl np⟩
  · cases hr with
    | cons r t =>
      cases t
      cases r with
      | tup h1 hl h2 => exact callSem_of call_list_of ⟨_, _, rfl, .inr h1, fun p np => hp.newL s h2 hl np⟩
  · -- abs
    cases hr with
    | cons r t =>
      cases t
      cases r
      exact callSem_of call_abs ⟨_, rfl, hp.here (.int _) s⟩
  · cases hr with
    | cons r t =>
      cases t with
      | cons r2 t =>
        cases t
        cases r
        cases r2
        exact callSem_of (call_min2 hc) ⟨_, _, rfl, hp.here (.int _) s⟩
  · cases hr with
    | cons r t =>
      cases t with
      | cons r2 t =>
        cases t
        cases r
        cases r2
        exact callSem_of (call_max2 hc) ⟨_, _, rfl, hp.here (.int _) s⟩
  · -- min list
    rename_i xs
    cases hr with
    | cons r t =>
      cases t
      cases r with
      | lst h1 hl h2 =>
        split at hp
        · rename_i ns e
          have ev := h2.toInts e
          subst ev
          cases em : minI ns with
          | none => rw [em] at hp; exact hp.elim
          | some m =>
            rw [em] at hp
            obtain ⟨i1, i2⟩ := minI_spec em
            refine callSem_of (cr_min hc) ⟨_, ns, rfl, h1, List.length_pos_of_mem i1, fun k j1 j2 => ?_⟩
            rw [min_uniq j1 j2 i1 i2]
            exact hp.here (.int _) s
        · split at hp
          · rename_i hk
            cases em : minD xs with
            | none => rw [em] at hp; exact hp.elim
            | some m =>
              rw [em] at hp
              exact min_ok hc hu s.sb h1 h2 hk em fun v rv => hp.here rv s
          · exact hp.elim
  · -- min tuple
    rename_i xs
    cases hr with
    | cons r t =>
      cases t
      cases r with
      | tup h1 hl h2 =>
        cases e : toInts xs with
        | none => rw [e] at hp; exact hp.elim
        | some ns =>
          rw [e] at hp
          have ev := h2.toInts e
          subst ev
          cases em : minI ns with
          | none => simp only [Option.bind_some, em] at hp; exact hp.elim
          | some m =>
            simp only [Option.bind_some, em] at hp
            exact minT_ok hc hu h1 em (PostG.here hp (.int _) s)
  · -- max list
    rename_i xs
    cases hr with
    | cons r t =>
      cases t
      cases r with
      | lst h1 hl h2 =>
        cases e : toInts xs with
        | none => rw [e] at hp; exact hp.elim
        | some ns =>
          rw [e] at hp
          have ev := h2.toInts e
          subst ev
          cases em : maxI ns with
          | none => simp only [Option.bind_some, em] at hp; exact hp.elim
          | some m =>
            simp only [Option.bind_some, em] at hp
            obtain ⟨i1, i2⟩ := maxI_spec em
            refine callSem_of (cr_max hc) ⟨_, ns, rfl, h1, List.length_pos_of_mem i1, fun k j1 j2 => ?_⟩
            rw [max_uniq j1 j2 i1 i2]
            exact PostG.here hp (.int _) s
  · -- max tuple
    rename_i xs
    cases hr with
    | cons r t =>
      cases t
      cases r with
      | tup h1 hl h2 =>
        cases e : toInts xs with
        | none => rw [e] at hp; exact hp.elim
        | some ns =>
          rw [e] at hp
          have ev := h2.toInts e
          subst ev
          cases em : maxI ns with
          | none => simp only [Option.bind_some, em] at hp; exact hp.elim
          | some m =>
            simp only [Option.bind_some, em] at hp
            exact maxT_ok hc hu h1 em (PostG.here hp (.int _) s)
  · -- sum list
    rename_i xs
    cases hr with
    | cons r t =>
      cases t
      cases r with
      | lst h1 hl h2 =>
        cases e : toInts xs with
        | none => rw [e] at hp; exact hp.elim
        | some ns =>
          rw [e] at hp
          have ev := h2.toInts e
          subst ev
          exact callSem_of (cr_sum hc) ⟨_, ns, rfl, h1, PostG.here hp (.int _) s⟩
  · -- sum tuple
    rename_i xs
    cases hr with
    | cons r t =>
      cases t
      cases r with
      | tup h1 hl h2 =>
        cases e : toInts xs with
        | none => rw [e] at hp; exact hp.elim
        | some ns =>
          rw [e] at hp
          have ev := h2.toInts e
          subst ev
          exact sumT_ok hc h1 (PostG.here hp (.int _) s)
  · rename_i xs
    cases hr with
    | cons r t =>
      cases t
      cases r with
      | lst h1 hl h2 =>
        cases e : toBls xs with
        | none => rw [e] at hp; exact hp.elim
        | some bs =>
          rw [e] at hp
          have ev := h2.toBls e
          subst ev
          exact callSem_of (cr_all hc) ⟨_, bs, rfl, h1, PostG.here hp (.bl _) s⟩
  · rename_i xs
    cases hr with
    | cons r t =>
      cases t
      cases r with
      | lst h1 hl h2 =>
        cases e : toBls xs with
        | none => rw [e] at hp; exact hp.elim
        | some bs =>
          rw [e] at hp
          have ev := h2.toBls e
          subst ev
          exact callSem_of (cr_any hc) ⟨_, bs, rfl, h1, PostG.here hp (.bl _) s⟩
  · -- sorted
    rename_i xs
    cases hr with
    | cons r t =>
      cases t
      cases r with
      | lst h1 hl h2 =>
        split at hp
        · rename_i hk
          rw [Bool.and_eq_true] at hk
          exact sorted_ok hu s.sb h1 hl h2 hk.1 hk.2 fun p ys np hy ry => hp.newL s ry hy np
        · exact hp.elim
  · cases hr with
    | cons r t =>
      cases t
      cases r
      exact callSem_of call_int1 (.inl ⟨_, rfl, hp.here (.int _) s⟩)
  · cases hr with
    | cons r t =>
      cases t
      cases r
      exact callSem_of call_int1 (.inr ⟨_, rfl, hp.here (.int _) s⟩)
  · exact hp.elim

/-! ### isinstance -/
theorem kitAll : (["NoneType", "bool", "int", "str", "tuple", "list"].all fun a => ["int", "bool", "tuple", "str", "list", "dict"].all fun t => kitB a t == some (t == a || (a == "bool" && t == "int"))) = true := by decide +kernel
theorem kit_at {a t : String} (ha : a ∈ ["NoneType", "bool", "int", "str", "tuple", "list"]) (ht : t ∈ ["int", "bool", "tuple", "str", "list", "dict"]) : kitB a t = some (t == a || (a == "bool" && t == "int")) := by
  have h := List.all_eq_true.mp kitAll a ha
  have h2 := List.all_eq_true.mp h t ht
  simpa using h2
theorem isTy_kit {t : String} {b : Bool} {x : V} {gx : D} (hx : RH X.K X.mg A B H x gx) (ht : t ∈ ["int", "bool", "tuple", "str", "list", "dict"]) (e : isTy gx t = some b) : ∃ a, TyX X.K H x (.type a) ∧ kitB a t = some b := by
  cases hx with
  | non =>
    refine ⟨"NoneType", .base .non, ?_⟩
    rw [kit_at (by simp) ht, ← e]
    simp [isTy]
    simp at ht
    rintro rfl
    simp at ht
  | bl c =>
    refine ⟨"bool", .base (.bl c), ?_⟩
    rw [kit_at (by simp) ht, ← e]
    simp [isTy, Bool.or_comm]
  | int i =>
    refine ⟨"int", .base (.int i), ?_⟩
    rw [kit_at (by simp) ht, ← e]
    simp [isTy]
  | str z =>
    refine ⟨"str", .base (.str z), ?_⟩
    rw [kit_at (by simp) ht, ← e]
    simp [isTy]
  | tup h1 hl h2 =>
    refine ⟨"tuple", ?_, ?_⟩
    · rcases h1 with (h | ⟨o, h⟩) | ⟨o, its, n, hk, hc, _⟩
      · exact .base (.tup h)
      · exact .fTuple h
      · exact .kTuple hk hc
    · rw [kit_at (by simp) ht, ← e]
      simp [isTy]
  | lst h1 hl h2 =>
    refine ⟨"list", .base (.lst h1), ?_⟩
    rw [kit_at (by simp) ht, ← e]
    simp [isTy]
  | _ => simp [isTy] at e
theorem isTy_ok {t : String} {b : Bool} {x : V} {dx : D} (rx : RV X.K X.mg A B x dx) (s : SR X.K X.mg A B F H st) (ht : t ∈ ["int", "bool", "tuple", "str", "list", "dict"]) (e : isTy (der st dx) t = some b) (q : Q (.bl b) H) :
    callSem X (.builtin "isinstance") [x, .ty t] H Q := by
  obtain ⟨a, h1, h2⟩ := isTy_kit (rx.rh s) ht e
  exact callSem_of call_isi ⟨x, .ty t, _, _, b, rfl, .ty t, h1, kit_ty h2, q⟩
end
end TW
/-! TwComp: from the text's own terms to the language; what a context must give. -/
namespace TW
open PySem PySem.Spec PyProof.Rows L2

structure CC where
  N : List Str
  sc : Scope
  stor : List Str
  G : List String
  ex : List String
  cel : List Str
  fresh : Bool

def ixOf : List Str → Str → Option Nat
  | [], _ => none
  | y :: r, x => if y = x then some 0 else (ixOf r x).map (· + 1)
theorem ixOf_get : ∀ {N : List Str} {x : Str} {i : Nat}, ixOf N x = some i → N[i]? = some x
  | [], _, _, h => by cases h
  | y :: r, x, i, h => by
    unfold ixOf at h
    split at h
    · rename_i e
      cases h
      rw [e]
      rfl
    · cases e : ixOf r x with
      | none => rw [e] at h; cases h
      | some j =>
        rw [e] at h
        cases h
        exact ixOf_get (N := r) e
/-- one of the module's names -/
def glName (G : List String) (x : Str) : Option String := G.find? fun s => nameOf s == x
theorem glName_eq {G : List String} {x : Str} {s : String} (h : glName G x = some s) : s ∈ G ∧ x = nameOf s := by
  have h1 := List.mem_of_find?_eq_some h
  have h2 := List.find?_some h
  exact ⟨h1, (beq_iff_eq.mp h2).symm⟩
def bltNames : List String := ["len", "tuple", "list", "abs", "min", "max", "sum", "all", "any", "sorted", "int"]
def bltIters : List String := ["range", "zip", "enumerate", "isinstance", "set"]
def tyNames : List String := ["int", "bool", "tuple", "str", "list", "dict"]
def allBlts : List String := bltNames ++ bltIters ++ tyNames
def isGl (sc : Scope) (x : Str) : Bool := match sc.names.lookup x with
  | some .globalImplicit => true
  | _ => false
def isVis (sc : Scope) (x : Str) : Bool := match sc.names.lookup x with
  | some .local => true
  | some .cell => true
  | some .free => true
  | _ => false
theorem isGl_eq {sc : Scope} {x : Str} (h : isGl sc x = true) : sc.names.lookup x = some .globalImplicit := by
  unfold isGl at h
  split at h
  · assumption
  · cases h
theorem isVis_eq {sc : Scope} {x : Str} (h : isVis sc x = true) : Vis sc x := by
  unfold isVis at h
  split at h
  · exact .inl (by assumption)
  · exact .inr (.inl (by assumption))
  · exact .inr (.inr (by assumption))
  · cases h
def okName (x : Str) : Bool := !(x == ("__debug__" : Str)) && !(x == ("__classdict__" : Str)) && !(x == ("__name__" : Str))
theorem okName_eq {x : Str} (h : okName x = true) : (x == ("__debug__" : Str)) = false ∧ (x == ("__classdict__" : Str)) = false ∧ x ≠ ("__name__" : Str) := by
  unfold okName at h
  simp only [Bool.and_eq_true, Bool.not_eq_true'] at h
  exact ⟨h.1.1, h.1.2, by simpa using h.2⟩

def opts (f : Expr → Option E) : List Expr → Option (List E)
  | [] => some []
  | e :: es => match f e, opts f es with
    | some a, some r => some (a :: r)
    | _, _ => none
def optE (f : Expr → Option E) : Option Expr → Option (List E)
  | none => some []
  | some e => (f e).map fun a => [a]
/-- names as targets -/
def cNames (c : CC) : List Expr → Option (List (Str × Nat))
  | [] => some []
  | .Name x _ :: r => match ixOf c.N x, cNames c r with
    | some i, some is => some ((x, i) :: is)
    | _, _ => none
  | _ => none
def tgOwn (c : CC) (tg : Expr) : Option (List (Str × Nat)) := match tg with
  | .Name x p => cNames c [.Name x p]
  | .Tuple es _ _ => cNames c es
  | _ => none
def cTg (c : CC) (tg : Expr) : Option Tg := match tg with
  | .Name x _ => match ixOf c.N x with
    | some i => if x ∈ c.stor then some (.nm i) else none
    | none => none
  | .Tuple es _ _ => match cNames c es with
    | some ps => if ps.all fun p => decide (p.1 ∈ c.stor) then some (.tp (ps.map (·.2))) else none
    | none => none
  | _ => none
def isTupE : Expr → Bool
  | .Tuple .. => true
  | _ => false
def isSetE : Expr → Bool
  | .Set .. => true
  | _ => false
/-- what is walked -/
def cIter (f : Expr → Option E) (c : CC) (tg iter : Expr) : Option (IK × List E) := match iter with
  | .Call (.Name x _) args [] _ =>
    if isGl c.sc x && (x == nameOf "range" || x == nameOf "zip" || x == nameOf "enumerate") then
      (match args with
      | [a] => if x == nameOf "range" then (opts f [a]).map fun as => (.rng1, as) else if x == nameOf "enumerate" && isTupE tg then (opts f [a]).map fun as => (.enum, as) else none
      | [a, b] => if x == nameOf "range" then (opts f [a, b]).map fun as => (.rng2, as) else if x == nameOf "zip" && isTupE tg then (opts f [a, b]).map fun as => (.zip2, as) else none
      | _ => none)
    else (f iter).map fun a => (.seq, [a])
  | .Set .. => none
  | e => (f e).map fun a => (.seq, [a])
/-- the context within a comprehension -/
def CC.blk (c : CC) (scope : Scope) (own : List (Str × Nat)) : CC := { c with sc := relS scope c.sc, stor := own.map (·.1), cel := [], fresh := false }
def ownOk (c : CC) (scope : Scope) (own : List (Str × Nat)) : Bool :=
  blkC c.N c.sc scope own && own.all fun p => match scope.names.lookup p.1 with
    | some .local => true
    | some .cell => true
    | _ => false
def isSliceE : Expr → Bool
  | .Slice .. => true
  | _ => false
def isTyName (c : CC) (e : Expr) : Option String := match e with
  | .Name x _ => if isGl c.sc x && okName x then glName tyNames x else none
  | _ => none
/-- list(range(n)) -/
def lrngArg (c : CC) (x : Str) (args : List Expr) : Option (List Expr) := match args with
  | [.Call (.Name y _) as [] _] => if x == nameOf "list" && okName y && isGl c.sc y && y == nameOf "range" && (as.length == 1 || as.length == 2) then some as else none
  | _ => none
/-- sorted(set(e)) -/
def ssetArg (c : CC) (x : Str) (args : List Expr) : Option Expr := match args with
  | [.Call (.Name y _) [a] [] _] => if x == nameOf "sorted" && okName y && isGl c.sc y && y == nameOf "set" then some a else none
  | _ => none
def cE (c : CC) : Nat → Expr → Option E
  | 0, _ => none
  | n + 1, e => match e with
    | .Name x _ => if okName x then (if isVis c.sc x then (ixOf c.N x).map .var else if isGl c.sc x then (glName c.G x).map .glb else none) else none
    | .Constant .none _ _ => some (.cst .non)
    | .Constant (.bool b) _ _ => some (.cst (.bl b))
    | .Constant (.int i) _ _ => some (.cst (.int i))
    | .Constant (.str x) _ _ => some (.cst (.str x))
    | .BinOp a o b _ => match cE c n a, cE c n b with
      | some a, some b => some (.bin o a b)
      | _, _ => none
    | .UnaryOp .USub a _ => (cE c n a).map .neg
    | .UnaryOp .Not a _ => (cE c n a).map .not
    | .BoolOp .And es _ => (opts (cE c n) es).map .and
    | .BoolOp .Or es _ => (opts (cE c n) es).map .or
    | .IfExp t a b _ => match cE c n t, cE c n a, cE c n b with
      | some t, some a, some b => some (.ite t a b)
      | _, _, _ => none
    | .Compare a [o] [b] _ => if isSetE b then none else match cE c n a, cE c n b with
      | some a, some b => some (.cmp o a b)
      | _, _ => none
    | .Compare a [o, o'] [b, d] _ => if isSetE d then none else match cE c n a, cE c n b, cE c n d with
      | some a, some b, some d => some (.chn o o' a b d)
      | _, _, _ => none
    | .Tuple es _ _ => if es.length ≤ 1000 then (opts (cE c n) es).map .tup else none
    | .List es _ => if es.length ≤ 1000 then (opts (cE c n) es).map .lst else none
    | .Subscript a (.Slice none none (some (.UnaryOp .USub (.Constant (.int 1) _ _) _)) _) _ => (cE c n a).map .rev
    | .Subscript a (.Slice lo hi none _) _ => match cE c n a, optE (cE c n) lo, optE (cE c n) hi with
      | some a, some lo, some hi => some (.slc a lo hi)
      | _, _, _ => none
    | .Subscript a i _ => if isSliceE i then none else match cE c n a, cE c n i with
      | some a, some i => some (.idx a i)
      | _, _ => none
    | .Call (.Name x _) args [] _ => if okName x && isGl c.sc x && args.length ≤ 20 then (match lrngArg c x args with
        | some as => (opts (cE c n) as).map .lrng
        | none => match ssetArg c x args with
          | some a => (cE c n a).map .sst
          | none => match glName c.G x with
          | some f => (opts (cE c n) args).map (.call f)
          | none => match glName bltNames x with
            | some f => (opts (cE c n) args).map (.blt f)
            | none => if x == nameOf "isinstance" then (match args with
              | [a, t] => (match cE c n a, isTyName c t with
                | some a, some t => some (.isi a [t])
                | _, _ => none)
              | _ => none) else none) else none
    | .Call (.Attribute o m apos) [a] [] cpos => if apos.endLine == cpos.line then (match o with
        | .Name .. => match cE c n o, cE c n a with
          | some o, some a => if m == nameOf "append" then some (.app o a) else if m == nameOf "extend" then some (.ext o a) else none
          | _, _ => none
        | _ => none) else none
    | .ListComp elt [⟨tg, iter, ifs, 0⟩] scope _ => match tgOwn c tg with
      | some own => if ownOk c scope own then (match cIter (cE c n) c tg iter, cTg (c.blk scope own) tg, opts (cE (c.blk scope own) n) ifs, cE (c.blk scope own) n elt with
        | some (k, its), some tg', some ifs', some elt' => if ifs.length ≤ 1 then some (.lc elt' tg' k its ifs' (own.map (·.2))) else none
        | _, _, _, _ => none) else none
      | none => none
    | .ListComp elt [⟨tg, iter, ifs, 0⟩, ⟨tg1, iter1, ifs1, 0⟩] scope _ => match tgOwn c tg, tgOwn c tg1 with
      | some own0, some own1 => if ownOk c scope (own0 ++ own1) then (match cIter (cE c n) c tg iter, cTg (c.blk scope (own0 ++ own1)) tg, opts (cE (c.blk scope (own0 ++ own1)) n) ifs,
          cIter (cE (c.blk scope (own0 ++ own1)) n) (c.blk scope (own0 ++ own1)) tg1 iter1, cTg (c.blk scope (own0 ++ own1)) tg1, opts (cE (c.blk scope (own0 ++ own1)) n) ifs1, cE (c.blk scope (own0 ++ own1)) n elt with
        | some (k, its), some tg', some ifs', some (k1, its1), some tg1', some ifs1', some elt' => if ifs.length ≤ 1 ∧ ifs1.length ≤ 1 then some (.lc2 elt' tg' k its ifs' tg1' k1 its1 ifs1' ((own0 ++ own1).map (·.2)) (own1.map (·.2))) else none
        | _, _, _, _, _, _, _ => none) else none
      | _, _ => none
    | _ => none

def isLocN (sc : Scope) (x : Str) : Bool := match sc.names.lookup x with
  | some .local => true
  | _ => false
/-- whether a, b = x, y stores from the right, names apart -/
def swB (sc : Scope) (x y : Str) (px py : Pos) (a b : Expr) : Bool :=
  isLocN sc x && isLocN sc y && px.line == py.line && !(x == y) && !([a, b].all (foldedForSure 8)) && !([a, b].all (constantsAlone 8))
/-- .. or one after another, out of the pair -/
def swN (sc : Scope) (x y : Str) (px py : Pos) (a b : Expr) : Bool :=
  !(isLocN sc x && isLocN sc y && px.line == py.line && !(x == y)) || [a, b].all (foldedForSure 8)
def noTup (ts : List Expr) : Expr → Bool
  | .Tuple .. => !(ts.length == 2 || ts.length == 3)
  | _ => true
def cSs (f : Stmt → Option S) : List Stmt → Option (List S)
  | [] => some []
  | s :: r => match f s, cSs f r with
    | some a, some b => some (a :: b)
    | _, _ => none
/-- a list display for a name that is changed later: a cell -/
def cEn (c : CC) (m : Nat) (x : Str) (e : Expr) : Option E := if x ∈ c.cel then (match e with
  | .List es _ => if es.length ≤ 1000 then (opts (cE c m) es).map .newl else none
  | e => cE c m e) else cE c m e
def cS (c : CC) (m : Nat) : Nat → Stmt → Option S
  | 0, _ => none
  | n + 1, s => match s with
    | .Assign [.Name x _] e _ => match ixOf c.N x with
      | some i => if x ∈ c.stor then (if x ∈ c.cel then (match e with
          | .List es _ => if es.length ≤ 1000 then (opts (cE c m) es).map fun as => .asg i (.newl as) else none
          | _ => (cE c m e).map (.asg i)) else (cE c m e).map (.asg i)) else none
      | none => none
    | .Assign [.Tuple [.Name x px, .Name y py] _ _] (.Tuple [a', b'] _ _) _ => match ixOf c.N x, ixOf c.N y with
      | some i, some j => if x ∈ c.stor ∧ y ∈ c.stor then (match cEn c m x a', cEn c m y b' with
        | some a, some b => if swB c.sc x y px py a' b' then some (.par i j a b) else if swN c.sc x y px py a' b' then some (.unp [i, j] (.tup [a, b])) else none
        | _, _ => none) else none
      | _, _ => none
    | .Assign [.Tuple ts _ _] e _ => if noTup ts e then (match cNames c ts, cE c m e with
      | some ps, some e => if ps.all fun p => decide (p.1 ∈ c.stor) then some (.unp (ps.map (·.2)) e) else none
      | _, _ => none) else none
    | .Assign [.Subscript o i _] e _ => if isSliceE i then none else match cE c m o, cE c m i, cE c m e with
      | some o, some i, some e => some (.set o i e)
      | _, _, _ => none
    | .Expr (.Call f args kws cp) _ => (cE c m (.Call f args kws cp)).map .expr
    | .Return (some e) _ => match c.fresh, e with
      | true, .BinOp a .Add b _ => (match cE c m a, cE c m b with
        | some a, some b => some (.ret (.catc a b))
        | _, _ => none)
      | _, e => (cE c m e).map .ret
    | .Return none _ => some (.ret (.cst .non))
    | .Pass _ => some .pass
    | .Raise (some (.Call (.Name x _) [.Constant (.str _) _ _] [] _)) none _ => if okName x && isGl c.sc x then (glName c.ex x).map .raise else none
    | .If t a b _ => match cE c m t, cSs (cS c m n) a, cSs (cS c m n) b with
      | some t, some a, some b => some (.ite t a b)
      | _, _, _ => none
    | .For tg iter body [] _ => match cIter (cE c m) c tg iter, cTg c tg, cSs (cS c m n) body with
      | some (k, its), some tg, some body => some (.for_ tg k its body)
      | _, _, _ => none
    | .While t body [] _ => match cE c m t, cSs (cS c m n) body with
      | some t, some body => some (.whl 100000 t body)
      | _, _ => none
    | _ => none
end TW
/-! TwSnd: soundness of expressions. -/
namespace TW
open PySem PySem.Spec PyProof.Rows L2

/-! ### the slots -/
structure ER (K : PySem.W.Frag) (mg : Str → Option Value) (A : List Addr) (B : Hp) (σ : L2.St) (env : TW.Env) : Prop where
  len : σ.length = env.length
  get : ∀ (i : Nat) (d : D), env[i]? = some (some d) → ∃ v, σ[i]? = some (some v) ∧ RV K mg A B v d
section
variable {K : PySem.W.Frag} {mg : Str → Option Value} {A A' : List Addr} {B B' : Hp} {σ : L2.St} {env : TW.Env}
theorem ER.mono (h : ER K mg A B σ env) (x : Ext A B A' B') : ER K mg A' B' σ env := ⟨h.len, fun i d e => by
  obtain ⟨v, h1, h2⟩ := h.get i d e
  exact ⟨v, h1, h2.mono x⟩⟩
theorem ER.set {i : Nat} {v : V} {d : D} (h : ER K mg A B σ env) (r : RV K mg A B v d) : ER K mg A B (σ.set i (some v)) (env.set i (some d)) := by
  refine ⟨by rw [List.length_set, List.length_set]; exact h.len, fun j e he => ?_⟩
  by_cases hj : i = j
  · subst hj
    have hlt : i < env.length := by
      have := (List.getElem?_eq_some_iff.mp he).1
      rw [List.length_set] at this
      exact this
    rw [List.getElem?_set_self hlt] at he
    cases he
    exact ⟨v, List.getElem?_set_self (by rw [h.len]; exact hlt), r⟩
  · rw [List.getElem?_set_ne hj] at he
    obtain ⟨u, h1, h2⟩ := h.get j e he
    exact ⟨u, by rw [List.getElem?_set_ne hj]; exact h1, h2⟩
theorem ER.none {i : Nat} (h : ER K mg A B σ env) : ER K mg A B (σ.set i none) (env.set i none) := by
  refine ⟨by rw [List.length_set, List.length_set]; exact h.len, fun j e he => ?_⟩
  by_cases hj : i = j
  · subst hj
    have hlt : i < env.length := by
      have := (List.getElem?_eq_some_iff.mp he).1
      rw [List.length_set] at this
      exact this
    rw [List.getElem?_set_self hlt] at he
    cases he
  · rw [List.getElem?_set_ne hj] at he
    obtain ⟨u, h1, h2⟩ := h.get j e he
    exact ⟨u, by rw [List.getElem?_set_ne hj]; exact h1, h2⟩
theorem ER.wipe (h : ER K mg A B σ env) : ∀ vs : List Nat, ER K mg A B (L2.wipe σ vs) (wipeE env vs)
  | [] => h
  | v :: vs => by
    unfold L2.wipe wipeE
    exact (ER.wipe h vs).none
end

/-! ### defs that are called -/
def spOf (K : PySem.W.Frag) (mg : Str → Option Value) (n : Nat) (f : Fn) : Sp := fun vs H Q E =>
  vs.length = n ∧ ∃ (A : List Addr) (B F : Hp) (st : Store) (ds : List D), RVs K mg A B vs ds ∧ SR K mg A B F H st ∧ PostG mg K (RV K mg) E A B F Q (f ds st)
structure TabOk (P : Program) (w : World) (K : PySem.W.Frag) (mg : Str → Option Value) (base : Heap) (lv : Nat) (x : String) (f : Fn) : Prop where
  ex : ∃ (a : Addr) (fd : FuncData) (ps : List Str), mg (nameOf x) = some (.ref a) ∧ PySem.W.keepIn K (.ref a) = true ∧ Binds K fd ps [] ∧ FnOk P w K mg base (L2.CX P w) lv a fd ps (spOf K mg ps.length f) ∧ ∀ ds st, ds.length ≠ ps.length → f ds st = .stuck
structure ExcOk (K : PySem.W.Frag) (mg : Str → Option Value) (x : String) : Prop where
  ex : ∃ C : Addr, mg (nameOf x) = some (.ref C) ∧ PySem.W.keepIn K (.ref C) = true ∧ PySem.W.excIn K C [.type "ValueError", .type "Exception", .type "BaseException", .type "object"] "ValueError.__new__" = true ∧
    PySem.W.subIn K (.ref C) (.type "BaseException") = some true ∧ PySem.W.typeIn K (.ref C) = some (.type "type")
/-- what a body's context gives -/
structure Ctx (X : Cx) (W : XK) (T : Tab) (lv : Nat) (c : CC) : Prop where
  hN : X.N = c.N
  nd : X.N.Nodup
  sc : X.env.scope = c.sc
  kind : X.env.scope.kind = .function
  calm : X.calm = true
  po : PassesOwn (model X.prog X.w) X.A X.env X.xe
  tk : Takes X (fun cls d _ H => W cls d H)
  room : Room lv X.A
  stor : ∀ x ∈ c.stor, Loc X.env.scope x ∧ (X.fn x = true ∨ X.env.scope.names.lookup x = some .local)
  tabs : ∀ x f, T x = some f → TabOk X.prog X.w X.K X.mg X.base lv x f
  excs : ∀ x ∈ c.ex, ExcOk X.K X.mg x
  ins : ∀ x ∈ c.G, ∃ g, T x = some g
  blts : ∀ x ∈ allBlts, X.mg (nameOf x) = none

section
variable (c : CC)
def SoundE (e : Expr) (e' : E) : Prop := ∀ (X : Cx) (W : XK) (T : Tab) (lv : Nat), Ctx X W T lv c → ∀ (A : List Addr) (B F H : Hp) (st : Store) (σ : L2.St) (env : TW.Env) (Q : VK),
  ER X.K X.mg A B σ env → SR X.K X.mg A B F H st → Post X W A B F Q (evE T e' env st) → semE X e σ H Q
def SoundA (es : List Expr) (es' : List E) : Prop := ∀ (X : Cx) (W : XK) (T : Tab) (lv : Nat), Ctx X W T lv c → ∀ (A : List Addr) (B F H : Hp) (st : Store) (σ : L2.St) (env : TW.Env) (Q : List V → Hp → Prop),
  ER X.K X.mg A B σ env → SR X.K X.mg A B F H st → PostG X.mg X.K (RVs X.K X.mg) W A B F Q (evEs T es' env st) → semA X es σ H Q
def toB (d : D) (st : Store) : R Bool := match d with
  | .bl b => .ok b st
  | _ => .stuck
def RelB (_ : List Addr) (_ : Hp) (b b' : Bool) : Prop := b = b'
def SoundT (e : Expr) (e' : E) : Prop := ∀ (X : Cx) (W : XK) (T : Tab) (lv : Nat), Ctx X W T lv c → ∀ (A : List Addr) (B F H : Hp) (st : Store) (σ : L2.St) (env : TW.Env) (Q : Bool → Hp → Prop),
  ER X.K X.mg A B σ env → SR X.K X.mg A B F H st → PostG X.mg X.K RelB W A B F Q ((evE T e' env st).bind toB) → semT X e σ H Q
end
theorem bind_assoc {α β γ : Type} (r : R α) (f : α → Store → R β) (g : β → Store → R γ) : (r.bind f).bind g = r.bind fun a st => (f a st).bind g := by cases r <;> rfl
theorem onBl_eq {α : Type} (d : D) (st : Store) (t f : Store → R α) : onBl d (t st) (f st) = (toB d st).bind fun b st => if b = true then t st else f st := by
  cases d with
  | bl b => cases b <;> rfl
  | _ => rfl
theorem bind_congr {α β : Type} {r : R α} {f g : α → Store → R β} (h : ∀ a st, f a st = g a st) : r.bind f = r.bind g := by cases r <;> first | rfl | exact h _ _

/-! ### plain forms of the text's terms -/
def isStarE : Expr → Bool
  | .Starred .. => true
  | _ => false
theorem star_of {e : Expr} (h : isStarE e = false) (es : List Expr) (env : PySem.Env) : starEach (e :: es) env = (false, eval e env) :: starEach es env := by
  cases e <;> first | rfl | cases h
theorem cE_star {c : CC} {n : Nat} {e : Expr} {e' : E} (h : cE c n e = some e') : isStarE e = false := by
  cases n with
  | zero => cases h
  | succ n => cases e <;> first | rfl | cases h
theorem opts_cons {f : Expr → Option E} {e : Expr} {es : List Expr} {r : List E} (h : opts f (e :: es) = some r) : ∃ a as, f e = some a ∧ opts f es = some as ∧ r = a :: as := by
  unfold opts at h
  split at h
  · rename_i a as h1 h2
    cases h
    exact ⟨a, as, h1, h2, rfl⟩
  · cases h

section
variable {c : CC} {pos : Pos}
/-! ### names and constants -/
theorem s_var {i : Nat} {x : Str} (ho : okName x = true) (hv : isVis c.sc x = true) (hi : ixOf c.N x = some i) : SoundE c (.Name x pos) (.var i) := by
  intro X W T lv hX A B F H st σ env Q hE hS hP
  simp only [evE] at hP
  split at hP
  · rename_i d hd
    obtain ⟨v, h1, h2⟩ := hE.get i d hd
    obtain ⟨o1, o2, o3⟩ := okName_eq ho
    exact semE_of (pe_var (i := i) (by rw [hX.hN]; exact ixOf_get hi) (by rw [hX.sc]; exact isVis_eq hv) o1 o2) ⟨v, h1, hP.here h2 hS⟩
  · exact hP.elim
theorem s_glb {s : String} {x : Str} (ho : okName x = true) (hv : isGl c.sc x = true) (hi : glName c.G x = some s) : SoundE c (.Name x pos) (.glb s) := by
  intro X W T lv hX A B F H st σ env Q hE hS hP
  simp only [evE] at hP
  obtain ⟨g1, rfl⟩ := glName_eq hi
  obtain ⟨g, hg0⟩ := hX.ins s g1
  obtain ⟨f, fd, ps, hf, _⟩ := (hX.tabs s g hg0).ex
  have hg : Gl X (nameOf s) := by
    show X.env.scope.names.lookup _ = _
    rw [hX.sc]
    exact isGl_eq hv
  exact semE_of (pe_glob hg hf (v := .ref f) rfl (okName_eq ho).1) (hP.here (.glb hf) hS)
theorem s_non {k : Nat} : SoundE c (.Constant .none k pos) (.cst .non) := by
  intro X W T lv hX A B F H st σ env Q hE hS hP
  simp only [evE] at hP
  exact semE_of pe_non (hP.here .non hS)
theorem s_bl {k : Nat} {b : Bool} : SoundE c (.Constant (.bool b) k pos) (.cst (.bl b)) := by
  intro X W T lv hX A B F H st σ env Q hE hS hP
  simp only [evE] at hP
  exact semE_of pe_bl (hP.here (.bl b) hS)
theorem s_int {k : Nat} {i : Int} : SoundE c (.Constant (.int i) k pos) (.cst (.int i)) := by
  intro X W T lv hX A B F H st σ env Q hE hS hP
  simp only [evE] at hP
  exact semE_of pe_int (hP.here (.int i) hS)
theorem s_str {k : Nat} {x : Str} : SoundE c (.Constant (.str x) k pos) (.cst (.str x)) := by
  intro X W T lv hX A B F H st σ env Q hE hS hP
  simp only [evE] at hP
  exact semE_of pe_str (hP.here (.str x) hS)

/-! ### operators -/
variable {a b d : Expr} {a' b' d' : E}
theorem s_bin {o : Operator} (ha : SoundE c a a') (hb : SoundE c b b') : SoundE c (.BinOp a o b pos) (.bin o a' b') := by
  intro X W T lv hX A B F H st σ env Q hE hS hP
  simp only [evE] at hP
  refine semE_of (pe_op opr_sem pe_sem pe_sem) ?_
  refine ha X W T lv hX A B F H st σ env _ hE hS (hP.step fun x H1 A1 B1 st1 dx _ e1 rx s1 hP1 => ?_)
  refine hb X W T lv hX A1 B1 F H1 st1 σ env _ (hE.mono e1) s1 (hP1.step fun y H2 A2 B2 st2 dy _ e2 ry s2 hP2 => ?_)
  exact binop_ok (rx.mono e2) ry s2 hP2
theorem s_neg (ha : SoundE c a a') : SoundE c (.UnaryOp .USub a pos) (.neg a') := by
  intro X W T lv hX A B F H st σ env Q hE hS hP
  simp only [evE] at hP
  refine semE_of (pe_un un_neg pe_sem) ?_
  refine ha X W T lv hX A B F H st σ env _ hE hS (hP.step fun x H1 A1 B1 st1 dx _ e1 rx s1 hP1 => ?_)
  cases rx with
  | int i => exact ⟨i, rfl, PostG.here hP1 (.int _) s1⟩
  | _ => exact hP1.elim
theorem s_not (ha : SoundE c a a') : SoundE c (.UnaryOp .Not a pos) (.not a') := by
  intro X W T lv hX A B F H st σ env Q hE hS hP
  simp only [evE] at hP
  refine semE_of (pe_not pe_sem) ?_
  refine ha X W T lv hX A B F H st σ env _ hE hS (hP.step fun x H1 A1 B1 st1 dx _ e1 rx s1 hP1 => ?_)
  cases rx with
  | bl i => exact ⟨i, rfl, PostG.here hP1 (.bl _) s1⟩
  | _ => exact hP1.elim
theorem s_cmp {o : CmpOp} (hs : isSetE b = false) (ha : SoundE c a a') (hb : SoundE c b b') : SoundE c (.Compare a [o] [b] pos) (.cmp o a' b') := by
  intro X W T lv hX A B F H st σ env Q hE hS hP
  simp only [evE] at hP
  have hm : behindInMarks o b = false := by cases b <;> first | rfl | cases hs
  refine semE_of (pe_cmpR opr_sem pe_sem pe_sem hm) ?_
  refine ha X W T lv hX A B F H st σ env _ hE hS (hP.step fun x H1 A1 B1 st1 dx _ e1 rx s1 hP1 => ?_)
  refine hb X W T lv hX A1 B1 F H1 st1 σ env _ (hE.mono e1) s1 (hP1.step fun y H2 A2 B2 st2 dy _ e2 ry s2 hP2 => ?_)
  cases e : cmpop o (rd st2 dx) (rd st2 dy) with
  | none => rw [e] at hP2; exact hP2.elim
  | some k =>
    rw [e] at hP2
    exact cmpop_ok (by have := hX.room.un; omega) (rx.mono e2) ry s2 e (PostG.here hP2 (.bl _) s2)
theorem s_chn {o o' : CmpOp} (hs : isSetE d = false) (ha : SoundE c a a') (hb : SoundE c b b') (hd : SoundE c d d') : SoundE c (.Compare a [o, o'] [b, d] pos) (.chn o o' a' b' d') := by
  intro X W T lv hX A B F H st σ env Q hE hS hP
  simp only [evE] at hP
  have hm : lastMarks [o, o'] [b, d] = false := by
    show behindInMarks o' d = false
    cases d <;> first | rfl | cases hs
  refine semE_of (pe_chain opr_sem opr_sem pe_sem pe_sem pe_sem hm) ?_
  refine ha X W T lv hX A B F H st σ env _ hE hS (hP.step fun x H1 A1 B1 st1 dx _ e1 rx s1 hP1 => ?_)
  refine hb X W T lv hX A1 B1 F H1 st1 σ env _ (hE.mono e1) s1 (hP1.step fun y H2 A2 B2 st2 dy _ e2 ry s2 hP2 => ?_)
  cases e : cmpop o (rd st2 dx) (rd st2 dy) with
  | none => rw [e] at hP2; exact hP2.elim
  | some k =>
    rw [e] at hP2
    refine cmpop_ok (by have := hX.room.un; omega) (rx.mono e2) ry s2 e ⟨k, rfl, ?_⟩
    cases k with
    | false => exact iteF (PostG.here hP2 (.bl _) s2)
    | true =>
      refine iteT ?_
      have hP3 : Post X W A2 B2 F Q ((evE T d' env st2).bind fun z st => (ofO (cmpop o' (rd st dy) (rd st z)) st).bind fun b st => .ok (.bl b) st) := hP2
      refine hd X W T lv hX A2 B2 F H2 st2 σ env _ ((hE.mono e1).mono e2) s2 (hP3.step fun z H3 A3 B3 st3 dz _ e3 rz s3 hP4 => ?_)
      cases e' : cmpop o' (rd st3 dy) (rd st3 dz) with
      | none => rw [e'] at hP4; exact hP4.elim
      | some k2 =>
        rw [e'] at hP4
        exact cmpop_ok (by have := hX.room.un; omega) (ry.mono e3) rz s3 e' (PostG.here hP4 (.bl _) s3)
theorem s_ite (hd : SoundT c d d') (ha : SoundE c a a') (hb : SoundE c b b') : SoundE c (.IfExp d a b pos) (.ite d' a' b') := by
  intro X W T lv hX A B F H st σ env Q hE hS hP
  simp only [evE] at hP
  refine semE_of (pe_ifExp pt_sem pe_sem pe_sem) ?_
  rw [bind_congr (fun x st => onBl_eq x st (fun st => evE T a' env st) (fun st => evE T b' env st)), ← bind_assoc] at hP
  refine hd X W T lv hX A B F H st σ env _ hE hS (hP.step fun k H1 A1 B1 st1 k' _ e1 rx s1 hP1 => ?_)
  have e : k = k' := rx
  subst e
  cases k with
  | true => exact iteT (ha X W T lv hX A1 B1 F H1 st1 σ env _ (hE.mono e1) s1 hP1)
  | false => exact iteF (hb X W T lv hX A1 B1 F H1 st1 σ env _ (hE.mono e1) s1 hP1)
end
end TW
/-! TwSnd2: and, or, displays, subscripts, calls, tests. -/
namespace TW
open PySem PySem.Spec PyProof.Rows L2

section
variable {c : CC} {pos : Pos} {a b d : Expr} {a' b' d' : E} {es : List Expr} {es' : List E}
/-- every one of a list -/
inductive AllS (P : Expr → E → Prop) : List Expr → List E → Prop
  | nil : AllS P [] []
  | cons {e : Expr} {e' : E} {es : List Expr} {es' : List E} : P e e' → isStarE e = false → AllS P es es' → AllS P (e :: es) (e' :: es')
theorem AllS.of {n : Nat} {P : Expr → E → Prop} (h : ∀ e e', cE c n e = some e' → P e e') : ∀ {es : List Expr} {es' : List E}, opts (cE c n) es = some es' → AllS P es es'
  | [], es', q => by
    cases q
    exact .nil
  | e :: es, es', q => by
    obtain ⟨a, as, h1, h2, rfl⟩ := opts_cons q
    exact .cons (h e a h1) (cE_star h1) (AllS.of h h2)
theorem AllS.imp {P P' : Expr → E → Prop} (h : ∀ e e', P e e' → P' e e') : ∀ {es : List Expr} {es' : List E}, AllS P es es' → AllS P' es es'
  | _, _, .nil => .nil
  | _, _, .cons p s t => .cons (h _ _ p) s (t.imp h)
theorem AllS.length {P : Expr → E → Prop} : ∀ {es : List Expr} {es' : List E}, AllS P es es' → es.length = es'.length
  | _, _, .nil => rfl
  | _, _, .cons _ _ t => congrArg (· + 1) t.length
theorem AllS.any {P : Expr → E → Prop} : ∀ {es : List Expr} {es' : List E}, AllS P es es' → ∀ (pos : Pos) (env : PySem.Env), (backTo pos (starEach es env)).any (·.1) = false
  | _, _, .nil, _, _ => rfl
  | _, _, .cons _ s t, pos, env => by
    rw [star_of s]
    exact t.any pos env
theorem AllS.all {P : Expr → E → Prop} : ∀ {es : List Expr} {es' : List E}, AllS P es es' → ∀ (pos : Pos) (env : PySem.Env), (backTo pos (starEach es env)).all (fun x => !x.1) = true
  | _, _, .nil, _, _ => rfl
  | _, _, .cons _ s t, pos, env => by
    rw [star_of s]
    exact t.all pos env
theorem evEs_len {T : Tab} {env : TW.Env} : ∀ {es : List E} {st st' : Store} {ds : List D}, evEs T es env st = .ok ds st' → ds.length = es.length
  | [], st, st', ds, h => by
    simp only [evEs] at h
    cases h
    rfl
  | e :: es, st, st', ds, h => by
    simp only [evEs] at h
    cases h1 : evE T e env st with
    | ok x st1 =>
      rw [h1, R.bind_ok] at h
      cases h2 : evEs T es env st1 with
      | ok xs st2 =>
        rw [h2, R.bind_ok] at h
        cases h
        rw [List.length_cons, List.length_cons, evEs_len h2]
      | exc c st2 => rw [h2] at h; cases h
      | stuck => rw [h2] at h; cases h
    | exc c st2 => rw [h1] at h; cases h
    | stuck => rw [h1] at h; cases h

/-! ### arguments, displays -/
theorem s_args : ∀ {es : List Expr} {es' : List E}, AllS (SoundE c) es es' → SoundA c es es'
  | _, _, .nil => by
    intro X W T lv hX A B F H st σ env Q hE hS hP
    simp only [evEs] at hP
    exact semA_of pa_nil (hP [] A B H (Ext.refl A B) .nil hS)
  | _, _, .cons h s t => by
    intro X W T lv hX A B F H st σ env Q hE hS hP
    simp only [evEs] at hP
    refine semA_of (pa_cons pe_sem pa_sem (star_of s _ _)) ?_
    refine h X W T lv hX A B F H st σ env _ hE hS (hP.step fun x H1 A1 B1 st1 dx _ e1 rx s1 hP1 => ?_)
    refine s_args t X W T lv hX A1 B1 F H1 st1 σ env _ (hE.mono e1) s1 (hP1.step fun xs H2 A2 B2 st2 ds _ e2 rs s2 hP2 => ?_)
    exact hP2 _ A2 B2 H2 (Ext.refl A2 B2) (.cons (rx.mono e2) rs) s2
theorem s_tup {k : Nat} (h : AllS (SoundE c) es es') (hl : es.length ≤ 1000) : SoundE c (.Tuple es k pos) (.tup es') := by
  intro X W T lv hX A B F H st σ env Q hE hS hP
  simp only [evE] at hP
  refine semE_of (pe_tup pa_sem) ?_
  refine s_args h X W T lv hX A B F H st σ env _ hE hS (hP.step fun xs H1 A1 B1 st1 ds er e1 rs s1 hP1 => ?_)
  have hz : xs.length ≤ lim := by
    rw [rs.length, evEs_len er, ← h.length]
    exact Nat.le_trans hl (by decide)
  exact ⟨by rw [← lim_eq]; exact hz, fun p np => PostG.newT hP1 s1 rs hz np⟩
theorem s_lst (h : AllS (SoundE c) es es') (hl : es.length ≤ 1000) : SoundE c (.List es pos) (.lst es') := by
  intro X W T lv hX A B F H st σ env Q hE hS hP
  simp only [evE] at hP
  refine semE_of (pe_lst pa_sem) ?_
  refine s_args h X W T lv hX A B F H st σ env _ hE hS (hP.step fun xs H1 A1 B1 st1 ds er e1 rs s1 hP1 => ?_)
  have hz : xs.length ≤ lim := by
    rw [rs.length, evEs_len er, ← h.length]
    exact Nat.le_trans hl (by decide)
  exact ⟨by rw [← lim_eq]; exact hz, fun p np => PostG.newL hP1 s1 rs hz np⟩
theorem last_at {α : Type} (l : List α) (p : α) {n : Nat} (h : l.length = n) : (l ++ [p])[n]? = some p := by
  subst h
  simp
theorem s_newl (h : AllS (SoundE c) es es') (hl : es.length ≤ 1000) : SoundE c (.List es pos) (.newl es') := by
  intro X W T lv hX A B F H st σ env Q hE hS hP
  simp only [evE] at hP
  refine semE_of (pe_lst pa_sem) ?_
  refine s_args h X W T lv hX A B F H st σ env _ hE hS (hP.step fun xs H1 A1 B1 st1 ds er e1 rs s1 hP1 => ?_)
  have hz : xs.length ≤ lim := by
    rw [rs.length, evEs_len er, ← h.length]
    exact Nat.le_trans hl (by decide)
  exact ⟨by rw [← lim_eq]; exact hz, fun p np => hP1 _ (A1 ++ [p]) B1 _ ext_newcell (.ref (last_at _ _ s1.len)) (s1.newcell np ⟨xs, upd_same, hz, rs.mono ext_newcell⟩)⟩
theorem s_catc (ha : SoundE c a a') (hb : SoundE c b b') : SoundE c (.BinOp a .Add b pos) (.catc a' b') := by
  intro X W T lv hX A B F H st σ env Q hE hS hP
  simp only [evE] at hP
  refine semE_of (pe_op opr_sem pe_sem pe_sem) ?_
  refine ha X W T lv hX A B F H st σ env _ hE hS (hP.step fun x H1 A1 B1 st1 dx _ e1 rx s1 hP1 => ?_)
  refine hb X W T lv hX A1 B1 F H1 st1 σ env _ (hE.mono e1) s1 (hP1.step fun y H2 A2 B2 st2 dy _ e2 ry s2 hP2 => ?_)
  have hx := (rx.mono e2).rh s2
  have hy := ry.rh s2
  generalize der st2 dx = gx at hP2 hx
  generalize der st2 dy = gy at hP2 hy
  split at hP2
  · split at hP2
    · rename_i hz
      cases hx with
      | lst hx1 hxl hx2 =>
        cases hy with
        | lst hy1 hyl hy2 =>
          refine opSem_of op_cat ⟨_, _, _, _, rfl, rfl, hx1, hy1, ?_, fun p np => ?_⟩
          · rw [← lim_eq, hx2.length, hy2.length]; exact hz
          · exact hP2 _ (A2 ++ [p]) B2 _ ext_newcell (.ref (last_at _ _ s2.len)) (s2.newcell np ⟨_, upd_same, (by rw [List.length_append, hx2.length, hy2.length]; exact hz), (hx2.append hy2).mono ext_newcell⟩)
    · exact hP2.elim
  · exact hP2.elim

/-! ### and, or as values -/
theorem s_and : ∀ {es : List Expr} {es' : List E}, AllS (SoundE c) es es' → SoundE c (.BoolOp .And es pos) (.and es')
  | _, _, .nil => by
    intro X W T lv hX A B F H st σ env Q hE hS hP
    simp only [evE, evAnd] at hP
    exact hP.elim
  | _, _, .cons h s .nil => by
    intro X W T lv hX A B F H st σ env Q hE hS hP
    simp only [evE, evAnd] at hP
    exact semE_of (pe_one pe_sem) (h X W T lv hX A B F H st σ env _ hE hS hP)
  | _, _, .cons h s (.cons h2 s2 t) => by
    intro X W T lv hX A B F H st σ env Q hE hS hP
    rw [evE, evAnd] at hP
    refine semE_of (pe_and pe_sem pe_sem) ?_
    refine h X W T lv hX A B F H st σ env _ hE hS (hP.step fun x H1 A1 B1 st1 dx _ e1 rx s1 hP1 => ?_)
    cases rx with
    | bl k =>
      refine ⟨k, rfl, ?_⟩
      cases k with
      | true =>
        refine iteT (s_and (.cons h2 s2 t) X W T lv hX A1 B1 F H1 st1 σ env _ (hE.mono e1) s1 ?_)
        rw [evE]
        exact hP1
      | false => exact iteF (PostG.here hP1 (.bl _) s1)
    | _ => exact hP1.elim
theorem s_or : ∀ {es : List Expr} {es' : List E}, AllS (SoundE c) es es' → SoundE c (.BoolOp .Or es pos) (.or es')
  | _, _, .nil => by
    intro X W T lv hX A B F H st σ env Q hE hS hP
    simp only [evE, evOr] at hP
    exact hP.elim
  | _, _, .cons h s .nil => by
    intro X W T lv hX A B F H st σ env Q hE hS hP
    simp only [evE, evOr] at hP
    exact semE_of (pe_one pe_sem) (h X W T lv hX A B F H st σ env _ hE hS hP)
  | _, _, .cons h s (.cons h2 s2 t) => by
    intro X W T lv hX A B F H st σ env Q hE hS hP
    rw [evE, evOr] at hP
    refine semE_of (pe_or pe_sem pe_sem) ?_
    refine h X W T lv hX A B F H st σ env _ hE hS (hP.step fun x H1 A1 B1 st1 dx _ e1 rx s1 hP1 => ?_)
    cases rx with
    | bl k =>
      refine ⟨k, rfl, ?_⟩
      cases k with
      | false =>
        refine iteF (s_or (.cons h2 s2 t) X W T lv hX A1 B1 F H1 st1 σ env _ (hE.mono e1) s1 ?_)
        rw [evE]
        exact hP1
      | true => exact iteT (PostG.here hP1 (.bl _) s1)
    | _ => exact hP1.elim

/-! ### subscripts -/
theorem s_idx (hs : isSliceE b = false) (ha : SoundE c a a') (hb : SoundE c b b') : SoundE c (.Subscript a b pos) (.idx a' b') := by
  intro X W T lv hX A B F H st σ env Q hE hS hP
  simp only [evE] at hP
  have hx : PlainIx b := fun o i => by cases b <;> first | rfl | cases hs
  refine semE_of (pe_ix ixr_sem pe_sem pe_sem hx) ?_
  refine ha X W T lv hX A B F H st σ env _ hE hS (hP.step fun x H1 A1 B1 st1 dx _ e1 rx s1 hP1 => ?_)
  refine hb X W T lv hX A1 B1 F H1 st1 σ env _ (hE.mono e1) s1 (hP1.step fun y H2 A2 B2 st2 dy _ e2 ry s2 hP2 => ?_)
  exact idxop_ok (rx.mono e2) ry s2 hP2
def semO (X : Cx) (e : Option Expr) : TO := fun σ H Q => ∀ (pins : List (Addr × Obj)) (s : Shared), Inv X pins σ H s → wpAny (model X.prog X.w) X.A (evalPart e X.env) (fun u s' => ∃ o H', Inv X pins σ H' s' ∧ IsPart u o ∧ Q o H') X.xe s
theorem po_sem {X : Cx} {e : Option Expr} : PO X e (semO X e) := ⟨fun pins s _ _ _ I h => h pins s I⟩
theorem semO_of {X : Cx} {e : Option Expr} {t : TO} (h : PO X e t) {σ : L2.St} {H : Hp} {Q : Option Int → Hp → Prop} (q : t σ H Q) : semO X e σ H Q := fun pins s I => h.run pins s σ H Q I q
/-- a part of a slice -/
def SoundO (c : CC) (e : Option Expr) (es : List E) : Prop := ∀ (X : Cx) (W : XK) (T : Tab) (lv : Nat), Ctx X W T lv c → ∀ (A : List Addr) (B F H : Hp) (st : Store) (σ : L2.St) (env : TW.Env) (Q : Option Int → Hp → Prop),
  ER X.K X.mg A B σ env → SR X.K X.mg A B F H st → PostG X.mg X.K (fun _ _ (o o' : Option Int) => o = o') W A B F Q ((evEs T es env st).bind fun l st => ofO (opt1 l) st) → semO X e σ H Q
theorem s_part {n : Nat} {lo : Option Expr} {lo' : List E} (hs : ∀ e e', cE c n e = some e' → SoundE c e e') (h : optE (cE c n) lo = some lo') : SoundO c lo lo' := by
  intro X W T lv hX A B F H st σ env Q hE hS hP
  cases lo with
  | none =>
    cases h
    simp only [evEs] at hP
    exact semO_of po_none (hP none A B H (Ext.refl A B) rfl hS)
  | some e =>
    have h : (cE c n e).map (fun a => [a]) = some lo' := h
    cases h1 : cE c n e with
    | none => rw [h1] at h; cases h
    | some e' =>
      rw [h1] at h
      cases h
      simp only [evEs] at hP
      rw [bind_assoc] at hP
      refine semO_of (po_some pe_sem) ?_
      refine hs e e' h1 X W T lv hX A B F H st σ env _ hE hS (hP.step fun x H1 A1 B1 st1 dx er e1 rx s1 hP1 => ?_)
      cases rx with
      | int i => exact ⟨i, rfl, hP1 (some i) A1 B1 H1 (Ext.refl _ _) rfl s1⟩
      | _ => exact hP1.elim
theorem s_slc {n : Nat} {lo hi : Option Expr} {lo' hi' : List E} {p2 : Pos} (hs : ∀ e e', cE c n e = some e' → SoundE c e e') (ha : SoundE c a a') (hl : optE (cE c n) lo = some lo') (hh : optE (cE c n) hi = some hi') :
    SoundE c (.Subscript a (.Slice lo hi none p2) pos) (.slc a' lo' hi') := by
  intro X W T lv hX A B F H st σ env Q hE hS hP
  simp only [evE] at hP
  refine semE_of (pe_slice slr_sem pe_sem po_sem po_sem) ?_
  refine ha X W T lv hX A B F H st σ env _ hE hS (hP.step fun x H1 A1 B1 st1 dx _ e1 rx s1 hP1 => ?_)
  refine s_part hs hl X W T lv hX A1 B1 F H1 st1 σ env _ (hE.mono e1) s1 (hP1.step fun l H2 A2 B2 st2 l' er e2 rl s2 hP2 => ?_)
  refine s_part hs hh X W T lv hX A2 B2 F H2 st2 σ env _ ((hE.mono e1).mono e2) s2 (hP2.step fun h H3 A3 B3 st3 h' er' e3 rh s3 hP3 => ?_)
  have q1 : l = l' := rl
  have q2 : h = h' := rh
  subst q1 q2
  exact slcop_ok ((rx.mono e2).mono e3) s3 hP3
end
end TW
/-! TwRev: t[::-1], t * n of tuples. -/
namespace TW
open PySem PySem.Spec PyProof.Rows L2
section
variable {prog : Program} {w : World} {A : Around} {E : Value → Shared → Prop} {s : Shared}
theorem sliceApplied_rev {sl : Addr} {vl vu vs : Value} {n : Nat} {Q : Int × Int × Nat → Shared → Prop} (hs : s.heap.IsSliceOf sl vl vu vs) (pl : IsPart vl none) (pu : IsPart vu none) (ps : IsPart vs (some (-1)))
    (h : Q ((n : Int) - 1, -1, n) s) : wpAny (model prog w) A (Builtin.Slice.sliceApplied (.ref sl) (pure (n : Int))) Q E s := by
  obtain ⟨os, hos, hcs, hds⟩ := id hs
  unfold Builtin.Slice.sliceApplied Builtin.Slice.sliceFields
  refine wpAny_bind (wpAny_bind (wpAny_field hos hds (x := vl) rfl (wpAny_bind (wpAny_field hos hds (x := vu) rfl (wpAny_bind (wpAny_field hos hds (x := vs) rfl (wpAny_pure ?_)))))))
  refine wpAny_bind (HT.slicePart_ ps ?_)
  show wpAny _ _ (if ((-1 : Int) == 0) = true then _ else _) _ _ s
  rw [if_neg (by decide)]
  refine wpAny_bind (HT.slicePart_ pl (wpAny_bind (HT.slicePart_ pu (wpAny_bind (wpAny_pure ?_)))))
  have e1 : Builtin.Slice.sliceAdjust none none (-1) (n : Int) = ((n : Int) - 1, -1) := by rfl
  have e2 : Builtin.Slice.slicePlaces ((n : Int) - 1) (-1) (-1) = n := by
    unfold Builtin.Slice.slicePlaces
    rw [if_neg (by decide)]
    by_cases hn : (n : Int) - 1 > -1
    · rw [if_pos hn]
      have e : ((n : Int) - 1 - -1 - 1) / (- -1) + 1 = n := by
        rw [show (- -1 : Int) = 1 by decide, Int.ediv_one]
        omega
      rw [e]
      omega
    · rw [if_neg hn]
      omega
  show wpAny _ _ (match Builtin.Slice.sliceAdjust none none (-1) (n : Int) with | (lo, hi) => pure (lo, (-1 : Int), Builtin.Slice.slicePlaces lo hi (-1))) _ _ s
  rw [e1]
  show wpAny _ _ (pure ((n : Int) - 1, (-1 : Int), Builtin.Slice.slicePlaces ((n : Int) - 1) (-1) (-1))) _ _ s
  rw [e2]
  exact wpAny_pure h
theorem pick_rev (xs : Array Value) : ((List.range xs.size).filterMap fun (m : Nat) => xs[((xs.size : Int) - 1 + (m : Int) * (-1)).toNat]?).toArray = xs.toList.reverse.toArray := by
  have e : (List.range xs.size).filterMap (fun (m : Nat) => xs[((xs.size : Int) - 1 + (m : Int) * (-1)).toNat]?) = ((List.range xs.size).map fun k => xs.size - 1 - k).filterMap (xs[·]?) := by
    rw [List.filterMap_map]
    congr 1
    funext m
    show xs[((xs.size : Int) - 1 + (m : Int) * (-1)).toNat]? = xs[xs.size - 1 - m]?
    have e2 : ((xs.size : Int) - 1 + (m : Int) * (-1)).toNat = xs.size - 1 - m := by omega
    rw [e2]
  rw [e, PySem.W.krv_range, List.filterMap_reverse, PySem.W.krv_all]
theorem getItem_tuple_rev {t sl : Addr} {items : Array Value} {vl vu vs : Value} {Q : Value → Shared → Prop} (ht : IsTup s.heap t items) (hs : s.heap.IsSliceOf sl vl vu vs) (pl : IsPart vl none) (pu : IsPart vu none) (ps : IsPart vs (some (-1)))
    (h : Q (.ref s.heap.objs.size) { s with heap := s.heap.push { cls := .type "tuple", data := .seq items.toList.reverse.toArray } })
    (hsz : items.size ≤ sizeLine) : wpAny (model prog w) A (getItem (.ref t) (.ref sl)) Q E s := by
  have htake : sizeOk (.seq items.toList.reverse.toArray) := by
    show items.toList.reverse.toArray.size ≤ sizeLine
    rw [List.size_toArray, List.length_reverse, Array.length_toList]
    exact hsz
  obtain ⟨os, hos, hcs, hds⟩ := id hs
  have hTs : s.TypeIs (.ref sl) "slice" := ⟨os, hos, hcs⟩
  unfold getItem
  try with_reducible refine wpAny_holding ?_
  first | refine wpAny_bind (wpAny_pure ?_) | skip
  refine wpAny_bind (wpAny_sequenceKey ht.typeIs (by decide) ?_)
  refine wpAny_bind (wpAny_callSpecial?_slot (name := Str.ofString "__getitem__") ht.typeIs PyProof.Rows.slot_tuple_getitem
    (wpAny_call_entry PyProof.Rows.slot_tuple_getitem ht.typeIs entry_tuple_getitem ?_ (args_tuple_getitem _ _)))
  show wpAny _ _ (Builtin.Tuple.tupleItemsOf (.ref t) >>= _) _ _ s
  refine wpAny_bind (tupleItemsOf_ ht ?_)
  refine wpAny_bind (wpAny_typeOf hTs ?_)
  rw [if_pos (by decide)]
  refine wpAny_bind (sliceApplied_rev hs pl pu ps ?_)
  have hno : ¬ ((((items.size : Int) - 1 == 0) && ((-1 : Int) == 1) && (items.size == items.size)) = true) := by
    intro q
    rw [Bool.and_eq_true, Bool.and_eq_true] at q
    exact absurd q.1.2 (by decide)
  show wpAny _ _ (if (((items.size : Int) - 1 == 0) && ((-1 : Int) == 1) && (items.size == items.size)) = true then _ else _) _ _ s
  rw [if_neg hno, pick_rev]
  first
    | exact wpAny_bind (m := Builtin.Tuple.tupleExact _) (wpAny_newObj_type (wpAny_pure ⟨_, rfl, wpAny_pure h⟩) htake)
    | exact wpAny_bind (m := Builtin.Tuple.tupleExact _) (wpAny_newObj_type (wpAny_bind (wpAny_pure (wpAny_pure ⟨_, rfl, wpAny_pure h⟩))) htake)
    | exact wpAny_bind (wpAny_bind (m := Builtin.Tuple.tupleExact _) (wpAny_newObj_type (wpAny_pure (wpAny_pure ⟨_, rfl, wpAny_pure h⟩)) htake))
    | exact wpAny_bind (wpAny_bind (m := Builtin.Tuple.tupleExact _) (wpAny_newObj_type (wpAny_pure ⟨_, rfl, wpAny_pure h⟩) htake))
end
section
variable {X : Cx}
def tRevT (K : PySem.W.Frag) (te : TE) : TE := fun σ H Q => te σ H fun x H1 => ∃ a xs, x = .ref a ∧ SqT K H1 a xs ∧ ∀ p, H1 p = none → Q (.ref p) (upd H1 p (.tup xs.reverse))
theorem pe_revT {e : Expr} {te : TE} {k : Nat} {p1 p2 p3 pos : Pos} (he : PE X e te) : PE X (.Subscript e (.Slice none none (some (.UnaryOp .USub (.Constant (.int 1) k p1) p2)) p3) pos) (tRevT X.K te) := by
  refine ⟨fun pins s σ H Q I h => ?_⟩
  refine Subscript_ (thn (he.run pins s σ H _ I h) fun v s1 ⟨x, H1, I1, r1, q1⟩ => ?_)
  obtain ⟨a, xs, ex, hx, q⟩ := q1
  subst ex
  cases r1
  have hst : PO X (some (.UnaryOp .USub (.Constant (.int 1) k p1) p2)) (tPart (tUn (rU fun i => .int (-i)) (tC (.int 1)))) := po_some (pe_un un_neg pe_int)
  refine wpAny_Slice (thn (po_none.run pins s1 σ H1 (fun o H2 => o = none ∧ H2 = H1) I1 ⟨rfl, rfl⟩) fun vl s2 ⟨l, H2, I2, pl, el, e2⟩ => ?_)
  subst el e2
  refine thn (po_none.run pins s2 σ H2 (fun o H3 => o = none ∧ H3 = H2) I2 ⟨rfl, rfl⟩) fun vu s3 ⟨u, H3, I3, pu, eu, e3⟩ => ?_
  subst eu e3
  refine thn (hst.run pins s3 σ H3 (fun o H4 => o = some (-1) ∧ H4 = H3) I3 ⟨1, rfl, -1, rfl, rfl, rfl⟩) fun vs s4 ⟨o, H4, I4, ps, eo, e4⟩ => ?_
  subst eo e4
  have I5 : Inv X pins σ H4 { s4 with heap := s4.heap.push { cls := .type "slice", data := .fields #[vl, vu, vs] } } := I4.kept (t' := s4.toks) fun b ob q => Heap.get?_push_of_some _ q
  obtain ⟨its, r, ht, hz⟩ := I5.tuple hx
  have hlen := r.length
  show wpAny (model X.prog X.w) X.A (subscriptTail e (.Slice none none (some (.UnaryOp .USub (.Constant (.int 1) k p1) p2)) p3) (.ref a) (.ref s4.heap.objs.size)) (EP X pins σ Q) X.xe { s4 with heap := s4.heap.push { cls := .type "slice", data := .fields #[vl, vu, vs] } }
  refine tail_any (ops := [.ref a, .ref s4.heap.objs.size]) ht.typeIs (PyProof.Rows.slot_tuple_getitem.lookup) ?_ (by with_unfolding_all rfl)
  refine getItem_tuple_rev ht (Heap.IsSliceOf.new _ vl vu vs) pl pu ps ?_ (by rw [List.size_toArray]; omega)
  refine ⟨.ref _, _, I5.laid (t' := s4.toks) (o := .tup xs.reverse) (fun b ob q => Heap.get?_push_of_some _ q) (Nat.le_refl _) ?_, rfl, q _ (I5.hok.fresh (Nat.le_refl _))⟩
  exact ⟨by rw [List.length_reverse]; exact hz, _, r.reverse, IsTup.new _ _⟩
end
section
variable {c : CC} {pos : Pos} {a : Expr} {a' : E}
theorem s_rev {k : Nat} {p1 p2 p3 : Pos} (ha : SoundE c a a') : SoundE c (.Subscript a (.Slice none none (some (.UnaryOp .USub (.Constant (.int 1) k p1) p2)) p3) pos) (.rev a') := by
  intro X W T lv hX A B F H st σ env Q hE hS hP
  simp only [evE] at hP
  by_cases ht : ∃ dx st1 ds, evE T a' env st = .ok dx st1 ∧ der st1 dx = .tup ds
  · obtain ⟨dx0, st0, ds, h1, h2⟩ := ht
    refine semE_of (pe_revT pe_sem) ?_
    refine ha X W T lv hX A B F H st σ env _ hE hS (hP.step fun x H1 A1 B1 st1 dx er e1 rx s1 hP1 => ?_)
    rw [h1] at er
    cases er
    have hx := rx.rh s1
    rw [h2] at hP1 hx
    cases hx with
    | tup q1 ql q2 => exact ⟨_, _, rfl, q1, fun p np => PostG.newT hP1 s1 q2.reverse (by rw [List.length_reverse]; exact ql) np⟩
  · refine semE_of (pe_revL pe_sem) ?_
    refine ha X W T lv hX A B F H st σ env _ hE hS (hP.step fun x H1 A1 B1 st1 dx er e1 rx s1 hP1 => ?_)
    have hx := rx.rh s1
    cases hd : der st1 dx with
    | tup ds => exact absurd ⟨dx, st1, ds, er, hd⟩ ht
    | lst ds =>
      rw [hd] at hP1 hx
      cases hx with
      | lst q1 ql q2 => exact ⟨_, _, rfl, SqL.of q1, fun p np => PostG.newL hP1 s1 q2.reverse (by rw [List.length_reverse]; exact ql) np⟩
    | _ => rw [hd] at hP1; exact hP1.elim
end
end TW
/-! TwSet: sorted(set(..)) of ints. -/
namespace TW
open PySem PySem.Spec PyProof.Rows L2
/-- a set with no member yet -/
abbrev set0 (w : World) : Obj := { cls := .type "set", dict := none, data := .set #[] 0 (.fresh 0 0 (!w.params.followText "set-order")) }
section
variable {P : Program} {w : World} {A : Around} {E : Value → Shared → Prop} {s : Shared}
/-- set(x), x a list of ints: the members in their places -/
theorem set_of_list {x : Addr} {vs : Array Value} (ks : List Int) {Q : Value → Shared → Prop} (calm : A.handled = none) (lst : s.heap.IsList x vs) (are : IntsAre vs.toList ks) (few : ks.length + 1 < scanBound)
    (q : ∀ (g : Heap) (t m : Nat), SetR w g s.heap.objs.size (fun j => decide (j ∈ ks)) m → m ≤ ks.length → (∀ b o, s.heap.get? b = some o → g.get? b = some o) → Q (.ref s.heap.objs.size) { s with heap := g, toks := t }) :
    wpAny (model P w) A (call (.type "set") [.ref x]) Q E s := by
  have sz : vs.size = ks.length := (Array.length_toList).symm.trans (IntsAre.length are)
  generalize eN : s.heap.objs.size = N at q
  obtain ⟨c, tl, i1⟩ := F.called_set.mro
  have i2 := F.called_set.made
  have i3 := F.called_set.sub
  have i4 := F.called_set.notType
  have i5 := F.called_set.canCreate
  have i6 := F.typeCall_set_1 (.ref x)
  refine wpAny_call (codeAny_of_tree ?_)
  show wpAny _ _ (callAny (.type "set") _) _ _ _
  refine wpAny_pure ⟨Code.quiet_builtin _ (by decide +kernel), codeAny_builtin F.entry_type_call ?_⟩
  rw [Around.under_plain (weight_type_call_type "set" [.ref x] []) rfl]
  repeat (any_goals (first | assumption | wp_step))
  refine codeAny_mono (code_set_led1 (.ref x) (E := E) (Q₁ := fun v u => v = .ref N ∧ u = { s with heap := s.heap.push (set0 w) }) ⟨by rw [← eN], rfl⟩) fun r₁ u₁ h₁ => ?_
  cases r₁ with
  | error _ => exact h₁
  | ok f₁ =>
    cases f₁ with
    | ret v₁ =>
      obtain ⟨rfl, rfl⟩ := h₁
      have at0 : (s.heap.push (set0 w)).get? N = some (set0 w) := by rw [← eN]; exact Heap.get?_push_size _ rfl
      have ty0 : Shared.TypeIs { s with heap := s.heap.push (set0 w) } (.ref N) "set" := ⟨_, at0, rfl⟩
      have j1 := F.called_set.init.lookup
      have j2 := F.called_set.init.bind (.ref N)
      repeat (any_goals (first | assumption | wp_step))
      refine codeAny_mono (codeAny_call_builtin (R := wants (fun v u => v = .none ∧ ∃ g t m, u = { s with heap := g, toks := t } ∧ SetR w g N (fun j => decide (j ∈ ks)) m ∧ m ≤ ks.length ∧ ∀ b o, s.heap.get? b = some o → g.get? b = some o) E) F.called_set.init.plain F.entry_set_init (check_set_init_1 ty0 ?_)) fun r₂ u₂ h₂ => ?_
      · obtain ⟨ob, atx, isl, k, dat⟩ := lst
        obtain ⟨oc, od, oda, osl⟩ := ob
        simp only at isl dat
        subst isl dat
        have xN : x < N := by rw [← eN]; exact Heap.lt_size atx
        have atx' : (s.heap.push (set0 w)).get? x = some { cls := .type "list", dict := od, data := .seq vs k, slots := osl } := Heap.get?_push_of_some _ atx
        have l0 : (s.heap.push (set0 w)).IsList x vs := ⟨_, atx', rfl, k, rfl⟩
        have m1 := F.sub_list_set
        have m2 := F.sub_list_frozenset
        have m3 : (Value.type "list" == Value.type "dict") = false := by decide
        have szN : (s.heap.push (set0 w)).objs.size = N + 1 := by rw [← eN]; exact Heap.size_push ..
        unfold Builtin.«set.__init__» noKeywords Builtin.Frozenset.updateFrom
        generalize eI : pyIter = it
        wp_walk
        subst eI
        refine wpAny_pyIter_list l0 (wpAny_bind (wpAny_runValue ?_))
        have calm3 : A.in1.in1.in1.handled = none := by simp [calm]
        have ne1 : x ≠ (s.heap.push (set0 w)).objs.size := Nat.ne_of_lt (by rw [szN]; exact Nat.lt_succ_of_lt xN)
        have ne2 : N ∉ [(s.heap.push (set0 w)).objs.size, x] := by
          intro z
          simp only [List.mem_cons, List.not_mem_nil, or_false] at z
          rcases z with z | z
          · exact Nat.ne_of_lt (Nat.lt_succ_self N) (z.trans szN)
          · exact Nat.ne_of_gt xN z
        have vals : ∀ (i : Nat) (v : Value), vs[i]? = some v → ∃ k t, ks[i]? = some k ∧ v = .int k t := fun i v e => by
          have hi : i < ks.length := by rw [← sz]; exact (Array.getElem?_eq_some_iff.mp e).1
          obtain ⟨t, z⟩ := PyProof.Rows.IntsAre.int_at are i v (by rw [Array.getElem?_toList]; exact e)
          rw [List.getD_eq_getElem?_getD, List.getElem?_eq_getElem hi] at z
          exact ⟨ks[i], t, List.getElem?_eq_getElem hi, z⟩
        refine set_update_ints ((Walks.list calm3 _ x ne1 vs).toS) N ne2 ks sz few vals (vs.size - 0) 0 _ (by omega) (Nat.zero_le _) ⟨⟨_, Heap.get?_push_size _ rfl, rfl, rfl⟩, (l0.push _)⟩ ⟨0, Nat.le_refl 0, setR_new_at (Heap.get?_push_of_some _ at0)⟩ fun u m mv hm hS => ?_
        obtain ⟨g, ug, ud, ut, uo⟩ := u
        have z1 : ug = s.gens := mv.gens
        have z2 : ud = s.drawn := mv.drawn
        have z3 : uo = s.os := mv.os
        subst z1 z2 z3
        refine wpAny_pure ?_
        show wpAny _ _ (ret Value.none) _ _ _
        refine wpAny_pure ⟨rfl, g, ut, m, rfl, hS, by omega, fun b o e => ?_⟩
        have bN : b < N := by rw [← eN]; exact Heap.lt_size e
        refine mv.heap b o (fun z => ?_) (Heap.get?_push_of_some _ (Heap.get?_push_of_some _ e))
        simp only [List.mem_cons, List.not_mem_nil, or_false] at z
        rcases z with z | z
        · exact Nat.ne_of_lt bN z
        · exact Nat.ne_of_lt (Nat.lt_succ_of_lt bN) (z.trans szN)
      · cases r₂ with
        | error _ => exact h₂
        | ok f₂ =>
          cases f₂ with
          | ret v₂ =>
            obtain ⟨rfl, g, t, m, rfl, hS, hm, kept⟩ := h₂
            repeat (any_goals (first | assumption | wp_step))
            exact q _ _ _ hS hm kept
          | _ => exact h₂.elim
    | _ => exact h₁.elim
end
section
variable {X : Cx}
/-- set(x), x a tuple or a list of ints -/
def rSetN (X : Cx) : List V → Hp → VK → Prop := fun xs H Q => ∃ (l : Addr) (ns : List Int), xs = [V.ref l] ∧ (SqT X.K H l (ns.map V.int) ∨ SqL X.K H l (ns.map V.int)) ∧ ns.length ≤ 1000 ∧
  ∀ (p : Addr) (c : Nat), H p = none → c ≤ ns.length → Q (.ref p) (upd H p (SetO X.w p (fun j => decide (j ∈ ns)) c))
theorem cr_setN (hc : X.calm = true) : CallR X (.type "set") (rSetN X) := by
  intro pins s σ H xs us Q I r h
  obtain ⟨l, ns, rfl, hl, hf, q⟩ := h
  rw [Vals.ref1 r]
  have hn : H s.heap.objs.size = none := I.hok.fresh (Nat.le_refl _)
  rcases hl with hl | hl
  · obtain ⟨its, rv, pt, hz⟩ := I.tuple hl
    refine call_set_tupI ns (I.ok.hd hc) (show s.heap.IsTuple l its.toArray from pt) (ints_of_vals rv) (by unfold scanBound; omega) fun h' tk c R hcn k => ?_
    exact ⟨.ref s.heap.objs.size, upd H s.heap.objs.size (SetO X.w s.heap.objs.size (fun j => decide (j ∈ ns)) c), I.laid (t' := tk) k (Nat.le_refl _) (setO_new R), rfl, q _ c hn hcn⟩
  · obtain ⟨its, rv, pl, hz⟩ := I.list hl
    refine set_of_list ns (I.ok.hd hc) pl.isList (ints_of_vals rv) (by unfold scanBound; omega) fun h' tk c R hcn k => ?_
    exact ⟨.ref s.heap.objs.size, upd H s.heap.objs.size (SetO X.w s.heap.objs.size (fun j => decide (j ∈ ns)) c), I.laid (t' := tk) k (Nat.le_refl _) (setO_new R), rfl, q _ c hn hcn⟩
end
theorem insU_mem (x k : Int) : ∀ l : List Int, k ∈ insU x l ↔ k = x ∨ k ∈ l
  | [] => by simp [insU]
  | y :: r => by
    unfold insU
    split
    · simp
    · split
      · rename_i e
        subst e
        simp
      · simp only [List.mem_cons, insU_mem x k r]
        constructor
        · rintro (h | h | h)
          · exact .inr (.inl h)
          · exact .inl h
          · exact .inr (.inr h)
        · rintro (h | h | h)
          · exact .inr (.inl h)
          · exact .inl h
          · exact .inr (.inr h)
theorem insU_lt (x : Int) : ∀ {l : List Int}, l.Pairwise (· < ·) → (insU x l).Pairwise (· < ·)
  | [], _ => by simp [insU]
  | y :: r, h => by
    have h' := List.pairwise_cons.mp h
    unfold insU
    split
    · rename_i hxy
      refine List.pairwise_cons.mpr ⟨fun z hz => ?_, h⟩
      rcases List.mem_cons.mp hz with e | e
      · omega
      · have := h'.1 z e; omega
    · split
      · exact h
      · refine List.pairwise_cons.mpr ⟨fun z hz => ?_, insU_lt x h'.2⟩
        rcases (insU_mem x z r).mp hz with e | e
        · omega
        · exact h'.1 z e
theorem sset_mem (k : Int) : ∀ ns : List Int, k ∈ ssetI ns ↔ k ∈ ns
  | [] => by simp [ssetI]
  | n :: ns => by
    show k ∈ insU n (ssetI ns) ↔ _
    rw [insU_mem, sset_mem k ns, List.mem_cons]
theorem sset_lt : ∀ ns : List Int, (ssetI ns).Pairwise (· < ·)
  | [] => List.Pairwise.nil
  | n :: ns => insU_lt n (sset_lt ns)
theorem insU_len (x : Int) : ∀ l : List Int, (insU x l).length ≤ l.length + 1
  | [] => by simp [insU]
  | y :: r => by
    have := insU_len x r
    unfold insU
    split
    · simp
    · split <;> simp <;> omega
theorem sset_len : ∀ ns : List Int, (ssetI ns).length ≤ ns.length
  | [] => by simp [ssetI]
  | n :: ns => by
    have h1 := insU_len n (ssetI ns)
    have h2 := sset_len ns
    show (insU n (ssetI ns)).length ≤ _
    rw [List.length_cons]
    omega
theorem asc_uniq : ∀ {a b : List Int}, a.Pairwise (· < ·) → b.Pairwise (· < ·) → (∀ x, x ∈ a ↔ x ∈ b) → a = b
  | [], [], _, _, _ => rfl
  | [], y :: b, _, _, h => by have := (h y).mpr (by simp); cases this
  | x :: a, [], _, _, h => by have := (h x).mp (by simp); cases this
  | x :: a, y :: b, ha, hb, h => by
    have ha' := List.pairwise_cons.mp ha
    have hb' := List.pairwise_cons.mp hb
    have e : x = y := by
      rcases List.mem_cons.mp ((h x).mp (by simp)) with q | q
      · exact q
      · rcases List.mem_cons.mp ((h y).mpr (by simp)) with q' | q'
        · exact q'.symm
        · have := hb'.1 x q
          have := ha'.1 y q'
          omega
    subst e
    rw [asc_uniq ha'.2 hb'.2 fun z => ?_]
    constructor
    · intro hz
      rcases List.mem_cons.mp ((h z).mp (List.mem_cons_of_mem _ hz)) with q | q
      · have := ha'.1 z hz; omega
      · exact q
    · intro hz
      rcases List.mem_cons.mp ((h z).mpr (List.mem_cons_of_mem _ hz)) with q | q
      · have := hb'.1 z hz; omega
      · exact q
section
variable {X : Cx} {W : XK} {A : List Addr} {B F H : Hp} {st : Store} {Q : VK}
theorem sst_ok {v : V} {d : D} (rv : RV X.K X.mg A B v d) (s : SR X.K X.mg A B F H st) (hp : Post X W A B F Q (sstR (rd st d) st)) : rSetN X [v] H fun u H' => rSortedSet X.w [u] H' Q := by
  have rs := rv.rs s
  have fin : ∀ (a : Addr) (ns : List Int), v = .ref a → (SqT X.K H a (ns.map V.int) ∨ SqL X.K H a (ns.map V.int)) → Post X W A B F Q (sstI (some ns) st) → rSetN X [v] H fun u H' => rSortedSet X.w [u] H' Q := by
    intro a ns e hsq hq
    unfold sstI at hq
    simp only at hq
    split at hq
    · rename_i hl
      refine ⟨a, ns, by rw [e], hsq, by omega, fun p c np hc => ⟨p, _, c, rfl, upd_same, by omega, fun ns' p' h1 h2 h3 np' => ?_⟩⟩
      have e' : ns' = ssetI ns := asc_uniq h1 (sset_lt ns) fun k => by rw [h2, sset_mem, decide_eq_true_eq]
      subst e'
      have s2 := s.alloc (o := SetO X.w p (fun j => decide (j ∈ ns)) c) np
      refine hq _ A _ _ ((ext_alloc s np).trans (ext_alloc s2 np')) (.lst upd_same ?_ (RVs.ints _)) (s2.alloc np')
      rw [List.length_map]
      have := sset_len ns
      unfold lim
      omega
    · exact hq.elim
  generalize rd st d = g at hp rs
  cases rs with
  | tup h1 hl h2 =>
    rename_i a vs ds
    have hp' : Post X W A B F Q (sstI (toInts ds) st) := hp
    cases e : toInts ds with
    | none => rw [e] at hp'; exact hp'.elim
    | some ns =>
      rw [e] at hp'
      have ev := h2.toInts e
      subst ev
      exact fin a ns rfl (.inl h1) hp'
  | lst h1 hl h2 =>
    rename_i a vs ds
    have hp' : Post X W A B F Q (sstI (toInts ds) st) := hp
    cases e : toInts ds with
    | none => rw [e] at hp'; exact hp'.elim
    | some ns =>
      rw [e] at hp'
      have ev := h2.toInts e
      subst ev
      exact fin a ns rfl (.inr h1) hp'
  | _ => exact hp.elim
end
end TW
/-! TwSnd3: calls, methods, tests. -/
namespace TW
open PySem PySem.Spec PyProof.Rows L2
theorem boots : (bltNames.all fun f => bootBuiltins (nameOf f) == some (bltVal f)) = true := by decide +kernel
theorem boot_at {f : String} (h : f ∈ bltNames) : bootBuiltins (nameOf f) = some (bltVal f) := by
  have := List.all_eq_true.mp boots f h
  simpa using this
theorem bltin_nil (f : String) : bltin f [] = none := by
  unfold bltin
  split <;> first | rfl | (rename_i h; cases h)
section
variable {c : CC} {pos p : Pos} {a b d o : Expr} {a' b' d' o' : E} {es : List Expr} {es' : List E}
theorem gl_of {X : Cx} {W : XK} {T : Tab} {lv : Nat} (hX : Ctx X W T lv c) {x : Str} (h : isGl c.sc x = true) : Gl X x := by
  show X.env.scope.names.lookup _ = _
  rw [hX.sc]
  exact isGl_eq h
theorem s_call {f : String} {x : Str} (ho : okName x = true) (hg : isGl c.sc x = true) (hf : glName c.G x = some f) (h : AllS (SoundE c) es es') : SoundE c (.Call (.Name x p) es [] pos) (.call f es') := by
  intro X W T lv hX A B F H st σ env Q hE hS hP
  simp only [evE] at hP
  obtain ⟨_, rfl⟩ := glName_eq hf
  have key : ∀ {ds : List D} {vs : List V} {A1 : List Addr} {B1 H1 : Hp} {st1 : Store}, RVs X.K X.mg A1 B1 vs ds → SR X.K X.mg A1 B1 F H1 st1 → Post X W A1 B1 F Q (callT T f ds st1) →
      ∃ (a : Addr) (fd : FuncData) (ps : List Str), X.mg (nameOf f) = some (.ref a) ∧ PySem.W.keepIn X.K (.ref a) = true ∧ Binds X.K fd ps [] ∧ ∃ g, T f = some g ∧ FnOk X.prog X.w X.K X.mg X.base (L2.CX X.prog X.w) lv a fd ps (spOf X.K X.mg ps.length g) ∧ spOf X.K X.mg ps.length g (vs ++ []) H1 Q W := by
    intro ds vs A1 B1 H1 st1 rs s1 hp
    unfold callT at hp
    cases hT : T f with
    | none => rw [hT] at hp; exact hp.elim
    | some g =>
      rw [hT] at hp
      obtain ⟨a, fd, ps, h1, h2, h3, h4, h5⟩ := (hX.tabs f g hT).ex
      refine ⟨a, fd, ps, h1, h2, h3, g, rfl, h4, ?_, A1, B1, F, st1, ds, by rw [List.append_nil]; exact rs, s1, hp⟩
      rw [List.append_nil, rs.length]
      apply Classical.byContradiction
      intro hne
      have hp' : Post X W A1 B1 F Q (g ds st1) := hp
      rw [h5 ds st1 hne] at hp'
      exact hp'
  have hx : Passes (L2.CX X.prog X.w) X W := passes_call hX.tk fun _ _ _ _ h => h
  cases h with
  | nil =>
    simp only [evEs, R.bind_ok] at hP
    obtain ⟨a, fd, ps, h1, h2, h3, g, hT, h4, h5⟩ := key .nil hS hP
    exact semE_of (pe_call0 h4 hX.room (gl_of hX hg) h1 h2 h3 .nil hx (okName_eq ho).1) h5
  | cons q s t =>
    cases hT : T f with
    | none =>
      obtain ⟨g, hg0⟩ := hX.ins f (glName_eq hf).1
      rw [hT] at hg0
      cases hg0
    | some g =>
      obtain ⟨a, fd, ps, h1, h2, h3, h4, h5⟩ := (hX.tabs f g hT).ex
      refine semE_of (pe_call h4 hX.room (gl_of hX hg) h1 h2 h3 .nil hx pa_sem (okName_eq ho).1 (star_of s _ _) (t.any _ _)) ?_
      refine s_args (.cons q s t) X W T lv hX A B F H st σ env _ hE hS (hP.step fun vs H1 A1 B1 st1 ds _ e1 rs s1 hp => ?_)
      obtain ⟨a2, fd2, ps2, _, _, _, g2, hT2, _, q5⟩ := key rs s1 hp
      rw [hT] at hT2
      cases hT2
      have hl : ds.length = ps.length := by
        apply Classical.byContradiction
        intro hne
        unfold callT at hp
        rw [hT] at hp
        have hp' : Post X W A1 B1 F Q (g ds st1) := hp
        rw [h5 ds st1 hne] at hp'
        exact hp'
      refine ⟨by rw [List.append_nil, rs.length, hl], q5.2⟩
theorem s_blt {f : String} {x : Str} (ho : okName x = true) (hg : isGl c.sc x = true) (hf : glName bltNames x = some f) (h : AllS (SoundE c) es es') : SoundE c (.Call (.Name x p) es [] pos) (.blt f es') := by
  intro X W T lv hX A B F H st σ env Q hE hS hP
  simp only [evE] at hP
  obtain ⟨hm, rfl⟩ := glName_eq hf
  have hb := boot_at hm
  have hn : X.mg (nameOf f) = none := hX.blts f (List.mem_append_left _ (List.mem_append_left _ hm))
  obtain ⟨o1, o2, o3⟩ := okName_eq ho
  cases h with
  | nil =>
    simp only [evEs, R.bind_ok, List.map_nil, bltin_nil] at hP
    exact hP.elim
  | cons q s t =>
    have fin : semA X _ σ H fun vs H1 => callSem X (bltVal f) vs H1 Q := s_args (.cons q s t) X W T lv hX A B F H st σ env _ hE hS (hP.step fun vs H1 A1 B1 st1 ds _ e1 rs s1 hp => bltin_ok hX.calm (by have := hX.room.un; omega) rs s1 hp)
    unfold bltVal at hb fin
    split at hb
    · rename_i ht
      rw [if_pos ht] at fin
      exact semE_of (pe_callTy callr_sem (gl_of hX hg) hn hb pa_sem o3 o1 (star_of s _ _) (t.any _ _)) fin
    · rename_i ht
      rw [if_neg ht] at fin
      exact semE_of (pe_callB callr_sem (gl_of hX hg) hn hb pa_sem o3 o1 (star_of s _ _) (t.any _ _)) fin
theorem s_lrng {args : List Expr} {x : Str} (ho : okName x = true) (hg : isGl c.sc x = true) (hl : lrngArg c x args = some es) (h : AllS (SoundE c) es es') : SoundE c (.Call (.Name x p) args [] pos) (.lrng es') := by
  intro X W T lv hX A B F H st σ env Q hE hS hP
  simp only [evE] at hP
  unfold lrngArg at hl
  split at hl
  · rename_i y py as q
    split at hl
    · rename_i hc
      cases hl
      simp only [Bool.and_eq_true, beq_iff_eq] at hc
      obtain ⟨⟨⟨⟨rfl, oy⟩, gy⟩, rfl⟩, hlen⟩ := hc
      have m1 : X.mg (nameOf "list") = none := hX.blts "list" (by decide)
      have m2 : X.mg (nameOf "range") = none := hX.blts "range" (by decide)
      cases h with
      | nil => simp at hlen
      | cons h1 s1 t =>
        cases t with
        | nil =>
          refine semE_of (pe_listRg hX.calm (gl_of hX hg) m1 (prg_1 (gl_of hX gy) m2 pe_sem (star_of s1 _ _)) rfl) ?_
          simp only [evEs, bind_assoc, R.bind_ok] at hP
          refine h1 X W T lv hX A B F H st σ env _ hE hS (hP.step fun v H1 A1 B1 st1 dx _ e1 rv s1 hp => ?_)
          cases rv with
          | int j =>
            simp only at hp
            split at hp
            · rename_i hj
              refine ⟨j, rfl, ⟨by omega, by omega, by omega, by omega, by omega⟩, fun q nq => ?_⟩
              have e : (rgV 0 j) = (List.range j.toNat).map fun k => V.int (0 + (k : Nat)) := by
                unfold rgV
                rw [Int.sub_zero]
              rw [e]
              refine PostG.newL hp s1 ?_ (by rw [List.length_map, List.length_range]; unfold lim; omega) nq
              unfold TW.rngD
              generalize List.range j.toNat = l
              induction l with
              | nil => exact .nil
              | cons k r ih => exact .cons (.int _) ih
            · exact hp.elim
          | _ => exact hp.elim
        | cons h2 s2 t =>
          cases t with
          | nil =>
            refine semE_of (pe_listRg hX.calm (gl_of hX hg) m1 (prg_2 (gl_of hX gy) m2 pe_sem pe_sem (star_of s1 _ _) (star_of s2 _ _) (by rw [star_of s2]; rfl)) rfl) ?_
            simp only [evEs, bind_assoc, R.bind_ok] at hP
            refine h1 X W T lv hX A B F H st σ env _ hE hS (hP.step fun v H1 A1 B1 st1 dx _ e1 rv s1 hp => ?_)
            refine h2 X W T lv hX A1 B1 F H1 st1 σ env _ (hE.mono e1) s1 (hp.step fun v2 H2 A2 B2 st2 dx2 _ e2 rv2 s2 hp2 => ?_)
            cases rv with
            | int i =>
              cases rv2 with
              | int j =>
                simp only at hp2
                split at hp2
                · rename_i hj
                  refine ⟨i, j, rfl, rfl, ⟨by omega, by omega, by omega, by omega, by omega⟩, fun q nq => ?_⟩
                  refine PostG.newL hp2 s2 ?_ (by rw [rgV_length]; unfold lim; omega) nq
                  unfold TW.rngD rgV
                  generalize List.range (j - i).toNat = l
                  induction l with
                  | nil => exact .nil
                  | cons k r ih => exact .cons (.int _) ih
                · exact hp2.elim
              | _ => exact hp2.elim
            | _ => exact hp2.elim
          | cons h3 s3 t => simp at hlen
    · cases hl
  · cases hl
theorem s_sst {args : List Expr} {x : Str} (ho : okName x = true) (hg : isGl c.sc x = true) (hl : ssetArg c x args = some a) (ha : SoundE c a a') (sa : isStarE a = false) : SoundE c (.Call (.Name x p) args [] pos) (.sst a') := by
  intro X W T lv hX A B F H st σ env Q hE hS hP
  simp only [evE] at hP
  unfold ssetArg at hl
  split at hl
  · rename_i y py e q
    split at hl
    · rename_i hc
      cases hl
      simp only [Bool.and_eq_true, beq_iff_eq] at hc
      obtain ⟨⟨⟨rfl, oy⟩, gy⟩, rfl⟩ := hc
      have m1 : X.mg (nameOf "sorted") = none := hX.blts "sorted" (by decide)
      have m2 : X.mg (nameOf "set") = none := hX.blts "set" (by decide)
      obtain ⟨o1, o2, o3⟩ := okName_eq ho
      obtain ⟨p1, p2, p3⟩ := okName_eq oy
      refine semE_of (pe_callB (cr_sortedSet hX.calm) (gl_of hX hg) m1 (show bootBuiltins (nameOf "sorted") = some (.builtin "sorted") by decide +kernel) (pa_cons (pe_callTy (cr_setN hX.calm) (gl_of hX gy) m2 (show bootBuiltins (nameOf "set") = some (.type "set") by decide +kernel) (pa_cons pe_sem pa_nil (star_of sa _ _)) p3 p1 (star_of sa _ _) rfl) pa_nil rfl) o3 o1 rfl rfl) ?_
      exact ha X W T lv hX A B F H st σ env _ hE hS (hP.step fun v H1 A1 B1 st1 dx _ e1 rv s1 hp => sst_ok rv s1 hp)
    · cases hl
  · cases hl
theorem s_isi {t : Expr} {x : Str} {ty : String} (ho : okName x = true) (hg : isGl c.sc x = true) (hx : (x == nameOf "isinstance") = true) (ha : SoundE c a a') (sa : isStarE a = false) (ht : isTyName c t = some ty) : SoundE c (.Call (.Name x p) [a, t] [] pos) (.isi a' [ty]) := by
  intro X W T lv hX A B F H st σ env Q hE hS hP
  simp only [evE] at hP
  have ex : x = nameOf "isinstance" := by simpa using hx
  subst ex
  unfold isTyName at ht
  split at ht
  · rename_i y py
    split at ht
    · rename_i hc
      simp only [Bool.and_eq_true] at hc
      obtain ⟨hm, rfl⟩ := glName_eq ht
      have m1 : X.mg (nameOf "isinstance") = none := hX.blts "isinstance" (by decide)
      have m2 : X.mg (nameOf ty) = none := hX.blts ty (List.mem_append_right _ hm)
      obtain ⟨o1, o2, o3⟩ := okName_eq ho
      obtain ⟨p1, p2, p3⟩ := okName_eq hc.2
      have hb : bootBuiltins (nameOf ty) = some (.type ty) := by
        have all : (tyNames.all fun f => bootBuiltins (nameOf f) == some (.type f)) = true := by decide +kernel
        have := List.all_eq_true.mp all ty hm
        simpa using this
      have hpe : PE X (.Name (nameOf ty) py) (tC (.ty ty)) := pe_bltn (gl_of hX hc.1) m2 hb rfl p3 p1
      refine semE_of (pe_callB callr_sem (gl_of hX hg) m1 (show bootBuiltins (nameOf "isinstance") = some (.builtin "isinstance") by decide +kernel) (pa_cons pe_sem (pa_cons hpe pa_nil rfl) (star_of sa _ _)) o3 o1 (star_of sa _ _) rfl) ?_
      refine ha X W T lv hX A B F H st σ env _ hE hS (hP.step fun v H1 A1 B1 st1 dx _ e1 rv s1 hp => ?_)
      cases e : isTy (der st1 dx) ty with
      | none => rw [e] at hp; exact hp.elim
      | some k =>
        rw [e] at hp
        exact isTy_ok rv s1 hm e (PostG.here hp (.bl _) s1)
    · cases ht
  · cases ht
/-! ### append, extend -/
theorem cell_of {K : PySem.W.Frag} {mg : Str → Option Value} {A : List Addr} {B F H : Hp} {st : Store} {v : V} {x : D} {n : Nat} {xs : List D} (r : RV K mg A B v x) (s : SR K mg A B F H st) (e : cellOf st x = some (n, xs)) :
    ∃ (a : Addr) (vs : List V), v = .ref a ∧ A[n]? = some a ∧ st[n]? = some (.lst xs) ∧ H a = some (.lst vs) ∧ RVs K mg A B vs xs ∧ vs.length ≤ lim := by
  cases r with
  | ref h =>
    rename_i a m
    unfold cellOf at e
    simp only at e
    split at e
    · rename_i ys he
      obtain ⟨e1, e2⟩ : m = n ∧ ys = xs := by simpa using e
      subst e1 e2
      obtain ⟨vs, h1, hl, h2⟩ := s.cel m a _ h he
      exact ⟨a, vs, rfl, h, he, h1, h2, hl⟩
    · cases e
  | _ => cases e
theorem s_app {m : Str} {x : Str} {p0 apos : Pos} (hm : (m == nameOf "append") = true) (hl : (apos.endLine == pos.line) = true) (ho : SoundE c (.Name x p0) o') (ha : SoundE c a a') (sa : isStarE a = false) : SoundE c (.Call (.Attribute (.Name x p0) m apos) [a] [] pos) (.app o' a') := by
  intro X W T lv hX A B F H st σ env Q hE hS hP
  simp only [evE] at hP
  have em : m = nameOf "append" := by simpa using hm
  subst em
  refine semE_of (pe_bm PySem.F.plainAttrs_list PySem.F.slot_list_append PySem.F.type_list_append mt_append pe_sem (pa_cons pe_sem pa_nil (star_of sa _ _)) rfl (by rw [star_of sa]; rfl) hl (star_of sa _ _) rfl) ?_
  refine ho X W T lv hX A B F H st σ env _ hE hS (hP.step fun v H1 A1 B1 st1 dx _ e1 rv s1 hp => ?_)
  cases hc0 : cellOf st1 dx with
  | none => rw [hc0] at hp; exact hp.elim
  | some nx =>
    rw [hc0] at hp
    obtain ⟨n0, xs0⟩ := nx
    obtain ⟨q0, vs0, rfl, _, _, g3, _, _⟩ := cell_of rv s1 hc0
    refine ⟨.inl ⟨rfl, _, SqL.of g3⟩, ?_⟩
    have hp : Post X W A1 B1 F Q ((evE T a' env st1).bind fun d st => appC st dx d) := hp
    refine ha X W T lv hX A1 B1 F H1 st1 σ env _ (hE.mono e1) s1 (hp.step fun u H2 A2 B2 st2 dy _ e2 ru s2 hp2 => ?_)
    unfold appC at hp2
    split at hp2
    · rename_i n xs hc
      split at hp2
      · rename_i hz
        obtain ⟨q, vs, e, h1, h2, h3, h4, h5⟩ := cell_of (rv.mono e2) s2 hc
        cases e
        refine ⟨_, vs, u, rfl, rfl, h3, by rw [← lim_eq, h4.length]; exact hz, ?_⟩
        exact hp2 _ A2 B2 _ (Ext.refl _ _) .non (s2.setcell h1 ⟨_, upd_same, (by rw [List.length_append, h4.length]; exact hz), h4.append (.cons ru .nil)⟩)
      · exact hp2.elim
    · exact hp2.elim
theorem s_ext {m : Str} {x : Str} {p0 apos : Pos} (hm : (m == nameOf "extend") = true) (hl : (apos.endLine == pos.line) = true) (ho : SoundE c (.Name x p0) o') (ha : SoundE c a a') (sa : isStarE a = false) : SoundE c (.Call (.Attribute (.Name x p0) m apos) [a] [] pos) (.ext o' a') := by
  intro X W T lv hX A B F H st σ env Q hE hS hP
  simp only [evE] at hP
  have em : m = nameOf "extend" := by simpa using hm
  subst em
  refine semE_of (pe_bm PySem.F.plainAttrs_list PySem.F.slot_list_extend PySem.F.type_list_extend mt_extend pe_sem (pa_cons pe_sem pa_nil (star_of sa _ _)) rfl (by rw [star_of sa]; rfl) hl (star_of sa _ _) rfl) ?_
  refine ho X W T lv hX A B F H st σ env _ hE hS (hP.step fun v H1 A1 B1 st1 dx _ e1 rv s1 hp => ?_)
  cases hc0 : cellOf st1 dx with
  | none => rw [hc0] at hp; exact hp.elim
  | some nx =>
    rw [hc0] at hp
    obtain ⟨n0, xs0⟩ := nx
    obtain ⟨q0, vs0, rfl, _, _, g3, _, _⟩ := cell_of rv s1 hc0
    refine ⟨.inl ⟨rfl, _, SqL.of g3⟩, ?_⟩
    have hp : Post X W A1 B1 F Q ((evE T a' env st1).bind fun d st => extC st dx d) := hp
    refine ha X W T lv hX A1 B1 F H1 st1 σ env _ (hE.mono e1) s1 (hp.step fun u H2 A2 B2 st2 dy _ e2 ru s2 hp2 => ?_)
    unfold extC at hp2
    have hy := ru.rh s2
    split at hp2
    · rename_i n xs ys hc hd
      split at hp2
      · rename_i hz
        obtain ⟨q, vs, e, h1, h2, h3, h4, h5⟩ := cell_of (rv.mono e2) s2 hc
        cases e
        rw [hd] at hy
        cases hy with
        | lst y1 yl y2 =>
          refine ⟨_, _, vs, _, rfl, rfl, h3, y1, by rw [← lim_eq, h4.length, y2.length]; exact hz.1, ?_⟩
          exact hp2 _ A2 B2 _ (Ext.refl _ _) .non (s2.setcell h1 ⟨_, upd_same, (by rw [List.length_append, h4.length, y2.length]; exact hz.1), h4.append y2⟩)
      · exact hp2.elim
    · exact hp2.elim
end
end TW
/-! TwTst: tests. -/
namespace TW
open PySem PySem.Spec PyProof.Rows L2
section
variable {c : CC} {pos : Pos} {a b d e : Expr} {a' b' d' e' : E} {es : List Expr} {es' : List E}
def plainT : Expr → Bool
  | .UnaryOp .Not _ _ => false
  | .BoolOp .. => false
  | .IfExp .. => false
  | .Compare .. => false
  | _ => true
theorem PostB.bl {X : Cx} {W : XK} {A : List Addr} {B F H : Hp} {st : Store} {Q : Bool → Hp → Prop} {v : V} {dx : D} (hp : PostG X.mg X.K RelB W A B F Q (toB dx st)) (r : RV X.K X.mg A B v dx) (s : SR X.K X.mg A B F H st) : ∃ k, v = .bl k ∧ dx = .bl k ∧ Q k H := by
  cases r with
  | bl k => exact ⟨k, rfl, rfl, hp k A B H (Ext.refl _ _) rfl s⟩
  | _ => exact hp.elim
theorem t_val (hp : plainT e = true) (h : SoundE c e e') : SoundT c e e' := by
  intro X W T lv hX A B F H st σ env Q hE hS hP
  refine semT_of (pt_val pe_sem (fun whole => ?_)) ?_
  · cases e with
    | UnaryOp o x p =>
      cases o with
      | Not => cases hp
      | _ => rfl
    | BoolOp => cases hp
    | IfExp => cases hp
    | Compare => cases hp
    | _ => rfl
  · refine h X W T lv hX A B F H st σ env _ hE hS (hP.step fun v H1 A1 B1 st1 dx _ e1 rv s1 hp1 => ?_)
    obtain ⟨k, h1, _, h2⟩ := PostB.bl hp1 rv s1
    exact ⟨k, h1, h2⟩
theorem t_not (h : SoundT c a a') : SoundT c (.UnaryOp .Not a pos) (.not a') := by
  intro X W T lv hX A B F H st σ env Q hE hS hP
  simp only [evE] at hP
  have e : ((evE T a' env st).bind notR).bind toB = ((evE T a' env st).bind toB).bind fun b st => .ok (!b) st := by
    rw [bind_assoc, bind_assoc]
    refine bind_congr fun x st => ?_
    cases x <;> rfl
  rw [e] at hP
  refine semT_of (pt_not pt_sem) ?_
  refine h X W T lv hX A B F H st σ env _ hE hS (hP.step fun k H1 A1 B1 st1 k' _ e1 rk s1 hp1 => ?_)
  have q : k = k' := rk
  subst q
  exact hp1 _ A1 B1 H1 (Ext.refl _ _) rfl s1
theorem t_cmp {o : CmpOp} (hs : isSetE b = false) (ha : SoundE c a a') (hb : SoundE c b b') : SoundT c (.Compare a [o] [b] pos) (.cmp o a' b') := by
  intro X W T lv hX A B F H st σ env Q hE hS hP
  simp only [evE, bind_assoc] at hP
  have hm : behindInMarks o b = false := by cases b <;> first | rfl | cases hs
  refine semT_of (pt_cmpR opr_sem pe_sem pe_sem hm) ?_
  refine ha X W T lv hX A B F H st σ env _ hE hS (hP.step fun x H1 A1 B1 st1 dx _ e1 rx s1 hP1 => ?_)
  refine hb X W T lv hX A1 B1 F H1 st1 σ env _ (hE.mono e1) s1 (hP1.step fun y H2 A2 B2 st2 dy _ e2 ry s2 hP2 => ?_)
  cases e : cmpop o (rd st2 dx) (rd st2 dy) with
  | none => rw [e] at hP2; exact hP2.elim
  | some k =>
    rw [e] at hP2
    exact cmpop_ok (by have := hX.room.un; omega) (rx.mono e2) ry s2 e ⟨k, rfl, hP2 k A2 B2 H2 (Ext.refl _ _) rfl s2⟩
theorem t_chn {o o' : CmpOp} (hs : isSetE d = false) (ha : SoundE c a a') (hb : SoundE c b b') (hd : SoundE c d d') : SoundT c (.Compare a [o, o'] [b, d] pos) (.chn o o' a' b' d') := by
  intro X W T lv hX A B F H st σ env Q hE hS hP
  simp only [evE, bind_assoc] at hP
  have hm : lastMarks [o, o'] [b, d] = false := by
    show behindInMarks o' d = false
    cases d <;> first | rfl | cases hs
  refine semT_of (pt_chain opr_sem opr_sem pe_sem pe_sem pe_sem hm) ?_
  refine ha X W T lv hX A B F H st σ env _ hE hS (hP.step fun x H1 A1 B1 st1 dx _ e1 rx s1 hP1 => ?_)
  refine hb X W T lv hX A1 B1 F H1 st1 σ env _ (hE.mono e1) s1 (hP1.step fun y H2 A2 B2 st2 dy _ e2 ry s2 hP2 => ?_)
  cases e : cmpop o (rd st2 dx) (rd st2 dy) with
  | none => rw [e] at hP2; exact hP2.elim
  | some k =>
    rw [e] at hP2
    refine cmpop_ok (by have := hX.room.un; omega) (rx.mono e2) ry s2 e ⟨k, rfl, ?_⟩
    cases k with
    | false => exact iteF ⟨false, rfl, hP2 false A2 B2 H2 (Ext.refl _ _) rfl s2⟩
    | true =>
      refine iteT ?_
      have hP3 : PostG X.mg X.K RelB W A2 B2 F Q (((evE T d' env st2).bind fun z st => (ofO (cmpop o' (rd st dy) (rd st z)) st).bind fun b st => .ok (.bl b) st).bind toB) := hP2
      rw [bind_assoc] at hP3
      refine hd X W T lv hX A2 B2 F H2 st2 σ env _ ((hE.mono e1).mono e2) s2 (hP3.step fun z H3 A3 B3 st3 dz _ e3 rz s3 hP4 => ?_)
      cases e' : cmpop o' (rd st3 dy) (rd st3 dz) with
      | none => rw [e'] at hP4; exact hP4.elim
      | some k2 =>
        rw [e'] at hP4
        exact cmpop_ok (by have := hX.room.un; omega) (ry.mono e3) rz s3 e' ⟨k2, rfl, hP4 k2 A3 B3 H3 (Ext.refl _ _) rfl s3⟩
/-! ### and, or as tests -/
def semW (X : Cx) (e : Expr) : TT := fun σ H Q => ∀ (whole : Sem Value) (pins : List (Addr × Obj)) (s : Shared), Inv X pins σ H s → wpAny (model X.prog X.w) X.A (isTrue e X.env whole) (TP X pins σ Q) X.xe s
theorem pw_sem {X : Cx} {e : Expr} : PW X e (semW X e) := ⟨fun wh pins s _ _ _ I h => h wh pins s I⟩
theorem semW_of {X : Cx} {e : Expr} {t : TT} (h : PW X e t) {σ : L2.St} {H : Hp} {Q : Bool → Hp → Prop} (q : t σ H Q) : semW X e σ H Q := fun wh pins s I => h.run wh pins s σ H Q I q
def SoundW (c : CC) (e : Expr) (e' : E) : Prop := ∀ (X : Cx) (W : XK) (T : Tab) (lv : Nat), Ctx X W T lv c → ∀ (A : List Addr) (B F H : Hp) (st : Store) (σ : L2.St) (env : TW.Env) (Q : Bool → Hp → Prop),
  ER X.K X.mg A B σ env → SR X.K X.mg A B F H st → PostG X.mg X.K RelB W A B F Q ((evE T e' env st).bind toB) → semW X e σ H Q
theorem SoundW.t (h : SoundW c e e') : SoundT c e e' := fun X W T lv hX A B F H st σ env Q hE hS hP => semT_of (PW.pt pw_sem) (h X W T lv hX A B F H st σ env Q hE hS hP)
theorem w_and : ∀ {es : List Expr} {es' : List E}, AllS (SoundT c) es es' → SoundW c (.BoolOp .And es pos) (.and es')
  | _, _, .nil => by
    intro X W T lv hX A B F H st σ env Q hE hS hP
    simp only [evE, evAnd] at hP
    exact hP.elim
  | _, _, .cons h s .nil => by
    intro X W T lv hX A B F H st σ env Q hE hS hP
    simp only [evE, evAnd] at hP
    exact semW_of (pw_and1 pt_sem) (h X W T lv hX A B F H st σ env _ hE hS hP)
  | _, _, .cons (es' := e1 :: r1) h s (.cons h2 s2 t) => by
    intro X W T lv hX A B F H st σ env Q hE hS hP
    rw [evE, evAnd] at hP
    rw [bind_congr (fun x st => onBl_eq x st (fun st => evAnd T (e1 :: r1) env st) (fun st => .ok (.bl false) st)), ← bind_assoc, bind_assoc] at hP
    refine semW_of (pw_and pt_sem pw_sem) ?_
    refine h X W T lv hX A B F H st σ env _ hE hS (hP.step fun k H1 A1 B1 st1 k' _ e1 rk s1 hp1 => ?_)
    have q : k = k' := rk
    subst q
    cases k with
    | true =>
      refine iteT (w_and (.cons h2 s2 t) X W T lv hX A1 B1 F H1 st1 σ env _ (hE.mono e1) s1 ?_)
      rw [evE]
      exact hp1
    | false => exact iteF (hp1 false A1 B1 H1 (Ext.refl _ _) rfl s1)
theorem w_or : ∀ {es : List Expr} {es' : List E}, AllS (SoundT c) es es' → SoundW c (.BoolOp .Or es pos) (.or es')
  | _, _, .nil => by
    intro X W T lv hX A B F H st σ env Q hE hS hP
    simp only [evE, evOr] at hP
    exact hP.elim
  | _, _, .cons h s .nil => by
    intro X W T lv hX A B F H st σ env Q hE hS hP
    simp only [evE, evOr] at hP
    exact semW_of (pw_or1 pt_sem) (h X W T lv hX A B F H st σ env _ hE hS hP)
  | _, _, .cons (es' := e1 :: r1) h s (.cons h2 s2 t) => by
    intro X W T lv hX A B F H st σ env Q hE hS hP
    rw [evE, evOr] at hP
    rw [bind_congr (fun x st => onBl_eq x st (fun st => .ok (.bl true) st) (fun st => evOr T (e1 :: r1) env st)), ← bind_assoc, bind_assoc] at hP
    refine semW_of (pw_or pt_sem pw_sem) ?_
    refine h X W T lv hX A B F H st σ env _ hE hS (hP.step fun k H1 A1 B1 st1 k' _ e1 rk s1 hp1 => ?_)
    have q : k = k' := rk
    subst q
    cases k with
    | false =>
      refine iteF (w_or (.cons h2 s2 t) X W T lv hX A1 B1 F H1 st1 σ env _ (hE.mono e1) s1 ?_)
      rw [evE]
      exact hp1
    | true => exact iteT (hp1 true A1 B1 H1 (Ext.refl _ _) rfl s1)
theorem t_ite (hd : SoundT c d d') (ha : SoundT c a a') (hb : SoundT c b b') : SoundT c (.IfExp d a b pos) (.ite d' a' b') := by
  intro X W T lv hX A B F H st σ env Q hE hS hP
  simp only [evE] at hP
  rw [bind_congr (fun x st => onBl_eq x st (fun st => evE T a' env st) (fun st => evE T b' env st)), ← bind_assoc, bind_assoc] at hP
  intro pins s I
  have hd' : semT X d σ H fun k H1 => if k = true then semT X a σ H1 Q else semT X b σ H1 Q := by
    refine hd X W T lv hX A B F H st σ env _ hE hS (hP.step fun k H1 A1 B1 st1 k' _ e1 rk s1 hp1 => ?_)
    have q : k = k' := rk
    subst q
    cases k with
    | true => exact iteT (ha X W T lv hX A1 B1 F H1 st1 σ env _ (hE.mono e1) s1 hp1)
    | false => exact iteF (hb X W T lv hX A1 B1 F H1 st1 σ env _ (hE.mono e1) s1 hp1)
  show wpAny (model X.prog X.w) X.A (do
    if ← isTrue d X.env (eval d X.env) then isTrue a X.env (eval a X.env) else isTrue b X.env (eval b X.env)) (TP X pins σ Q) X.xe s
  refine wpAny_bind (thn (hd' pins s I) fun k s1 ⟨H1, I1, q1⟩ => ?_)
  cases k with
  | true => exact q1 pins s1 I1
  | false => exact q1 pins s1 I1
end
end TW
/-! TwEnum: enumerate over a tuple. -/
namespace PySem
open Sem (wp)
open AutoSeq1 (wpAny_loadPart')
theorem meets_enumT (l : Addr) (items : Array Value) (n : Nat) (dct : Option Addr) (sl : Array (Option Value)) :
    Meets (Builtin.«enumerate.__new__» ⟨[.type "enumerate", .ref l], []⟩) (fun _ R s => s.heap.get? l = some { cls := .type "tuple", dict := dct, data := .seq items n, slots := sl } ∧
      R (.ok (.ret (.ref (s.heap.push { cls := .type "tuple_iterator", data := .fields #[.ref l, .int 0 0] }).objs.size)))
        { s with heap := (s.heap.push { cls := .type "tuple_iterator", data := .fields #[.ref l, .int 0 0] }).push { cls := .type "enumerate", data := .fields #[.none, .bool false, .ref s.heap.objs.size, rawInt 0, .none, .none] } }) :=
  .of_wp fun prog w A R s h => by
    obtain ⟨hp, g, d, tk, os⟩ := s; obtain ⟨hl, h⟩ := h
    have hsub := sub_enumerate
    have hL : Heap.IsTuple (Shared.heap ⟨hp, g, d, tk, os⟩) l items := ⟨_, hl, rfl, n, rfl⟩
    have q1 : ∀ {A' : Around} {E : Value → Shared → Prop} {Q : Value → Shared → Prop}, Q (.ref hp.objs.size) ⟨hp.push { cls := .type "tuple_iterator", data := .fields #[.ref l, .int 0 0] }, g, d, tk, os⟩ → wpAny (model prog w) A' (pyIter (.ref l)) Q E ⟨hp, g, d, tk, os⟩ :=
      fun q => (begins_tuple l items).iter prog w _ _ ⟨hp, g, d, tk, os⟩ _ hL q
    wp_walk using wpAny_loadPart' hl
    refine wpAny_stack_any fun st => wpAny_pure ?_
    split
    · rename_i c _ _ _ _ _
      cases (c == Value.type "enumerate")
      · wp_walk using wpAny_loadPart' hl, q1
        exact ⟨_, rfl, h⟩
      · wp_walk using wpAny_loadPart' hl, q1
        exact ⟨_, rfl, h⟩
    · wp_walk using wpAny_loadPart' hl, q1
      exact ⟨_, rfl, h⟩
end PySem
namespace TW
open PySem PySem.Spec PyProof.Rows L2
theorem call_enumT {prog : Program} {w : World} {A : Around} {E : Value → Shared → Prop} {s : Shared} {l : Addr} {items : Array Value} {Q : Value → Shared → Prop} (hL : s.heap.IsTuple l items)
    (h : ∀ h', IsEnum h' (s.heap.objs.size + 1) s.heap.objs.size 0 .none → h'.IsTupleIter s.heap.objs.size l 0 → h'.objs.size = s.heap.objs.size + 2 →
      (∀ b o, s.heap.get? b = some o → h'.get? b = some o) → Q (.ref (s.heap.objs.size + 1)) { s with heap := h' }) :
    wpAny (model prog w) A (call (.type "enumerate") [.ref l]) Q E s := by
  obtain ⟨⟨c, dct, dt, sl⟩, hl, hc, n, hd⟩ := hL
  replace hc : c = .type "tuple" := hc
  replace hd : dt = .seq items n := hd
  subst hc hd
  refine callType_new F.called_enumerate (by decide) (F.typeCall_enumerate_1 _) (F.newCall_enumerate_1 _) (fun obj => F.args_object_init_2 obj _) F.entry_enumerate_new (meets_enumT l items n dct sl) ⟨hl, ?_⟩
  have hz : (s.heap.push { cls := .type "tuple_iterator", data := .fields #[.ref l, .int 0 0] }).objs.size = s.heap.objs.size + 1 := Heap.size_push ..
  show _ ∧ _
  rw [hz]
  have he : IsEnum ((s.heap.push { cls := .type "tuple_iterator", data := .fields #[.ref l, .int 0 0] }).push
      { cls := .type "enumerate", data := .fields #[.none, .bool false, .ref s.heap.objs.size, rawInt 0, .none, .none] }) (s.heap.objs.size + 1) s.heap.objs.size 0 .none := by
    have := Heap.get?_push_size (s.heap.push { cls := .type "tuple_iterator", data := .fields #[.ref l, .int 0 0] })
      (o := { cls := .type "enumerate", data := .fields #[.none, .bool false, .ref s.heap.objs.size, rawInt 0, .none, .none] }) rfl
    rw [hz] at this; exact this
  refine ⟨⟨_, he, rfl⟩, h _ he ⟨_, Heap.get?_push_of_some _ (Heap.get?_push_size _ rfl), rfl, rfl⟩ (by rw [Heap.size_push, hz]) fun b o x => Heap.get?_push_of_some _ (Heap.get?_push_of_some _ x)⟩
/-- an enumerate over a tuple -/
def IteT (K : PySem.W.Frag) (a : Addr) : It :=
  ⟨fun i H => ∃ (xs : List V) (x : V), SqT K H a xs ∧ xs[i]? = some x, fun i H v H' => ∃ T x, v = .ref T ∧ H T = none ∧ H' = upd H T (.tup [.int (i : Nat), x]) ∧ ∀ xs, SqT K H a xs → xs[i]? = some x, fun i H => ∃ xs : List V, SqT K H a xs ∧ xs.length ≤ i⟩
theorem turn_enumT {P : Program} {w : World} {K : PySem.W.Frag} {elts : List Expr} {kk : Nat} {tpos : Pos} (a e it : Addr) :
    Turn P w K (.Tuple elts kk tpos) (IteT K a) [e, it] e (fun i h => (∃ old, IsEnum h e it ((i : Nat) : Int) old) ∧ h.IsTupleIter it a i ∧ e ≠ it ∧ a ≠ it ∧ a ≠ e) where
  mem := by simp
  obj := fun i h st b hb => by
    obtain ⟨⟨old, he⟩, ⟨o, ho, hc, hd⟩, _⟩ := st
    have e' : b = e ∨ b = it := by simpa using hb
    rcases e' with z | z
    · rw [z]; exact ⟨_, he, fun v q => nomatch q⟩
    · rw [z]; exact ⟨o, ho, fun v q => by rw [hd] at q; cases q⟩
  keep := fun i h h' st k => let ⟨⟨old, he⟩, hi, hne⟩ := st; ⟨⟨old, k e (by simp) _ he⟩, hi.at fun o q => k it (by simp) o q, hne⟩
  item := by
    intro X hP hw hK hc i pins s σ H E I hf st hg
    subst hP hw hK
    obtain ⟨⟨old, he⟩, hit, hne, hai, hae⟩ := st
    obtain ⟨xs, x, hq, hx⟩ := hg
    obtain ⟨its, rv, p, hz⟩ := I.tuple hq
    obtain ⟨u, hu, ru⟩ := rv.get hx
    have hel : e < s.heap.objs.size := Heap.lt_size he
    have hil : it < s.heap.objs.size := by obtain ⟨_, q, _⟩ := hit; exact Heap.lt_size q
    have hD : Draws X.prog X.w X.A.in1 it [it, a] its.toArray.size (fun i v => its.toArray[i]? = some v) (fun i h => h.IsTupleIter it a i ∧ h.IsTuple a its.toArray) := Draws.tuple (A := X.A.in1) (show X.A.in1.handled = none from I.ok.hd hc) it a hai its.toArray
    have hlt : i < its.toArray.size := by
      have := (List.getElem?_eq_some_iff.mp hu).1
      simpa using this
    refine wpAny_pyNext_enum_itemD hD he ⟨hit, p⟩ hlt hne (by simp; exact ⟨hne, Ne.symm hae⟩) fun y h' tk hy ho hst hT hsz hk => ?_
    have eu : y = u := by
      have : its[i]? = some y := by simpa using hy
      rw [hu] at this
      exact (Option.some.inj this).symm
    subst eu
    refine ⟨_, rfl, wpAny_letOwnedTupleGo_enum (s := { s with heap := h', toks := tk + 1 }) ho fun h'' he' sb => ?_⟩
    have hT2 : h''.get? s.heap.objs.size = some { cls := .type "tuple", data := .seq #[.int i tk, y] } := (sb.2 _ (Nat.ne_of_gt hel)).trans hT
    have new : ObjOk X.prog X.w (upd H s.heap.objs.size (.tup [.int (i : Nat), x])) h'' s.heap.objs.size (.tup [.int (i : Nat), x]) :=
      ⟨by show 2 ≤ sizeLine; decide, [.int i tk, y], .cons ⟨_, rfl⟩ (.cons ru .nil), ⟨_, hT2, rfl, _, rfl⟩⟩
    have I1 : Inv X pins σ (upd H s.heap.objs.size (.tup [.int (i : Nat), x])) { s with heap := h'', toks := tk + 1 } :=
      I.turnedNew (ch := [e, it]) (fun b ob hb q => (sb.2 b (fun z => hb (by simp [z]))).trans (hk b ob (fun z => hb (by simp [z])) (fun z => hb (by simp [z])) q)) hf (Nat.le_refl _) new
    refine ⟨.ref s.heap.objs.size, _, I1, rfl, ⟨_, x, rfl, I.hok.fresh (Nat.le_refl _), rfl, fun ys hy => by rw [I.tuple_inj hy hq]; exact hx⟩, ⟨⟨y, ?_⟩, hst.1.at fun o q => (sb.2 it (Ne.symm hne)).trans q, hne, hai, hae⟩, fun b hb => ?_⟩
    · have e1 : ((i + 1 : Nat) : Int) = (i : Int) + 1 := by omega
      rw [e1]; exact he'
    · have hb' : b < s.heap.objs.size := by
        have e' : b = e ∨ b = it := by simpa using hb
        rcases e' with z | z
        · rw [z]; exact hel
        · rw [z]; exact hil
      rw [upd_ne (Nat.ne_of_lt hb')]
      exact (hf b hb).1
  done := by
    intro X hP hw hK hc i pins s σ H E I hf st hg
    subst hP hw hK
    obtain ⟨⟨old, he⟩, hit, hne, hai, hae⟩ := st
    obtain ⟨xs, hq, hx⟩ := hg
    obtain ⟨its, rv, p, hz⟩ := I.tuple hq
    obtain ⟨f0, f1, f2, f3, f4, f5⟩ := hf it (by simp)
    have hl := rv.length
    have hT : s.TypeIs (.ref e) "enumerate" := ⟨_, he, rfl⟩
    unfold pyNext
    refine wpAny_bind (wpAny_attempt (wpAny_callSpecial?_slot (name := Str.ofString "__next__") hT F.slot_enumerate_next
      (wpAny_call_entry F.slot_enumerate_next hT F.entry_enumerate_next ?_ (F.args_enumerate_next_1 _))))
    show wpAny _ _ (field (.ref e) 2 >>= _) _ _ _
    refine wpAny_bind (wpAny_field he rfl (x := .ref it) rfl ?_)
    refine wpAny_bind (wpAny_nextOf_tuple_end (I.ok.hd hc) hit p (by simp; omega) fun h' x he' hx' => ?_)
    obtain ⟨o, ho, hc⟩ := hx'
    refine wpAny_bind (wpAny_isInstance (T := "StopIteration") (b := true) ⟨o, ho, hc⟩ isSubtype_stop ?_)
    exact wpAny_pure ⟨rfl, I.turned (t' := s.toks) (fun b o hb q => he' b o hb q) f0 f1 f3 f4 f5⟩
  self := fun A i s Q E st h => let ⟨⟨_, he⟩, _⟩ := st; wpAny_pyIter_enum he h
def iEnumT (K : PySem.W.Frag) (ta : TA) : TI := fun σ H R => ta σ H fun vs H1 => ∃ a xs, vs = [.ref a] ∧ SqT K H1 a xs ∧ R (IteT K a) H1
theorem pi_enumT {X : Cx} {e : Expr} {ta : TA} {p pos tpos : Pos} {elts : List Expr} {kk : Nat} (hg : Gl X "enumerate") (hm : X.mg "enumerate" = none) (ha : PA X [e] ta) (hs : starEach [e] X.env = [(false, eval e X.env)] := by rfl) :
    PI X (.Tuple elts kk tpos) (.Call (.Name "enumerate" p) [e] [] pos) (iEnumT X.K ta) := by
  refine ⟨fun pins s σ H R I h => ?_⟩
  refine Call_ (ld_blt I hg hm boot_enumerate (PyProof.Rows.callWith_type1 (thn (ha.run pos pins s σ H _ I h) fun us s1 ⟨vs, H1, I1, r1, q1⟩ => ?_) hs rfl))
  obtain ⟨a, xs, ex, hq, q⟩ := q1
  subst ex
  cases r1 with
  | cons r rr =>
    cases rr
    cases r
    obtain ⟨its, rv, p', hz⟩ := I1.tuple hq
    have hal : a < s1.heap.objs.size := by obtain ⟨_, q, _⟩ := p'; exact Heap.lt_size q
    refine call_enumT p' fun h' he hit hsz hk => wpAny_pyIter_enum he ?_
    have I2 : Inv X pins σ H1 { s1 with heap := h' } := I1.kept (t' := s1.toks) hk
    refine ⟨s1.heap.objs.size + 1, [s1.heap.objs.size + 1, s1.heap.objs.size], _, _, H1, rfl, I2, turn_enumT a (s1.heap.objs.size + 1) s1.heap.objs.size, ⟨⟨.none, he⟩, hit, Nat.succ_ne_self _, Nat.ne_of_lt hal, Nat.ne_of_lt (Nat.lt_succ_of_lt hal)⟩, fun b hb => ?_, q⟩
    have e' : b = s1.heap.objs.size + 1 ∨ b = s1.heap.objs.size := by simpa using hb
    have hle : s1.heap.objs.size ≤ b := by
      rcases e' with z | z
      · rw [z]; exact Nat.le_add_right _ _
      · rw [z]; exact Nat.le_refl _
    exact I1.fpOk hle (I1.hok.fresh hle)
end TW
/-! TwIter: what is walked. -/
namespace TW
open PySem PySem.Spec PyProof.Rows L2
def KeepD (st : Store) (ds : List D) (st' : Store) : Prop := ∀ d ∈ ds, der st' d = der st d
theorem KeepD.refl (st : Store) (ds : List D) : KeepD st ds st := fun _ _ => rfl
theorem chk_keep {α β : Type} {mg : Str → Option Value} {K : PySem.W.Frag} {Rel : List Addr → Hp → β → α → Prop} {W : XK} {A : List Addr} {B F : Hp} {Q : β → Hp → Prop} {st st' : Store} {ds : List D} {r : R α} (h : PostG mg K Rel W A B F Q (chk st ds st' r)) :
    KeepD st ds st' ∧ PostG mg K Rel W A B F Q r := by
  unfold chk at h
  split at h
  · rename_i hc
    refine ⟨fun d hd => ?_, h⟩
    have h1 := List.all_eq_true.mp hc d hd
    cases d with
    | ref n => exact D.same_eq _ _ h1
    | _ => rfl
  · exact h.elim
theorem KeepD.rd {st st' : Store} {ds : List D} (h : KeepD st ds st') {d : D} (hd : d ∈ ds) : rd st' d = rd st d := by
  unfold TW.rd
  rw [h d hd]
/-- a walk over data, while what is walked stands -/
def WD (K : PySem.W.Frag) (mg : Str → Option Value) (A : List Addr) (B : Hp) (st : Store) (ds : List D) (J : It) (xs : List D) : Prop :=
  ∀ (F' : Hp) (A' : List Addr) (B' H' : Hp) (st' : Store), Ext A B A' B' → SR K mg A' B' F' H' st' → KeepD st ds st' →
    xs.length ≤ lim ∧ (∀ i : Nat, i < xs.length → J.go i H') ∧ J.stop xs.length H' ∧
    ∀ (i : Nat) (x : V) (H'' : Hp) (d : D), xs[i]? = some d → J.yld i H' x H'' → ∃ B'', Same B' B'' ∧ SR K mg A' B'' F' H'' st' ∧ RV K mg A' B'' x d
def semI (X : Cx) (tg iter : Expr) : TI := fun σ H R => ∀ (pins : List (Addr × Obj)) (s : Shared), Inv X pins σ H s →
    wpAny (model X.prog X.w) X.A (eval iter X.env) (fun v s1 => wpAny (model X.prog X.w) X.A (pyIter v) (PIE X pins σ tg R) X.xe s1) X.xe s
theorem pi_sem {X : Cx} {tg iter : Expr} : PI X tg iter (semI X tg iter) := ⟨fun pins s _ _ _ I h => h pins s I⟩
theorem semI_of {X : Cx} {tg iter : Expr} {t : TI} (h : PI X tg iter t) {σ : L2.St} {H : Hp} {R : It → Hp → Prop} (q : t σ H R) : semI X tg iter σ H R := fun pins s I => h.run pins s σ H R I q
/-- behind the sources' evaluation -/
def itk (k : IK) {α : Type} (g : List D → List D → Store → R α) : List D → Store → R α := fun ds st => match iter k (ds.map (rd st)) with
  | none => .stuck
  | some xs => g ds xs st
section
variable {K : PySem.W.Frag} {mg : Str → Option Value} {A : List Addr} {B : Hp} {st : Store}
theorem wd_list {a : Addr} {dx : D} {xs : List D} (r : RV K mg A B (.ref a) dx) (e : rd st dx = .lst xs) : WD K mg A B st [dx] (Itl K a) xs := by
  intro F' A' B' H' st' ext s kp
  have h := (r.mono ext).rs s
  rw [kp.rd (List.mem_singleton.mpr rfl), e] at h
  cases h with
  | lst h1 hl h2 =>
    rename_i vs
    refine ⟨by rw [← h2.length]; exact hl, fun i hi => ⟨vs, vs[i]'(by rw [h2.length]; exact hi), h1, by rw [List.getElem?_eq_getElem]⟩, ⟨vs, h1, by rw [h2.length]; exact Nat.le_refl _⟩, fun i x H'' d hd y => ?_⟩
    obtain ⟨rfl, y⟩ := y
    obtain ⟨v, h3, h4⟩ := h2.get hd
    have e2 := y vs h1
    rw [h3] at e2
    cases e2
    exact ⟨B', Same.refl _, s, h4⟩
theorem wd_tup {a : Addr} {dx : D} {xs : List D} (r : RV K mg A B (.ref a) dx) (e : rd st dx = .tup xs) : WD K mg A B st [dx] (Itt K a) xs := by
  intro F' A' B' H' st' ext s kp
  have h := (r.mono ext).rs s
  rw [kp.rd (List.mem_singleton.mpr rfl), e] at h
  cases h with
  | tup h1 hl h2 =>
    rename_i vs
    refine ⟨by rw [← h2.length]; exact hl, fun i hi => ⟨vs, vs[i]'(by rw [h2.length]; exact hi), h1, by rw [List.getElem?_eq_getElem]⟩, ⟨vs, h1, by rw [h2.length]; exact Nat.le_refl _⟩, fun i x H'' d hd y => ?_⟩
    obtain ⟨rfl, y⟩ := y
    obtain ⟨v, h3, h4⟩ := h2.get hd
    have e2 := y vs h1
    rw [h3] at e2
    cases e2
    exact ⟨B', Same.refl _, s, h4⟩
theorem ints_len (i : Int) (n : Nat) : (TW.rngD i n).length = n := by
  unfold TW.rngD
  rw [List.length_map, List.length_range]
theorem ints_get {i : Int} {n j : Nat} {d : D} (h : (TW.rngD i n)[j]? = some d) : d = .int (i + (j : Nat)) := by
  unfold TW.rngD at h
  rw [List.getElem?_map] at h
  cases e : (List.range n)[j]? with
  | none => rw [e] at h; cases h
  | some k =>
    rw [e] at h
    obtain ⟨h1, h2⟩ := List.getElem?_eq_some_iff.mp e
    rw [List.getElem_range] at h2
    subst h2
    cases h
    rfl
theorem wd_rng {lo : Int} {n : Nat} {ds : List D} (hn : n ≤ lim) : WD K mg A B st ds (Itr lo n) (TW.rngD lo n) := by
  intro F' A' B' H' st' ext s kp
  rw [ints_len]
  refine ⟨hn, fun i hi => hi, Nat.le_refl _, fun i x H'' d hd y => ?_⟩
  obtain ⟨rfl, rfl⟩ := y
  rw [ints_get hd]
  exact ⟨B', Same.refl _, s, .int _⟩
theorem zipD_get : ∀ {xs ys : List D} {i : Nat} {d : D}, (zipD xs ys)[i]? = some d → ∃ x y, xs[i]? = some x ∧ ys[i]? = some y ∧ d = .tup [x, y]
  | [], _, _, _, h => by simp [zipD] at h
  | _ :: _, [], _, _, h => by simp [zipD] at h
  | x :: xs, y :: ys, 0, d, h => by
    simp [zipD] at h
    exact ⟨x, y, rfl, rfl, h.symm⟩
  | x :: xs, y :: ys, i + 1, d, h => by
    have h' : (zipD xs ys)[i]? = some d := by simpa [zipD] using h
    obtain ⟨a, b, h1, h2, h3⟩ := zipD_get h'
    exact ⟨a, b, by simpa using h1, by simpa using h2, h3⟩
theorem zipD_len : ∀ (xs ys : List D), (zipD xs ys).length = min xs.length ys.length
  | [], _ => by simp [zipD]
  | _ :: _, [] => by simp [zipD]
  | x :: xs, y :: ys => by
    simp [zipD, zipD_len xs ys]
theorem enumD_get : ∀ {xs : List D} {k i : Nat} {d : D}, (enumD k xs)[i]? = some d → ∃ x, xs[i]? = some x ∧ d = .tup [.int ((k + i : Nat) : Int), x]
  | [], _, _, _, h => by simp [enumD] at h
  | x :: xs, k, 0, d, h => by
    simp [enumD] at h
    exact ⟨x, rfl, by simpa using h.symm⟩
  | x :: xs, k, i + 1, d, h => by
    have h' : (enumD (k + 1) xs)[i]? = some d := by simpa [enumD] using h
    obtain ⟨a, h1, h2⟩ := enumD_get h'
    exact ⟨a, by simpa using h1, by rw [h2]; congr 4; omega⟩
theorem enumD_len : ∀ (xs : List D) (k : Nat), (enumD k xs).length = xs.length
  | [], _ => rfl
  | x :: xs, k => by simp [enumD, enumD_len xs (k + 1)]
theorem wd_zipT {a b : Addr} {dx dy : D} {xs ys : List D} (r : RV K mg A B (.ref a) dx) (r2 : RV K mg A B (.ref b) dy) (e : rd st dx = .tup xs) (e2 : rd st dy = .tup ys) : WD K mg A B st [dx, dy] (RZ.ItzT K a b) (zipD xs ys) := by
  intro F' A' B' H' st' ext s kp
  have h := (r.mono ext).rs s
  have g := (r2.mono ext).rs s
  rw [kp.rd (by simp), e] at h
  rw [kp.rd (by simp), e2] at g
  cases h with
  | tup h1 hl h2 =>
    rename_i vs
    cases g with
    | tup g1 gl g2 =>
      rename_i us
      refine ⟨by rw [zipD_len, ← h2.length]; exact Nat.le_trans (Nat.min_le_left _ _) hl, fun i hi => ?_, ⟨vs, us, h1, g1, ?_⟩, fun i x H'' d hd y => ?_⟩
      · rw [zipD_len] at hi
        have i1 : i < vs.length := by rw [h2.length]; omega
        have i2 : i < us.length := by rw [g2.length]; omega
        exact ⟨vs, us, vs[i], us[i], h1, g1, List.getElem?_eq_getElem i1, List.getElem?_eq_getElem i2⟩
      · rw [zipD_len, h2.length, g2.length]
        omega
      · obtain ⟨T, x1, y1, rfl, hT, rfl, f1, f2⟩ := y
        obtain ⟨dx1, dy1, q1, q2, rfl⟩ := zipD_get hd
        obtain ⟨v, h3, h4⟩ := h2.get q1
        obtain ⟨u, g3, g4⟩ := g2.get q2
        have z1 := f1 vs h1
        have z2 := f2 us g1
        rw [h3] at z1
        rw [g3] at z2
        cases z1
        cases z2
        exact ⟨_, (ext_alloc s hT).b, s.alloc hT, .tup (SqT.of upd_same) (by show 2 ≤ lim; decide) (.cons (h4.mono (ext_alloc s hT)) (.cons (g4.mono (ext_alloc s hT)) .nil))⟩
theorem wd_zipL {a b : Addr} {dx dy : D} {xs ys : List D} (r : RV K mg A B (.ref a) dx) (r2 : RV K mg A B (.ref b) dy) (e : rd st dx = .lst xs) (e2 : rd st dy = .lst ys) : WD K mg A B st [dx, dy] (Itz K a b) (zipD xs ys) := by
  intro F' A' B' H' st' ext s kp
  have h := (r.mono ext).rs s
  have g := (r2.mono ext).rs s
  rw [kp.rd (by simp), e] at h
  rw [kp.rd (by simp), e2] at g
  cases h with
  | lst h1 hl h2 =>
    rename_i vs
    cases g with
    | lst g1 gl g2 =>
      rename_i us
      refine ⟨by rw [zipD_len, ← h2.length]; exact Nat.le_trans (Nat.min_le_left _ _) hl, fun i hi => ?_, ⟨vs, us, h1, g1, ?_⟩, fun i x H'' d hd y => ?_⟩
      · rw [zipD_len] at hi
        have i1 : i < vs.length := by rw [h2.length]; omega
        have i2 : i < us.length := by rw [g2.length]; omega
        exact ⟨vs, us, vs[i], us[i], h1, g1, List.getElem?_eq_getElem i1, List.getElem?_eq_getElem i2⟩
      · rw [zipD_len, h2.length, g2.length]
        omega
      · obtain ⟨T, x1, y1, rfl, hT, rfl, f1, f2⟩ := y
        obtain ⟨dx1, dy1, q1, q2, rfl⟩ := zipD_get hd
        obtain ⟨v, h3, h4⟩ := h2.get q1
        obtain ⟨u, g3, g4⟩ := g2.get q2
        have z1 := f1 vs h1
        have z2 := f2 us g1
        rw [h3] at z1
        rw [g3] at z2
        cases z1
        cases z2
        exact ⟨_, (ext_alloc s hT).b, s.alloc hT, .tup (SqT.of upd_same) (by show 2 ≤ lim; decide) (.cons (h4.mono (ext_alloc s hT)) (.cons (g4.mono (ext_alloc s hT)) .nil))⟩
theorem wd_enumL {a : Addr} {dx : D} {xs : List D} (r : RV K mg A B (.ref a) dx) (e : rd st dx = .lst xs) : WD K mg A B st [dx] (Ite K a) (enumD 0 xs) := by
  intro F' A' B' H' st' ext s kp
  have h := (r.mono ext).rs s
  rw [kp.rd (by simp), e] at h
  cases h with
  | lst h1 hl h2 =>
    rename_i vs
    refine ⟨by rw [enumD_len, ← h2.length]; exact hl, fun i hi => ?_, ⟨vs, h1, by rw [enumD_len, h2.length]; exact Nat.le_refl _⟩, fun i x H'' d hd y => ?_⟩
    · rw [enumD_len] at hi
      have i1 : i < vs.length := by rw [h2.length]; omega
      exact ⟨vs, vs[i], h1, List.getElem?_eq_getElem i1⟩
    · obtain ⟨T, x1, rfl, hT, rfl, f1⟩ := y
      obtain ⟨dx1, q1, rfl⟩ := enumD_get hd
      obtain ⟨v, h3, h4⟩ := h2.get q1
      have z1 := f1 vs h1
      rw [h3] at z1
      cases z1
      rw [Nat.zero_add]
      exact ⟨_, (ext_alloc s hT).b, s.alloc hT, .tup (SqT.of upd_same) (by show 2 ≤ lim; decide) (.cons (.int _) (.cons (h4.mono (ext_alloc s hT)) .nil))⟩
end

/-! ### a source of the text -/
theorem wd_enumT {K : PySem.W.Frag} {mg : Str → Option Value} {A : List Addr} {B : Hp} {st : Store} {a : Addr} {dx : D} {xs : List D} (r : RV K mg A B (.ref a) dx) (e : rd st dx = .tup xs) : WD K mg A B st [dx] (IteT K a) (enumD 0 xs) := by
  intro F' A' B' H' st' ext s kp
  have h := (r.mono ext).rs s
  rw [kp.rd (by simp), e] at h
  cases h with
  | tup h1 hl h2 =>
    rename_i vs
    refine ⟨by rw [enumD_len, ← h2.length]; exact hl, fun i hi => ?_, ⟨vs, h1, by rw [enumD_len, h2.length]; exact Nat.le_refl _⟩, fun i x H'' d hd y => ?_⟩
    · rw [enumD_len] at hi
      have i1 : i < vs.length := by rw [h2.length]; omega
      exact ⟨vs, vs[i], h1, List.getElem?_eq_getElem i1⟩
    · obtain ⟨T, x1, rfl, hT, rfl, f1⟩ := y
      obtain ⟨dx1, q1, rfl⟩ := enumD_get hd
      obtain ⟨v, h3, h4⟩ := h2.get q1
      have z1 := f1 vs h1
      rw [h3] at z1
      cases z1
      rw [Nat.zero_add]
      exact ⟨_, (ext_alloc s hT).b, s.alloc hT, .tup (SqT.of upd_same) (by show 2 ≤ lim; decide) (.cons (.int _) (.cons (h4.mono (ext_alloc s hT)) .nil))⟩
/-- what is known behind the sources' evaluation -/
def Srcs (K : PySem.W.Frag) (mg : Str → Option Value) (T : Tab) (k : IK) (its : List E) (env : TW.Env) (st : Store) (A : List Addr) (B F : Hp) (Ψ : List Addr → Hp → Store → List D → List D → Prop) : List V → Hp → Prop := fun vs H1 =>
  ∃ A1 B1 st1 ds xs, evEs T its env st = .ok ds st1 ∧ Ext A B A1 B1 ∧ RVs K mg A1 B1 vs ds ∧ SR K mg A1 B1 F H1 st1 ∧ iter k (ds.map (rd st1)) = some xs ∧ Ψ A1 B1 st1 ds xs
def SoundI (c : CC) (tg iter : Expr) (k : IK) (its : List E) : Prop := ∀ (X : Cx) (W : XK) (T : Tab) (lv : Nat), Ctx X W T lv c → ∀ (A : List Addr) (B F H : Hp) (st : Store) (σ : L2.St) (env : TW.Env) (R : It → Hp → Prop) (Ψ : List Addr → Hp → Store → List D → List D → Prop),
  ER X.K X.mg A B σ env → SR X.K X.mg A B F H st →
  PostG X.mg X.K (RVs X.K X.mg) W A B F (Srcs X.K X.mg T k its env st A B F Ψ) (evEs T its env st) →
    (∀ J H1 A1 B1 st1 ds xs, Ext A B A1 B1 → SR X.K X.mg A1 B1 F H1 st1 → WD X.K X.mg A1 B1 st1 ds J xs → Ψ A1 B1 st1 ds xs → R J H1) → semI X tg iter σ H R
theorem itk_some {k : IK} {α β : Type} {mg : Str → Option Value} {K : PySem.W.Frag} {Rel : List Addr → Hp → β → α → Prop} {W : XK} {A : List Addr} {B F : Hp} {P : β → Hp → Prop} {g : List D → List D → Store → TW.R α} {ds : List D} {st : Store} (h : PostG mg K Rel W A B F P (itk k g ds st)) :
    ∃ xs, iter k (ds.map (rd st)) = some xs ∧ PostG mg K Rel W A B F P (g ds xs st) := by
  unfold itk at h
  split at h
  · exact h.elim
  · rename_i xs hx
    exact ⟨xs, hx, h⟩
theorem srcs_of {mg : Str → Option Value} {K : PySem.W.Frag} {T : Tab} {k : IK} {its : List E} {env : TW.Env} {st : Store} {α β : Type} {Rel : List Addr → Hp → β → α → Prop} {W : XK} {A : List Addr} {B F : Hp} {P : β → Hp → Prop} {g : List D → List D → Store → TW.R α}
    (h : PostG mg K Rel W A B F P ((evEs T its env st).bind (itk k g))) : PostG mg K (RVs K mg) W A B F (Srcs K mg T k its env st A B F fun A1 B1 st1 ds xs => PostG mg K Rel W A1 B1 F P (g ds xs st1)) (evEs T its env st) :=
  h.step fun vs H1 A1 B1 st1 ds er e1 rs s1 hP1 => by
    obtain ⟨xs, hx, hP2⟩ := itk_some hP1
    exact ⟨A1, B1, st1, ds, xs, er, e1, rs, s1, hx, hP2⟩
section
variable {c : CC} {tg itx : Expr} {n : Nat}
theorem i_seq {a' : E} (h : SoundE c itx a') : SoundI c tg itx .seq [a'] := by
  intro X W T lv hX A B F H st σ env R Ψ hE hS hP hk
  have hev : evEs T [a'] env st = (evE T a' env st).bind fun x st => .ok [x] st := by
    simp only [evEs, TW.R.bind_ok]
  have hP' : PostG X.mg X.K (RVs X.K X.mg) W A B F (Srcs X.K X.mg T .seq [a'] env st A B F Ψ) ((evE T a' env st).bind fun x st => .ok [x] st) := by
    rw [← hev]
    exact hP
  have one : ∀ {x : V} {H1 : Hp}, Srcs X.K X.mg T .seq [a'] env st A B F Ψ [x] H1 → ∃ A1 B1 st1 dx xs, evE T a' env st = .ok dx st1 ∧ Ext A B A1 B1 ∧ RV X.K X.mg A1 B1 x dx ∧ SR X.K X.mg A1 B1 F H1 st1 ∧ iter .seq [rd st1 dx] = some xs ∧ Ψ A1 B1 st1 [dx] xs := by
    rintro x H1 ⟨A1, B1, st1, ds, xs, er, e1, rs, s1, hx, hq⟩
    cases rs with
    | cons r t =>
      cases t
      rename_i dx
      refine ⟨A1, B1, st1, dx, xs, ?_, e1, r, s1, hx, hq⟩
      rw [hev] at er
      cases h1 : evE T a' env st with
      | ok d st2 =>
        rw [h1] at er
        cases er
        rfl
      | exc c st2 => rw [h1] at er; cases er
      | stuck => rw [h1] at er; cases er
  by_cases ht : ∃ dx st1 ds, evE T a' env st = .ok dx st1 ∧ rd st1 dx = .tup ds
  · obtain ⟨dx0, st0, ds, h1, h2⟩ := ht
    refine semI_of (pi_tup pe_sem) ?_
    refine h X W T lv hX A B F H st σ env _ hE hS (hP'.step fun x H1 A1 B1 st1 dx er e1 rx s1 hP1 => ?_)
    obtain ⟨A2, B2, st2, dx2, xs, er2, e2, r2, s2, hx, hq⟩ := one (hP1 [x] A1 B1 H1 (Ext.refl _ _) (.cons rx .nil) s1)
    rw [h1] at er2
    cases er2
    have z := r2.rs s2
    rw [h2] at z hx
    cases hx
    cases z with
    | tup q1 ql q2 => exact ⟨_, rfl, ⟨_, q1⟩, hk _ _ _ _ _ _ _ e2 s2 (wd_tup r2 h2) hq⟩
  · refine semI_of (pi_list pe_sem) ?_
    refine h X W T lv hX A B F H st σ env _ hE hS (hP'.step fun x H1 A1 B1 st1 dx er e1 rx s1 hP1 => ?_)
    obtain ⟨A2, B2, st2, dx2, xs, er2, e2, r2, s2, hx, hq⟩ := one (hP1 [x] A1 B1 H1 (Ext.refl _ _) (.cons rx .nil) s1)
    have z := r2.rs s2
    cases hd : rd st2 dx2 with
    | tup ds => exact absurd ⟨dx2, st2, ds, er2, hd⟩ ht
    | lst ds =>
      rw [hd] at z hx
      cases hx
      cases z with
      | lst q1 ql q2 => exact ⟨_, rfl, ⟨_, q1⟩, hk _ _ _ _ _ _ _ e2 s2 (wd_list r2 hd) hq⟩
    | _ => rw [hd] at hx; cases hx
variable {a b : Expr} {a' b' : E} {p pos : Pos}
theorem iter_rng1 {gs xs : List D} (h : iter .rng1 gs = some xs) : ∃ j, gs = [.int j] ∧ -1000000 ≤ j ∧ j ≤ 1000000 ∧ xs = TW.rngD 0 j.toNat := by
  unfold iter at h
  split at h <;> first | (rename_i hk; cases hk; done) | skip
  · rename_i hk
    split at h
    · cases h
      exact ⟨_, rfl, by omega, by omega, rfl⟩
    · cases h
  · cases h
theorem iter_rng2 {gs xs : List D} (h : iter .rng2 gs = some xs) : ∃ i j, gs = [.int i, .int j] ∧ (-1000000 ≤ i ∧ i ≤ 1000000 ∧ -1000000 ≤ j ∧ j ≤ 1000000) ∧ xs = TW.rngD i (j - i).toNat := by
  unfold iter at h
  split at h <;> first | (rename_i hk; cases hk; done) | skip
  · rename_i hk
    split at h
    · rename_i hg
      cases h
      exact ⟨_, _, rfl, hg, rfl⟩
    · cases h
  · cases h
theorem iter_zip2 {gs xs : List D} (h : iter .zip2 gs = some xs) : ∃ us ws, xs = zipD us ws ∧ (gs = [.tup us, .tup ws] ∨ gs = [.lst us, .lst ws]) := by
  unfold iter at h
  split at h <;> first | (rename_i hk; cases hk; done) | skip
  · cases h
    exact ⟨_, _, rfl, .inl rfl⟩
  · cases h
    exact ⟨_, _, rfl, .inr rfl⟩
  · cases h
theorem iter_enum {gs xs : List D} (h : iter .enum gs = some xs) : ∃ us, xs = enumD 0 us ∧ (gs = [.tup us] ∨ gs = [.lst us]) := by
  unfold iter at h
  split at h <;> first | (rename_i hk; cases hk; done) | skip
  · cases h
    exact ⟨_, rfl, .inl rfl⟩
  · cases h
    exact ⟨_, rfl, .inr rfl⟩
  · cases h
theorem rd_int_inv {st : Store} {d : D} {i : Int} (h : rd st d = .int i) : d = .int i := by
  unfold rd at h
  split at h
  · cases h
  · cases d with
    | ref n =>
      unfold der at h
      simp only at h
      split at h <;> cases h
    | _ => exact h
theorem i_rng1 (hg : isGl c.sc (nameOf "range") = true) (ha : SoundE c a a') (sa : isStarE a = false) : SoundI c tg (.Call (.Name (nameOf "range") p) [a] [] pos) .rng1 [a'] := by
  intro X W T lv hX A B F H st σ env R Ψ hE hS hP hk
  have m2 : X.mg (nameOf "range") = none := hX.blts "range" (by decide)
  refine semI_of (pi_range1 (gl_of hX hg) m2 pa_sem (star_of sa _ _)) ?_
  refine s_args (.cons ha sa .nil) X W T lv hX A B F H st σ env _ hE hS (hP.imp fun vs H1 ⟨A1, B1, st1, ds, xs, er, e1, rs, s1, hx, hP2⟩ => ?_)
  obtain ⟨j, hj, j1, j2, rfl⟩ := iter_rng1 hx
  have hz := rs.rss s1
  rw [hj] at hz
  cases hz with
  | cons r t =>
    cases t
    cases r
    exact ⟨j, rfl, by omega, by omega, hk _ _ _ _ _ _ _ e1 s1 (wd_rng (by unfold lim; omega)) hP2⟩
theorem i_rng2 (hg : isGl c.sc (nameOf "range") = true) (ha : SoundE c a a') (sa : isStarE a = false) (hb : SoundE c b b') (sb : isStarE b = false) : SoundI c tg (.Call (.Name (nameOf "range") p) [a, b] [] pos) .rng2 [a', b'] := by
  intro X W T lv hX A B F H st σ env R Ψ hE hS hP hk
  have m2 : X.mg (nameOf "range") = none := hX.blts "range" (by decide)
  refine semI_of (pi_range2 (gl_of hX hg) m2 pa_sem (by rw [star_of sa, star_of sb]; rfl) (star_of sb _ _)) ?_
  refine s_args (.cons ha sa (.cons hb sb .nil)) X W T lv hX A B F H st σ env _ hE hS (hP.imp fun vs H1 ⟨A1, B1, st1, ds, xs, er, e1, rs, s1, hx, hP2⟩ => ?_)
  obtain ⟨i, j, hj, j1, rfl⟩ := iter_rng2 hx
  have hz := rs.rss s1
  rw [hj] at hz
  cases hz with
  | cons r t =>
    cases t with
    | cons r2 t =>
      cases t
      cases r
      cases r2
      exact ⟨i, j, rfl, ⟨by omega, by omega, by omega, by omega⟩, hk _ _ _ _ _ _ _ e1 s1 (wd_rng (by unfold lim; omega)) hP2⟩
theorem map_two {f : D → D} {ds : List D} {x y : D} (h : ds.map f = [x, y]) : ∃ a b, ds = [a, b] ∧ f a = x ∧ f b = y := by
  match ds, h with
  | [a, b], h => exact ⟨a, b, rfl, by simpa using h⟩
theorem map_one {f : D → D} {ds : List D} {x : D} (h : ds.map f = [x]) : ∃ a, ds = [a] ∧ f a = x := by
  match ds, h with
  | [a], h => exact ⟨a, rfl, by simpa using h⟩
variable {elts : List Expr} {kk : Nat} {tpos : Pos}
theorem i_zip (hg : isGl c.sc (nameOf "zip") = true) (ha : SoundE c a a') (sa : isStarE a = false) (hb : SoundE c b b') (sb : isStarE b = false) : SoundI c (.Tuple elts kk tpos) (.Call (.Name (nameOf "zip") p) [a, b] [] pos) .zip2 [a', b'] := by
  intro X W T lv hX A B F H st σ env R Ψ hE hS hP hk
  have m2 : X.mg (nameOf "zip") = none := hX.blts "zip" (by decide)
  refine semI_of (RZ.pi_zipA (gl_of hX hg) m2 pa_sem (star_of sa _ _) (by rw [star_of sb]; rfl)) ?_
  refine s_args (.cons ha sa (.cons hb sb .nil)) X W T lv hX A B F H st σ env _ hE hS (hP.imp fun vs H1 ⟨A1, B1, st1, ds, xs, er, e1, rs, s1, hx, hP2⟩ => ?_)
  obtain ⟨us, ws, rfl, hj⟩ := iter_zip2 hx
  rcases hj with hj | hj
  · obtain ⟨d1, d2, rfl, q1, q2⟩ := map_two hj
    cases rs with
    | cons r t =>
      cases t with
      | cons r2 t =>
        cases t
        have z1 := r.rs s1
        have z2 := r2.rs s1
        rw [q1] at z1
        rw [q2] at z2
        cases z1 with
        | tup y1 _ _ =>
          cases z2 with
          | tup y2 _ _ => exact ⟨_, _, _, _, rfl, .inr ⟨y1, y2, hk _ _ _ _ _ _ _ e1 s1 (wd_zipT r r2 q1 q2) hP2⟩⟩
  · obtain ⟨d1, d2, rfl, q1, q2⟩ := map_two hj
    cases rs with
    | cons r t =>
      cases t with
      | cons r2 t =>
        cases t
        have z1 := r.rs s1
        have z2 := r2.rs s1
        rw [q1] at z1
        rw [q2] at z2
        cases z1 with
        | lst y1 _ _ =>
          cases z2 with
          | lst y2 _ _ => exact ⟨_, _, _, _, rfl, .inl ⟨y1, y2, hk _ _ _ _ _ _ _ e1 s1 (wd_zipL r r2 q1 q2) hP2⟩⟩
theorem i_enum (hg : isGl c.sc (nameOf "enumerate") = true) (ha : SoundE c a a') (sa : isStarE a = false) : SoundI c (.Tuple elts kk tpos) (.Call (.Name (nameOf "enumerate") p) [a] [] pos) .enum [a'] := by
  intro X W T lv hX A B F H st σ env R Ψ hE hS hP hk
  have m2 : X.mg (nameOf "enumerate") = none := hX.blts "enumerate" (by decide)
  by_cases ht : ∃ ds st1 us, evEs T [a'] env st = .ok ds st1 ∧ ds.map (rd st1) = [.tup us]
  · obtain ⟨ds0, st0, us, h1, h2⟩ := ht
    refine semI_of (pi_enumT (gl_of hX hg) m2 pa_sem (star_of sa _ _)) ?_
    refine s_args (.cons ha sa .nil) X W T lv hX A B F H st σ env _ hE hS (hP.imp fun vs H1 ⟨A1, B1, st1, ds, xs, er, e1, rs, s1, hx, hP2⟩ => ?_)
    rw [h1] at er
    cases er
    obtain ⟨d, rfl, q⟩ := map_one h2
    rw [h2] at hx
    cases hx
    cases rs with
    | cons r t =>
      cases t
      have z := r.rs s1
      rw [q] at z
      cases z with
      | tup y1 _ _ => exact ⟨_, _, rfl, y1, hk _ _ _ _ _ _ _ e1 s1 (wd_enumT r q) hP2⟩
  · refine semI_of (pi_enum (gl_of hX hg) m2 pa_sem (star_of sa _ _)) ?_
    refine s_args (.cons ha sa .nil) X W T lv hX A B F H st σ env _ hE hS (hP.imp fun vs H1 ⟨A1, B1, st1, ds, xs, er, e1, rs, s1, hx, hP2⟩ => ?_)
    obtain ⟨us, rfl, hj⟩ := iter_enum hx
    rcases hj with hj | hj
    · exact absurd ⟨ds, st1, us, er, hj⟩ ht
    · obtain ⟨d, rfl, q⟩ := map_one hj
      cases rs with
      | cons r t =>
        cases t
        have z := r.rs s1
        rw [q] at z
        cases z with
        | lst y1 _ _ => exact ⟨_, _, rfl, y1, hk _ _ _ _ _ _ _ e1 s1 (wd_enumL r q) hP2⟩
/-- every source that cIter takes -/
theorem i_all {k : IK} {its : List E} (hs : ∀ e e', cE c n e = some e' → SoundE c e e') (h : cIter (cE c n) c tg itx = some (k, its)) : SoundI c tg itx k its := by
  have seq : ∀ {e : Expr}, (cE c n e).map (fun a => (IK.seq, [a])) = some (k, its) → SoundI c tg e k its := fun {e} h => by
    cases h1 : cE c n e with
    | none => rw [h1] at h; cases h
    | some a =>
      rw [h1] at h
      cases h
      exact i_seq (hs e a h1)
  unfold cIter at h
  split at h
  · rename_i x px args q
    split at h
    · rename_i hc
      simp only [Bool.and_eq_true] at hc
      split at h
      · rename_i a
        split at h
        · rename_i hx
          have ex : x = nameOf "range" := by simpa using hx
          subst ex
          cases h1 : opts (cE c n) [a] with
          | none => rw [h1] at h; cases h
          | some as =>
            rw [h1] at h
            cases h
            obtain ⟨a', as', h2, h3, rfl⟩ := opts_cons h1
            cases h3
            exact i_rng1 hc.1 (hs _ _ h2) (cE_star h2)
        · split at h
          · rename_i hx
            simp only [Bool.and_eq_true, beq_iff_eq] at hx
            obtain ⟨rfl, ht⟩ := hx
            cases tg with
            | Tuple elts kk tpos =>
              cases h1 : opts (cE c n) [a] with
              | none => rw [h1] at h; cases h
              | some as =>
                rw [h1] at h
                cases h
                obtain ⟨a', as', h2, h3, rfl⟩ := opts_cons h1
                cases h3
                exact i_enum hc.1 (hs _ _ h2) (cE_star h2)
            | _ => cases ht
          · cases h
      · rename_i a b
        split at h
        · rename_i hx
          have ex : x = nameOf "range" := by simpa using hx
          subst ex
          cases h1 : opts (cE c n) [a, b] with
          | none => rw [h1] at h; cases h
          | some as =>
            rw [h1] at h
            cases h
            obtain ⟨a', as', h2, h3, rfl⟩ := opts_cons h1
            obtain ⟨b', bs', h4, h5, rfl⟩ := opts_cons h3
            cases h5
            exact i_rng2 hc.1 (hs _ _ h2) (cE_star h2) (hs _ _ h4) (cE_star h4)
        · split at h
          · rename_i hx
            simp only [Bool.and_eq_true, beq_iff_eq] at hx
            obtain ⟨rfl, ht⟩ := hx
            cases tg with
            | Tuple elts kk tpos =>
              cases h1 : opts (cE c n) [a, b] with
              | none => rw [h1] at h; cases h
              | some as =>
                rw [h1] at h
                cases h
                obtain ⟨a', as', h2, h3, rfl⟩ := opts_cons h1
                obtain ⟨b', bs', h4, h5, rfl⟩ := opts_cons h3
                cases h5
                exact i_zip hc.1 (hs _ _ h2) (cE_star h2) (hs _ _ h4) (cE_star h4)
            | _ => cases ht
          · cases h
      · cases h
    · exact seq h
  · cases h
  · exact seq h
theorem cIter_set {k : IK} {its : List E} {f : Expr → Option E} (h : cIter f c tg itx = some (k, its)) (env : PySem.Env) (x : Value) : foldedSetIterable itx env x = pure x := by
  cases itx with
  | Set => cases h
  | _ => rfl
end
end TW
/-! TwLc: targets and comprehensions. -/
namespace TW
open PySem PySem.Spec PyProof.Rows L2

/-! ### targets -/
def semG (X : Cx) (tg : Expr) : TG := fun v σ H Q => ∀ (pins : List (Addr × Obj)) (s : Shared) (u : Value), Inv X pins σ H s → RelV v u →
    wpAny (model X.prog X.w) X.A (assign tg X.env u) (fun _ s' => ∃ σ' H', Inv X pins σ' H' s' ∧ Q σ' H') X.xe s
theorem pg_sem {X : Cx} {tg : Expr} : PG X tg (semG X tg) := ⟨fun pins s _ _ _ u _ I r h => h pins s u I r⟩
theorem semG_of {X : Cx} {tg : Expr} {t : TG} (h : PG X tg t) {v : V} {σ : L2.St} {H : Hp} {Q : L2.St → Hp → Prop} (q : t v σ H Q) : semG X tg v σ H Q := fun pins s u I r => h.run pins s σ H v u Q I r q
def setAll : L2.St → List Nat → List V → L2.St
  | σ, i :: is, v :: vs => setAll (σ.set i (some v)) is vs
  | σ, _, _ => σ
def gNames (is : List Nat) : TGs := fun vs σ H Q => vs.length = is.length ∧ Q (setAll σ is vs) H
section
variable {c : CC}
theorem cNames_cons {e : Expr} {es : List Expr} {ps : List (Str × Nat)} (h : cNames c (e :: es) = some ps) : ∃ x pos i qs, e = .Name x pos ∧ ixOf c.N x = some i ∧ cNames c es = some qs ∧ ps = (x, i) :: qs := by
  cases e with
  | Name x pos =>
    unfold cNames at h
    split at h
    · rename_i i is h1 h2
      cases h
      exact ⟨x, pos, i, is, rfl, h1, h2, rfl⟩
    · cases h
  | _ => cases h
theorem pgs_names {X : Cx} {W : XK} {T : Tab} {lv : Nat} (hX : Ctx X W T lv c) : ∀ {es : List Expr} {ps : List (Str × Nat)}, cNames c es = some ps → (∀ p ∈ ps, p.1 ∈ c.stor) → PGs X es (gNames (ps.map (·.2)))
  | [], ps, h, _ => by
    cases h
    refine ⟨fun pins s σ H vs us Q I r hq => ?_⟩
    obtain ⟨hl, q⟩ := hq
    have e : vs = [] := List.eq_nil_of_length_eq_zero hl
    subst e
    exact pgs_nil.run pins s σ H [] us Q I r ⟨rfl, q⟩
  | e :: es, ps, h, hs => by
    obtain ⟨x, pos, i, qs, rfl, h1, h2, rfl⟩ := cNames_cons h
    obtain ⟨l1, l2⟩ := hX.stor x (hs (x, i) List.mem_cons_self)
    have g1 : PG X (.Name x pos) (gName i) := pg_name hX.nd (by rw [hX.hN]; exact ixOf_get h1) l1 l2
    have g2 := pgs_names hX h2 fun p hp => hs p (List.mem_cons_of_mem _ hp)
    refine ⟨fun pins s σ H vs us Q I r hq => ?_⟩
    obtain ⟨hl, q⟩ := hq
    cases vs with
    | nil => simp at hl
    | cons v vs => exact (pgs_cons g1 g2 rfl).run pins s σ H (v :: vs) us Q I r ⟨v, vs, rfl, by simpa using hl, q⟩
theorem names_len {env : PySem.Env} : ∀ {es : List Expr} {ps : List (Str × Nat)}, cNames c es = some ps → (assignEach es env).length = ps.length
  | [], ps, h => by cases h; rfl
  | e :: es, ps, h => by
    obtain ⟨x, pos, i, qs, rfl, h1, h2, rfl⟩ := cNames_cons h
    exact congrArg (· + 1) (names_len h2)
theorem names_star {env : PySem.Env} : ∀ {es : List Expr} {ps : List (Str × Nat)}, cNames c es = some ps → (assignEach es env).findIdx? (·.1) = none
  | [], ps, h => by cases h; rfl
  | e :: es, ps, h => by
    obtain ⟨x, pos, i, qs, rfl, h1, h2, rfl⟩ := cNames_cons h
    show List.findIdx? (·.1) ((false, assign (.Name x pos) env) :: assignEach es env) = none
    rw [List.findIdx?_cons, names_star h2]
    rfl
section
variable {K : PySem.W.Frag} {mg : Str → Option Value} {A : List Addr} {B : Hp}
theorem ER.setAll : ∀ {is : List Nat} {vs : List V} {ds : List D} {σ : L2.St} {env env' : TW.Env}, ER K mg A B σ env → RVs K mg A B vs ds → asgs is ds env = some env' → ER K mg A B (TW.setAll σ is vs) env' ∧ vs.length = is.length
  | [], _, _, _, _, _, h, .nil, e => by
    cases e
    exact ⟨h, rfl⟩
  | [], _, _, _, _, _, h, .cons _ _, e => by cases e
  | _ :: _, _, _, _, _, _, h, .nil, e => by cases e
  | i :: is, _, _, _, _, _, h, .cons r t, e => by
    obtain ⟨h1, h2⟩ := ER.setAll (is := is) (h.set (i := i) r) t e
    exact ⟨h1, congrArg (· + 1) h2⟩
end
theorem wipe_at {σ : L2.St} : ∀ {vs : List Nat} {i : Nat}, i ∈ vs → i < σ.length → (wipe σ vs)[i]? = some none
  | v :: vs, i, h, hl => by
    unfold wipe
    by_cases e : v = i
    · subst e
      exact List.getElem?_set_self (by rw [wipe_length]; exact hl)
    · rw [List.getElem?_set_ne e]
      rcases List.mem_cons.mp h with e' | h
      · exact absurd e'.symm e
      · exact wipe_at h hl
theorem wipe_set {σ : L2.St} {vs : List Nat} {i : Nat} {x : Option V} (h : i ∈ vs) : wipe (σ.set i x) vs = wipe σ vs := by
  apply List.ext_getElem?
  intro j
  by_cases hj : j ∈ vs
  · by_cases hl : j < σ.length
    · rw [wipe_at hj hl, wipe_at hj (by rw [List.length_set]; exact hl)]
    · rw [List.getElem?_eq_none (by rw [wipe_length, List.length_set]; omega), List.getElem?_eq_none (by rw [wipe_length]; omega)]
  · have e : i ≠ j := fun e => hj (by rw [← e]; exact h)
    rw [wipe_out hj, wipe_out hj, List.getElem?_set_ne e]
theorem wipe_setAll {vs : List Nat} : ∀ {is : List Nat} {us : List V} {σ : L2.St}, (∀ i ∈ is, i ∈ vs) → wipe (setAll σ is us) vs = wipe σ vs
  | [], us, σ, _ => by cases us <;> rfl
  | _ :: _, [], σ, _ => rfl
  | i :: is, u :: us, σ, h => by
    show wipe (setAll (σ.set i (some u)) is us) vs = wipe σ vs
    rw [wipe_setAll fun j hj => h j (List.mem_cons_of_mem _ hj), wipe_set (h i List.mem_cons_self)]
theorem wipe_wipe {σ : L2.St} {vs : List Nat} : wipe (wipe σ vs) vs = wipe σ vs := by
  apply List.ext_getElem?
  intro j
  by_cases hj : j ∈ vs
  · by_cases hl : j < σ.length
    · rw [wipe_at hj hl, wipe_at hj (by rw [wipe_length]; exact hl)]
    · rw [List.getElem?_eq_none (by rw [wipe_length, wipe_length]; omega), List.getElem?_eq_none (by rw [wipe_length]; omega)]
  · rw [wipe_out hj]
def tgIx : Tg → List Nat
  | .nm i => [i]
  | .tp is => is
/-- a target takes data -/
theorem s_tg {X : Cx} {W : XK} {T : Tab} {lv : Nat} (hX : Ctx X W T lv c) {tg : Expr} {t : Tg} (h : cTg c tg = some t) {A : List Addr} {B F H : Hp} {st : Store} {σ : L2.St} {env env' : TW.Env} {v : V} {d : D} {Q : L2.St → Hp → Prop}
    (hE : ER X.K X.mg A B σ env) (s : SR X.K X.mg A B F H st) (r : RV X.K X.mg A B v d) (e : asgT t env d = some env')
    (q : ∀ σ', ER X.K X.mg A B σ' env' → (∀ vs, (∀ i ∈ tgIx t, i ∈ vs) → wipe σ' vs = wipe σ vs) → Q σ' H) : semG X tg v σ H Q := by
  unfold cTg at h
  split at h
  · rename_i x pos
    split at h
    · rename_i i hi
      split at h
      · rename_i hs
        cases h
        cases e
        obtain ⟨l1, l2⟩ := hX.stor x hs
        exact semG_of (pg_name hX.nd (by rw [hX.hN]; exact ixOf_get hi) l1 l2) (q _ (hE.set r) fun vs hv => wipe_set (hv i (List.mem_singleton.mpr rfl)))
      · cases h
    · cases h
  · rename_i es k pos
    split at h
    · rename_i ps hp
      split at h
      · rename_i hs
        cases h
        have hs' : ∀ p ∈ ps, p.1 ∈ c.stor := fun p hp => by simpa using List.all_eq_true.mp hs p hp
        cases d with
        | tup ds =>
          have e' : asgs (ps.map (·.2)) ds env = some env' := e
          cases r with
          | tup r1 rl r2 =>
            obtain ⟨h1, h2⟩ := hE.setAll r2 e'
            rw [List.length_map] at h2
            exact semG_of (pg_tup hX.calm (pgs_names hX hp hs') rfl (names_star hp)) ⟨_, _, rfl, Same.seqT s.sb r1, by rw [h2]; exact (names_len hp).symm, by rw [h2, List.length_map], q _ h1 fun vs hv => wipe_setAll hv⟩
        | _ => cases e
      · cases h
    · cases h
  · cases h
end

/-! ### frames -/
section
variable {K : PySem.W.Frag} {mg : Str → Option Value} {A : List Addr} {B F H : Hp} {st : Store} {p : Addr} {o o' : HO}
/-- a new object that is kept besides -/
theorem SR.frame (s : SR K mg A B F H st) (hp : H p = none) : SR K mg A B (upd F p o) (upd H p o) st := by
  have hB : B p = none := s.sb.free hp
  have hA : p ∉ A := s.notin hp
  refine ⟨s.len, s.nd, s.nb, fun a ha => ?_, fun b u e => ?_, fun b u e => ?_, fun b u e => ?_, fun n a c h1 h2 => ?_⟩
  · have z : a ≠ p := fun z => hA (by rw [← z]; exact ha)
    rw [upd_ne z]
    exact s.nf a ha
  · rw [upd_ne (ne_of_none e hB)]
    exact s.sb b u e
  · by_cases z : b = p
    · subst z; rw [upd_same] at e ⊢; exact e
    · rw [upd_ne z] at e ⊢; exact s.sf b u e
  · by_cases z : b = p
    · subst z; exact hB
    · rw [upd_ne z] at e; exact s.fb b u e
  · refine (s.cel n a c h1 h2).mono (Ext.refl A B) (upd_ne fun z => hA ?_)
    rw [← z]
    exact List.mem_of_getElem? h1
theorem SR.at (s : SR K mg A B (upd F p o) H st) : H p = some o := s.sf p o upd_same
/-- .. changed -/
theorem SR.reframe (s : SR K mg A B (upd F p o) H st) : SR K mg A B (upd F p o') (upd H p o') st := by
  have hB : B p = none := s.fb p o upd_same
  have hA : p ∉ A := fun h => by
    have := s.nf p h
    rw [upd_same] at this
    cases this
  refine ⟨s.len, s.nd, s.nb, fun a ha => ?_, fun b u e => ?_, fun b u e => ?_, fun b u e => ?_, fun n a c h1 h2 => ?_⟩
  · have z : a ≠ p := fun z => hA (by rw [← z]; exact ha)
    have := s.nf a ha
    rw [upd_ne z] at this ⊢
    exact this
  · rw [upd_ne (ne_of_none e hB)]
    exact s.sb b u e
  · by_cases z : b = p
    · subst z; rw [upd_same] at e ⊢; exact e
    · rw [upd_ne z] at e ⊢
      exact s.sf b u (by rw [upd_ne z]; exact e)
  · by_cases z : b = p
    · subst z; exact hB
    · rw [upd_ne z] at e
      exact s.fb b u (by rw [upd_ne z]; exact e)
  · refine (s.cel n a c h1 h2).mono (Ext.refl A B) (upd_ne fun z => hA ?_)
    rw [← z]
    exact List.mem_of_getElem? h1
/-- .. and at last among what stays -/
theorem SR.unframe (s : SR K mg A B (upd F p o) H st) (hF : F p = none) : SR K mg A (upd B p o) F H st := by
  have hB : B p = none := s.fb p o upd_same
  have hA : p ∉ A := fun h => by
    have := s.nf p h
    rw [upd_same] at this
    cases this
  have x : Ext A B A (upd B p o) := .b_of fun b u e => by rw [upd_ne (ne_of_none e hB)]; exact e
  refine ⟨s.len, s.nd, fun a ha => ?_, fun a ha => ?_, fun b u e => ?_, fun b u e => ?_, fun b u e => ?_, fun n a c h1 h2 => ?_⟩
  · have z : a ≠ p := fun z => hA (by rw [← z]; exact ha)
    rw [upd_ne z]
    exact s.nb a ha
  · have z : a ≠ p := fun z => hA (by rw [← z]; exact ha)
    have := s.nf a ha
    rw [upd_ne z] at this
    exact this
  · by_cases z : b = p
    · subst z; rw [upd_same] at e; cases e; exact s.at
    · rw [upd_ne z] at e; exact s.sb b u e
  · exact s.sf b u (by rw [upd_ne (ne_of_none e hF)]; exact e)
  · rw [upd_ne (ne_of_none e hF)]
    exact s.fb b u (by rw [upd_ne (ne_of_none e hF)]; exact e)
  · exact (s.cel n a c h1 h2).mono x rfl
theorem ext_frame (s : SR K mg A B (upd F p o) H st) : Ext A B A (upd B p o) := .b_of fun b u e => by rw [upd_ne (ne_of_none e (s.fb p o upd_same))]; exact e
end

/-! ### the context within -/
theorem ctx_blk {X : Cx} {W : XK} {T : Tab} {lv : Nat} {c : CC} (hX : Ctx X W T lv c) {scope : Scope} {own : List (Str × Nat)} (h : ownOk c scope own = true) (s : Shared) (H : Hp) (C : Addr) (cl : List (Str × Addr)) (fp : List Addr) :
    Ctx (X.blk s H scope (compEnvC scope cl C X.env) fp) (fun _ _ _ => False) T lv (c.blk scope own) := by
  unfold ownOk at h
  simp only [Bool.and_eq_true] at h
  have b := blkOk_by h.1
  have es : (compEnvC scope cl C X.env).scope = relS scope c.sc := by
    have e : (compEnvC scope cl C X.env).scope = relS scope X.env.scope := rfl
    rw [e, hX.sc]
  refine ⟨hX.hN, hX.nd, es, ?_, hX.calm, PassesOwn.never, takes0, hX.room, fun x hx => ?_, hX.tabs, hX.excs, hX.ins, hX.blts⟩
  · show (compEnvC scope cl C X.env).scope.kind = _
    rw [es]
    exact b.kind
  · have hx' : x ∈ own.map (·.1) := hx
    obtain ⟨p, hp, rfl⟩ := List.mem_map.mp hx'
    have h2 := List.all_eq_true.mp h.2 p hp
    split at h2
    · rename_i e
      have e2 : (relS scope c.sc).names.lookup p.1 = some .local := lookup_relS_keep (by decide) e
      refine ⟨.inl ?_, .inr ?_⟩
      · show (compEnvC scope cl C X.env).scope.names.lookup p.1 = _
        rw [es]; exact e2
      · show (compEnvC scope cl C X.env).scope.names.lookup p.1 = _
        rw [es]; exact e2
    · rename_i e
      have e2 : (relS scope c.sc).names.lookup p.1 = some .cell := lookup_relS_keep (by decide) e
      refine ⟨.inr ?_, .inl ?_⟩
      · show (compEnvC scope cl C X.env).scope.names.lookup p.1 = _
        rw [es]; exact e2
      · show (scope.names.lookup p.1 == some .cell) = true
        rw [e]
        rfl
    · cases h2

/-! ### the ifs of a clause -/
def semIfs (X : Cx) (ifs : List Expr) : TT := fun σ H Q => ∀ (pins : List (Addr × Obj)) (s : Shared), Inv X pins σ H s →
    wpAny (model X.prog X.w) X.A (forIn ifs true fun c r => if r = true then do let ok ← isTrue c X.env (eval c X.env); pure (ForInStep.yield ok) else pure (ForInStep.yield r)) (TP X pins σ Q) X.xe s
theorem pts_sem {X : Cx} {ifs : List Expr} : PTs X ifs (semIfs X ifs) := ⟨fun pins s _ _ _ I h => h pins s I⟩
theorem semIfs_of {X : Cx} {ifs : List Expr} {t : TT} (h : PTs X ifs t) {σ : L2.St} {H : Hp} {Q : Bool → Hp → Prop} (q : t σ H Q) : semIfs X ifs σ H Q := fun pins s I => h.run pins s σ H Q I q
theorem s_ifs {c : CC} {ifs : List Expr} {ifs' : List E} (h : AllS (SoundT c) ifs ifs') (hl : ifs.length ≤ 1) (X : Cx) (W : XK) (T : Tab) (lv : Nat) (hX : Ctx X W T lv c) (A : List Addr) (B F H : Hp) (st : Store) (σ : L2.St) (env : TW.Env) (Q : Bool → Hp → Prop)
    (hE : ER X.K X.mg A B σ env) (hS : SR X.K X.mg A B F H st) (hP : PostG X.mg X.K RelB W A B F Q (evIfs T ifs' env st)) : semIfs X ifs σ H Q := by
  cases h with
  | nil =>
    simp only [evIfs] at hP
    exact semIfs_of pts_nil (hP true A B H (Ext.refl _ _) rfl hS)
  | cons h s t =>
    cases t with
    | nil =>
      refine semIfs_of (pts_one pt_sem) (h X W T lv hX A B F H st σ env Q hE hS ?_)
      rw [evIfs] at hP
      exact hP
    | cons => simp at hl

/-! ### runs without errors -/
section
variable {mg : Str → Option Value} {K : PySem.W.Frag} {α β γ δ ε : Type} {Rel : List Addr → Hp → β → α → Prop} {Rel' : List Addr → Hp → δ → γ → Prop} {W : XK} {A : List Addr} {B F F' : Hp} {Q : β → Hp → Prop} {P : δ → Hp → Prop}
theorem PostG.stepN {r : TW.R α} {h : α → Store → TW.R ε} {k : ε → Store → TW.R γ} (hp : PostG mg K Rel' W A B F P ((noexc (r.bind h)).bind k))
    (q : ∀ v H1 A1 B1 st1 x, r = .ok x st1 → Ext A B A1 B1 → Rel A1 B1 v x → SR K mg A1 B1 F' H1 st1 → PostG mg K Rel' W A1 B1 F P ((noexc (h x st1)).bind k) → Q v H1) : PostG mg K Rel (fun _ _ _ => False) A B F' Q r := by
  cases r with
  | ok d st => exact fun v A1 B1 H1 e rel s => q v H1 A1 B1 st d rfl e rel s (PostG.ext (r := (noexc (h d st)).bind k) hp e)
  | exc c st => exact hp.elim
  | stuck => exact hp
theorem chk_bind {st st' : Store} {ds : List D} {r : TW.R α} {k : α → Store → TW.R γ} : (chk st ds st' r).bind k = chk st ds st' (r.bind k) := by
  unfold chk
  split <;> rfl
end

/-! ### a comprehension of one clause -/
/-- one turn's run -/
def lcF (T : Tab) (elt : E) (tg : Tg) (ifs : List E) (env : TW.Env) : D → Store → TW.R (List D) := fun x st => noexc (match asgT tg env x with
  | none => .stuck
  | some env1 => (evIfs T ifs env1 st).bind fun b st => if b then (evE T elt env1 st).bind fun y st => .ok [y] st else .ok [] st)
/-- what one turn gives to the list at D -/
theorem lc_turn {X : Cx} {W0 : XK} {T : Tab} {lv : Nat} {c : CC} {scope : Scope} (hB : ∀ s0 H0 C cl fp, Ctx (X.blk s0 H0 scope (compEnvC scope cl C X.env) fp) (fun _ _ _ => False) T lv c) {tg : Expr} {tg' : Tg} {ifs : List Expr} {ifs' : List E} {elt : Expr} {elt' : E} (ht : cTg c tg = some tg') (hi : AllS (SoundT c) ifs ifs') (hl : ifs.length ≤ 1) (he : SoundE c elt elt')
    {A : List Addr} {B F H : Hp} {st : Store} {σ : L2.St} {env : TW.Env} {v : V} {d : D} {D0 : Addr} {vacc : List V} {own : List Nat} {Nx : Hp → Prop} {k : List D → Store → TW.R D} {Q : VK}
    (hw : ∀ i ∈ tgIx tg', i ∈ own) (hE : ER X.K X.mg A B σ env) (s : SR X.K X.mg A B (upd F D0 (.lst vacc)) H st) (r : RV X.K X.mg A B v d)
    (hP : PostG X.mg X.K (RV X.K X.mg) W0 A B F Q ((lcF T elt' tg' ifs' env d st).bind k))
    (n1 : ∀ A1 B1 H1 st1 y dy, Ext A B A1 B1 → SR X.K X.mg A1 B1 (upd F D0 (.lst vacc)) H1 st1 → RV X.K X.mg A1 B1 y dy → PostG X.mg X.K (RV X.K X.mg) W0 A1 B1 F Q (k [dy] st1) → vacc.length < sizeLine ∧ Nx (upd H1 D0 (.lst (vacc ++ [y]))))
    (n0 : ∀ A1 B1 H1 st1, Ext A B A1 B1 → SR X.K X.mg A1 B1 (upd F D0 (.lst vacc)) H1 st1 → PostG X.mg X.K (RV X.K X.mg) W0 A1 B1 F Q (k [] st1) → Nx H1) :
    ∀ s0 H0 C cl fp, semG (X.blk s0 H0 scope (compEnvC scope cl C X.env) fp) tg v σ H fun σ2 H2 => wipe σ2 own = wipe σ own ∧ ∀ s0 H0 C cl fp, semIfs (X.blk s0 H0 scope (compEnvC scope cl C X.env) fp) ifs σ2 H2 fun b H3 =>
      if b = true then ∀ s0 H0 C cl fp, semE (X.blk s0 H0 scope (compEnvC scope cl C X.env) fp) elt σ2 H3 fun y H4 => ∃ acc, H4 D0 = some (.lst acc) ∧ acc.length < sizeLine ∧ Nx (upd H4 D0 (.lst (acc ++ [y]))) else Nx H3 := by
  intro s0 H0 C cl fp
  unfold lcF at hP
  cases ha : asgT tg' env d with
  | none => rw [ha] at hP; exact hP.elim
  | some env1 =>
    rw [ha] at hP
    refine s_tg (hB s0 H0 C cl fp) ht hE s r ha fun σ2 hE2 hw2 => ⟨hw2 own hw, fun s0 H0 C cl fp => ?_⟩
    refine s_ifs hi hl _ _ T lv (hB s0 H0 C cl fp) A B (upd F D0 (.lst vacc)) H st σ2 env1 _ hE2 s (hP.stepN fun b H1 A1 B1 st1 b' _ e1 rb s1 hP1 => ?_)
    have q : b = b' := rb
    subst q
    cases b with
    | false =>
      refine iteF (n0 A1 B1 H1 st1 e1 s1 ?_)
      exact hP1
    | true =>
      refine iteT fun s0 H0 C cl fp => ?_
      have hP2 : PostG X.mg X.K (RV X.K X.mg) W0 A1 B1 F Q ((noexc ((evE T elt' env1 st1).bind fun y st => .ok [y] st)).bind k) := hP1
      refine he _ _ T lv (hB s0 H0 C cl fp) A1 B1 (upd F D0 (.lst vacc)) H1 st1 σ2 env1 _ (hE2.mono e1) s1 (hP2.stepN fun y H2 A2 B2 st2 dy _ e2 ry s2 hP3 => ?_)
      have z := n1 A2 B2 H2 st2 y dy (e1.trans e2) s2 ry hP3
      exact ⟨vacc, s2.at, z.1, z.2⟩
theorem cNames_own {c : CC} {scope : Scope} {own : List (Str × Nat)} : ∀ {es : List Expr}, cNames (c.blk scope own) es = cNames c es
  | [] => rfl
  | e :: es => by
    cases e with
    | Name x pos =>
      unfold cNames
      rw [cNames_own (es := es)]
      rfl
    | _ => rfl
theorem tg_own {c : CC} {scope : Scope} {own ps : List (Str × Nat)} {tg : Expr} {tg' : Tg} (h : tgOwn c tg = some ps) (h2 : cTg (c.blk scope own) tg = some tg') : tgIx tg' = ps.map (·.2) := by
  cases tg with
  | Name x pos =>
    unfold tgOwn at h
    obtain ⟨y, pos', i, qs, e, h3, h4, rfl⟩ := cNames_cons h
    cases e
    cases h4
    have h2' : (match ixOf (c.blk scope own).N x with
      | some i => if x ∈ (c.blk scope own).stor then some (Tg.nm i) else none
      | none => none) = some tg' := h2
    have h3' : ixOf (c.blk scope own).N x = some i := h3
    rw [h3'] at h2'
    simp only at h2'
    split at h2'
    · cases h2'
      rfl
    · cases h2'
  | Tuple es k pos =>
    have h' : cNames c es = some ps := h
    have h2' : (match cNames (c.blk scope own) es with
      | some ps => if ps.all fun p => decide (p.1 ∈ (c.blk scope own).stor) then some (Tg.tp (ps.map (·.2))) else none
      | none => none) = some tg' := h2
    rw [cNames_own, h'] at h2'
    simp only at h2'
    split at h2'
    · cases h2'
      rfl
    · cases h2'
  | _ => cases h
theorem drop_cons {α : Type} {xs : List α} {i : Nat} (h : i < xs.length) : xs.drop i = xs[i] :: xs.drop (i + 1) := (List.getElem_cons_drop ..).symm
def gB (X : Cx) (scope : Scope) (tg : Expr) : TG := fun v σ H Q => ∀ s0 H0 C cl fp, semG (X.blk s0 H0 scope (compEnvC scope cl C X.env) fp) tg v σ H Q
def ttB (X : Cx) (scope : Scope) (ifs : List Expr) : TT := fun σ H Q => ∀ s0 H0 C cl fp, semIfs (X.blk s0 H0 scope (compEnvC scope cl C X.env) fp) ifs σ H Q
def teB (X : Cx) (scope : Scope) (elt : Expr) : TE := fun σ H Q => ∀ s0 H0 C cl fp, semE (X.blk s0 H0 scope (compEnvC scope cl C X.env) fp) elt σ H Q
def wiB (X : Cx) (scope : Scope) (tg itx : Expr) : TI := fun σ H R => ∀ s0 H0 C cl fp, semI (X.blk s0 H0 scope (compEnvC scope cl C X.env) fp) tg itx σ H R
section
variable {X : Cx} {scope : Scope}
theorem pg_B (tg : Expr) (s0 : Shared) (H0 : Hp) (C : Addr) (cl : List (Str × Addr)) (fp : List Addr) : PG (X.blk s0 H0 scope (compEnvC scope cl C X.env) fp) tg (gB X scope tg) := ⟨fun pins s σ H v u Q I r h => h s0 H0 C cl fp pins s u I r⟩
theorem pts_B (ifs : List Expr) (s0 : Shared) (H0 : Hp) (C : Addr) (cl : List (Str × Addr)) (fp : List Addr) : PTs (X.blk s0 H0 scope (compEnvC scope cl C X.env) fp) ifs (ttB X scope ifs) := ⟨fun pins s σ H Q I h => h s0 H0 C cl fp pins s I⟩
theorem pe_B (elt : Expr) (s0 : Shared) (H0 : Hp) (C : Addr) (cl : List (Str × Addr)) (fp : List Addr) : PE (X.blk s0 H0 scope (compEnvC scope cl C X.env) fp) elt (teB X scope elt) := ⟨fun pins s σ H Q I h => h s0 H0 C cl fp pins s I⟩
theorem pi_B (tg itx : Expr) (s0 : Shared) (H0 : Hp) (C : Addr) (cl : List (Str × Addr)) (fp : List Addr) : PI (X.blk s0 H0 scope (compEnvC scope cl C X.env) fp) tg itx (wiB X scope tg itx) := ⟨fun pins s σ H R I h => h s0 H0 C cl fp pins s I⟩
end
theorem blk_of {X : Cx} {W : XK} {T : Tab} {lv : Nat} {c : CC} (hX : Ctx X W T lv c) {scope : Scope} {own : List (Str × Nat)} (hok : ownOk c scope own = true) : BlkOk X.N X.env.scope scope own := by
  have h1 := hok
  unfold ownOk at h1
  simp only [Bool.and_eq_true] at h1
  rw [hX.hN, hX.sc]
  exact blkOk_by h1.1
theorem r_lc {c : CC} {n : Nat} {elt tg itx : Expr} {ifs : List Expr} {scope : Scope} {own : List (Str × Nat)} {k : IK} {its ifs' : List E} {tg' : Tg} {elt' : E} (ho : tgOwn c tg = some own) (hok : ownOk c scope own = true)
    (hs : ∀ e e', cE c n e = some e' → SoundE c e e') (hit : cIter (cE c n) c tg itx = some (k, its)) (ht : cTg (c.blk scope own) tg = some tg') (hi : AllS (SoundT (c.blk scope own)) ifs ifs') (hl : ifs.length ≤ 1) (he : SoundE (c.blk scope own) elt elt') :
    ∀ (X : Cx) (W : XK) (T : Tab) (lv : Nat), Ctx X W T lv c → ∀ (A : List Addr) (B F H : Hp) (st : Store) (σ : L2.St) (env : TW.Env) (Q : VK), ER X.K X.mg A B σ env → SR X.K X.mg A B F H st →
      Post X W A B F Q (evE T (.lc elt' tg' k its ifs' (own.map (·.2))) env st) → tLc (semI X tg itx) (gB X scope tg) (ttB X scope ifs) (teB X scope elt) (own.map (·.2)) σ H Q := by
  intro X W T lv hX A B F H st σ env Q hE hS hP
  have hB := ctx_blk hX hok
  have hP0 : Post X W A B F Q ((evEs T its env st).bind (itk k fun ds xs st => (lcL st ds (lcF T elt' tg' ifs' (wipeE env (own.map (·.2)))) xs st).bind fun ys st => .ok (.lst ys) st)) := by
    rw [evE] at hP
    exact hP
  refine i_all hs hit X W T lv hX A B F H st σ env _ _ hE hS (srcs_of hP0) fun J H1 A1 B1 st1 ds xs e1 s1 wd hP1 => ?_
  intro D0 nD
  have hF : F D0 = none := s1.sf.free nD
  have hlen : xs.length ≤ lim := (wd F A1 B1 H1 st1 (Ext.refl _ _) s1 (KeepD.refl _ _)).1
  refine ⟨fun i m H2 => m = xs.length - i ∧ i ≤ xs.length ∧ ∃ A2 B2 st2 vacc acc, Ext A1 B1 A2 B2 ∧ SR X.K X.mg A2 B2 (upd F D0 (.lst vacc)) H2 st2 ∧ RVs X.K X.mg A2 B2 vacc acc ∧ KeepD st1 ds st2 ∧ vacc.length ≤ i ∧
    Post X W A2 B2 F Q ((lcL st1 ds (lcF T elt' tg' ifs' (wipeE env (own.map (·.2)))) (xs.drop i) st2).bind fun zs st => .ok (.lst (acc ++ zs)) st),
    ⟨xs.length, rfl, Nat.zero_le _, A1, B1, st1, [], [], Ext.refl _ _, s1.frame nD, .nil, KeepD.refl _ _, Nat.le_refl _, hP1⟩, ?_⟩
  rintro i m H2 ⟨rfl, hi', A2, B2, st2, vacc, acc, e2, s2, ra, kp, hv, hP2⟩
  obtain ⟨_, go, stop, yld⟩ := wd _ A2 B2 H2 st2 e2 s2 kp
  by_cases hlt : i < xs.length
  · refine .inr ⟨go i hlt, fun H3 => ∃ A3 B3 st3 vacc acc, Ext A1 B1 A3 B3 ∧ SR X.K X.mg A3 B3 (upd F D0 (.lst vacc)) H3 st3 ∧ RVs X.K X.mg A3 B3 vacc acc ∧ KeepD st1 ds st3 ∧ vacc.length ≤ i + 1 ∧
      Post X W A3 B3 F Q ((lcL st1 ds (lcF T elt' tg' ifs' (wipeE env (own.map (·.2)))) (xs.drop (i + 1)) st3).bind fun zs st => .ok (.lst (acc ++ zs)) st), fun H3 h3 => ?_, fun x H3 hy => ?_⟩
    · obtain ⟨A3, B3, st3, vacc3, acc3, q⟩ := h3
      exact ⟨xs.length - (i + 1), by omega, rfl, hlt, A3, B3, st3, vacc3, acc3, q⟩
    · obtain ⟨B3, sm, s3, rx⟩ := yld i x H3 xs[i] (List.getElem?_eq_getElem hlt) hy
      have e3 : Ext A2 B2 A2 B3 := .b_of sm
      rw [drop_cons hlt] at hP2
      have hP3 : Post X W A2 B3 F Q ((lcF T elt' tg' ifs' (wipeE env (own.map (·.2))) xs[i] st2).bind fun ys st => chk st1 ds st ((lcL st1 ds (lcF T elt' tg' ifs' (wipeE env (own.map (·.2)))) (xs.drop (i + 1)) st).bind fun zs st => .ok (.lst (acc ++ (ys ++ zs))) st)) := by
        have q := PostG.ext hP2 e3
        rw [lcL, bind_assoc] at q
        have q2 : ∀ (ys : List D) (st : Store), (chk st1 ds st ((lcL st1 ds (lcF T elt' tg' ifs' (wipeE env (own.map (·.2)))) (xs.drop (i + 1)) st).bind fun zs st2 => TW.R.ok (ys ++ zs) st2)).bind (fun zs st => TW.R.ok (D.lst (acc ++ zs)) st) = chk st1 ds st ((lcL st1 ds (lcF T elt' tg' ifs' (wipeE env (own.map (·.2)))) (xs.drop (i + 1)) st).bind fun zs st => .ok (.lst (acc ++ (ys ++ zs))) st) := by
          intro ys st
          rw [chk_bind, bind_assoc]
          rfl
        rw [bind_congr q2] at q
        exact q
      have hEw : ER X.K X.mg A2 B3 (wipe σ (own.map (·.2))) (wipeE env (own.map (·.2))) := ((((hE.mono e1).mono e2).mono e3).wipe _)
      have hw : ∀ j ∈ tgIx tg', j ∈ own.map (·.2) := fun j hj => by rw [tg_own ho ht] at hj; exact hj
      refine (fun z => ?_) (lc_turn (D0 := D0) (own := own.map (·.2)) (Nx := fun H3 => ∃ A3 B3 st3 vacc acc, Ext A1 B1 A3 B3 ∧ SR X.K X.mg A3 B3 (upd F D0 (.lst vacc)) H3 st3 ∧ RVs X.K X.mg A3 B3 vacc acc ∧ KeepD st1 ds st3 ∧ vacc.length ≤ i + 1 ∧
        Post X W A3 B3 F Q ((lcL st1 ds (lcF T elt' tg' ifs' (wipeE env (own.map (·.2)))) (xs.drop (i + 1)) st3).bind fun zs st => .ok (.lst (acc ++ zs)) st)) hB ht hi hl he hw hEw s3 rx hP3 ?_ ?_)
      · rw [wipe_wipe] at z
        exact z
      · intro A4 B4 H4 st4 y dy e4 s4 ry hP4
        obtain ⟨kp4, hP5⟩ := chk_keep hP4
        refine ⟨by rw [← lim_eq]; omega, A4, B4, st4, vacc ++ [y], acc ++ [dy], (e2.trans e3).trans e4, s4.reframe, ((ra.mono e3).mono e4).append (.cons ry .nil), kp4, ?_, ?_⟩
        · rw [List.length_append, List.length_singleton]
          omega
        · have q : ∀ zs, acc ++ ([dy] ++ zs) = (acc ++ [dy]) ++ zs := fun zs => by simp
          simp only [q] at hP5
          exact hP5
      · intro A4 B4 H4 st4 e4 s4 hP4
        obtain ⟨kp4, hP5⟩ := chk_keep hP4
        exact ⟨A4, B4, st4, vacc, acc, (e2.trans e3).trans e4, s4, (ra.mono e3).mono e4, kp4, by omega, hP5⟩
  · have e : i = xs.length := by omega
    subst e
    refine .inl ⟨stop, ?_⟩
    rw [List.drop_length] at hP2
    have hP3 : Post X W A2 B2 F Q (.ok (.lst acc) st2) := by
      have q : (lcL st1 ds (lcF T elt' tg' ifs' (wipeE env (own.map (·.2)))) [] st2).bind (fun zs st => TW.R.ok (D.lst (acc ++ zs)) st) = .ok (.lst acc) st2 := by
        rw [lcL, TW.R.bind_ok, List.append_nil]
      rw [← q]
      exact hP2
    exact hP3 _ A2 (upd B2 D0 (.lst vacc)) H2 (ext_frame s2) (.lst upd_same (by omega) (ra.mono (ext_frame s2))) (s2.unframe hF)
theorem s_lc {c : CC} {n : Nat} {elt tg itx : Expr} {ifs : List Expr} {scope : Scope} {pos : Pos} {own : List (Str × Nat)} {k : IK} {its ifs' : List E} {tg' : Tg} {elt' : E} (ho : tgOwn c tg = some own) (hok : ownOk c scope own = true)
    (hs : ∀ e e', cE c n e = some e' → SoundE c e e') (hit : cIter (cE c n) c tg itx = some (k, its)) (ht : cTg (c.blk scope own) tg = some tg') (hi : AllS (SoundT (c.blk scope own)) ifs ifs') (hl : ifs.length ≤ 1) (he : SoundE (c.blk scope own) elt elt') :
    SoundE c (.ListComp elt [⟨tg, itx, ifs, 0⟩] scope pos) (.lc elt' tg' k its ifs' (own.map (·.2))) := by
  intro X W T lv hX A B F H st σ env Q hE hS hP
  exact semE_of (pe_lc hX.calm hX.nd pi_sem (blk_of hX hok) (pg_B tg) (pts_B ifs) (pe_B elt) (cIter_set hit _)) (r_lc ho hok hs hit ht hi hl he X W T lv hX A B F H st σ env Q hE hS hP)
end TW
/-! TwLc2: comprehensions of two clauses. -/
namespace TW
open PySem PySem.Spec PyProof.Rows L2
def limD (acc : List D) : List D → Store → TW.R D := fun zs st => if (acc ++ zs).length ≤ lim then .ok (.lst (acc ++ zs)) st else .stuck
def lcF2 (T : Tab) (elt : E) (tg : Tg) (ifs : List E) (tg1 : Tg) (k1 : IK) (its1 ifs1 : List E) (own1 : List Nat) (env : TW.Env) : D → Store → TW.R (List D) := fun x st => noexc (match asgT tg env x with
  | none => .stuck
  | some env1 => (evIfs T ifs env1 st).bind fun b st => if b then (evEs T its1 env1 st).bind (itk k1 fun ds1 xs1 st => lcL st ds1 (lcF T elt tg1 ifs1 (wipeE env1 own1)) xs1 st) else .ok [] st)
def NoExc {α : Type} (r : TW.R α) : Prop := ∀ c s, r ≠ .exc c s
theorem noexc_no {α : Type} (r : TW.R α) : NoExc (noexc r) := fun c s h => by
  cases r <;> cases h
theorem chk_no {α : Type} {st st' : Store} {ds : List D} {r : TW.R α} (h : NoExc r) : NoExc (chk st ds st' r) := fun c s e => by
  unfold chk at e
  split at e
  · exact h c s e
  · cases e
theorem bind_no {α β : Type} {r : TW.R α} {f : α → Store → TW.R β} (h : NoExc r) (g : ∀ a st, NoExc (f a st)) : NoExc (r.bind f) := fun c s e => by
  cases r with
  | ok a st => exact g a st c s e
  | exc c' s' => exact h c' s' rfl
  | stuck => cases e
theorem lcL_no {st0 : Store} {ds : List D} {f : D → Store → TW.R (List D)} (h : ∀ x st, NoExc (f x st)) : ∀ (xs : List D) (st : Store), NoExc (lcL st0 ds f xs st)
  | [], st => fun c s e => by cases e
  | x :: xs, st => by
    rw [lcL]
    refine bind_no (h x st) fun ys st1 => chk_no (bind_no (lcL_no h xs st1) fun zs st2 c s e => ?_)
    cases e
section
variable {mg : Str → Option Value} {K : PySem.W.Frag} {α β γ δ ε : Type} {Rel' : List Addr → Hp → δ → γ → Prop} {W : XK} {A : List Addr} {B F F' : Hp} {P : δ → Hp → Prop}
theorem PostG.nostuck {r : TW.R γ} (h : PostG mg K Rel' W A B F P r) (n : NoExc r) : ∃ a st, r = .ok a st := by
  cases r with
  | ok a st => exact ⟨a, st, rfl⟩
  | exc c s => exact absurd rfl (n c s)
  | stuck => exact h.elim
theorem noexc_bind2 {r : TW.R α} {h : α → Store → TW.R ε} {k : ε → Store → TW.R γ} : (noexc ((noexc r).bind h)).bind k = (noexc r).bind fun x st => (noexc (h x st)).bind k := by
  cases r <;> rfl
theorem noexc_map {r : TW.R α} {h : α → ε} {k : ε → Store → TW.R γ} : (noexc (r.bind fun x st => .ok (h x) st)).bind k = (noexc r).bind fun x st => k (h x) st := by
  cases r <;> rfl
theorem chk_keepN {st st' : Store} {ds : List D} {r : TW.R α} {k : α → Store → TW.R γ} (h : PostG mg K Rel' W A B F P ((noexc (chk st ds st' r)).bind k)) : KeepD st ds st' ∧ PostG mg K Rel' W A B F P ((noexc r).bind k) := by
  have e : (noexc (chk st ds st' r)).bind k = chk st ds st' ((noexc r).bind k) := by
    unfold chk
    split <;> rfl
  rw [e] at h
  exact chk_keep h
theorem noexc_id {r : TW.R α} (h : NoExc r) : noexc r = r := by
  cases r with
  | ok a st => rfl
  | exc c s => exact absurd rfl (h c s)
  | stuck => rfl
theorem srcs_ofN {T : Tab} {k : IK} {its : List E} {env : TW.Env} {st : Store} {g : List D → List D → Store → TW.R ε} {k0 : ε → Store → TW.R γ}
    (h : PostG mg K Rel' W A B F P ((noexc ((evEs T its env st).bind (itk k g))).bind k0)) : PostG mg K (RVs K mg) (fun _ _ _ => False) A B F' (Srcs K mg T k its env st A B F' fun A1 B1 st1 ds xs => PostG mg K Rel' W A1 B1 F P ((noexc (g ds xs st1)).bind k0)) (evEs T its env st) :=
  h.stepN fun vs H1 A1 B1 st1 ds er e1 rs s1 hP1 => by
    unfold itk at hP1
    split at hP1
    · exact hP1.elim
    · rename_i xs hx
      exact ⟨A1, B1, st1, ds, xs, er, e1, rs, s1, hx, hP1⟩
end
theorem r_lc2 {c : CC} {n : Nat} {elt tg itx tg1 itx1 : Expr} {ifs ifs1 : List Expr} {scope : Scope} {own0 own1 : List (Str × Nat)} {k k1 : IK} {its ifs' its1 ifs1' : List E} {tg' tg1' : Tg} {elt' : E} (ho : tgOwn c tg = some own0) (ho1 : tgOwn c tg1 = some own1) (hok : ownOk c scope (own0 ++ own1) = true)
    (hs : ∀ e e', cE c n e = some e' → SoundE c e e') (hsb : ∀ e e', cE (c.blk scope (own0 ++ own1)) n e = some e' → SoundE (c.blk scope (own0 ++ own1)) e e') (hit : cIter (cE c n) c tg itx = some (k, its)) (ht : cTg (c.blk scope (own0 ++ own1)) tg = some tg')
    (hi : AllS (SoundT (c.blk scope (own0 ++ own1))) ifs ifs') (hl : ifs.length ≤ 1) (hit1 : cIter (cE (c.blk scope (own0 ++ own1)) n) (c.blk scope (own0 ++ own1)) tg1 itx1 = some (k1, its1)) (ht1 : cTg (c.blk scope (own0 ++ own1)) tg1 = some tg1')
    (hi1 : AllS (SoundT (c.blk scope (own0 ++ own1))) ifs1 ifs1') (hl1 : ifs1.length ≤ 1) (he : SoundE (c.blk scope (own0 ++ own1)) elt elt') :
    ∀ (X : Cx) (W : XK) (T : Tab) (lv : Nat), Ctx X W T lv c → ∀ (A : List Addr) (B F H : Hp) (st : Store) (σ : L2.St) (env : TW.Env) (Q : VK), ER X.K X.mg A B σ env → SR X.K X.mg A B F H st →
      Post X W A B F Q (evE T (.lc2 elt' tg' k its ifs' tg1' k1 its1 ifs1' ((own0 ++ own1).map (·.2)) (own1.map (·.2))) env st) →
      tLc2 (semI X tg itx) (gB X scope tg) (ttB X scope ifs) (wiB X scope tg1 itx1) (gB X scope tg1) (ttB X scope ifs1) (teB X scope elt) ((own0 ++ own1).map (·.2)) (own1.map (·.2)) σ H Q := by
  intro X W T lv hX A B F H st σ env Q hE hS hP
  have hB := ctx_blk hX hok
  generalize hf2 : lcF2 T elt' tg' ifs' tg1' k1 its1 ifs1' (own1.map (·.2)) (wipeE env ((own0 ++ own1).map (·.2))) = f2
  have f2no : ∀ x st, NoExc (f2 x st) := fun x st => by
    rw [← hf2]
    exact noexc_no _
  have hP0 : Post X W A B F Q ((evEs T its env st).bind (itk k fun ds xs st => (lcL st ds f2 xs st).bind (limD []))) := by
    rw [← hf2]
    rw [evE] at hP
    exact hP
  refine i_all hs hit X W T lv hX A B F H st σ env _ _ hE hS (srcs_of hP0) fun J H1 A1 B1 st1 ds xs e1 s1 wd hP1 => ?_
  intro D0 nD
  have hF : F D0 = none := s1.sf.free nD
  refine ⟨fun i m H2 => m = xs.length - i ∧ i ≤ xs.length ∧ ∃ A2 B2 st2 vacc acc, Ext A1 B1 A2 B2 ∧ SR X.K X.mg A2 B2 (upd F D0 (.lst vacc)) H2 st2 ∧ RVs X.K X.mg A2 B2 vacc acc ∧ KeepD st1 ds st2 ∧
    Post X W A2 B2 F Q ((lcL st1 ds f2 (xs.drop i) st2).bind (limD acc)),
    ⟨xs.length, rfl, Nat.zero_le _, A1, B1, st1, [], [], Ext.refl _ _, s1.frame nD, .nil, KeepD.refl _ _, hP1⟩, ?_⟩
  rintro i m H2 ⟨rfl, hi', A2, B2, st2, vacc, acc, e2, s2, ra, kp, hP2⟩
  obtain ⟨_, go, stop, yld⟩ := wd _ A2 B2 H2 st2 e2 s2 kp
  by_cases hlt : i < xs.length
  · refine .inr ⟨go i hlt, fun H3 => ∃ A3 B3 st3 vacc acc, Ext A1 B1 A3 B3 ∧ SR X.K X.mg A3 B3 (upd F D0 (.lst vacc)) H3 st3 ∧ RVs X.K X.mg A3 B3 vacc acc ∧ KeepD st1 ds st3 ∧
      Post X W A3 B3 F Q ((lcL st1 ds f2 (xs.drop (i + 1)) st3).bind (limD acc)), fun H3 h3 => ?_, fun x H3 hy => ?_⟩
    · obtain ⟨A3, B3, st3, vacc3, acc3, q⟩ := h3
      exact ⟨xs.length - (i + 1), by omega, rfl, hlt, A3, B3, st3, vacc3, acc3, q⟩
    · obtain ⟨B3, sm, s3, rx⟩ := yld i x H3 xs[i] (List.getElem?_eq_getElem hlt) hy
      have e3 : Ext A2 B2 A2 B3 := .b_of sm
      rw [drop_cons hlt] at hP2
      -- what is run behind this turn
      generalize hk0 : (fun (ys : List D) (st : Store) => chk st1 ds st ((lcL st1 ds f2 (xs.drop (i + 1)) st).bind (limD (acc ++ ys)))) = k0
      have k0lim : ∀ {A' : List Addr} {B' : Hp} {ys : List D} {st : Store}, Post X W A' B' F Q (k0 ys st) → (acc ++ ys).length ≤ lim := by
        intro A' B' ys st h
        subst hk0
        obtain ⟨_, h⟩ := chk_keep h
        have no : NoExc ((lcL st1 ds f2 (xs.drop (i + 1)) st).bind (limD (acc ++ ys))) := bind_no (lcL_no f2no _ _) fun zs st c s e => by
          unfold limD at e
          split at e <;> cases e
        cases h1 : lcL st1 ds f2 (xs.drop (i + 1)) st with
        | ok zs st' =>
          rw [h1] at h
          have h' : Post X W A' B' F Q (limD (acc ++ ys) zs st') := h
          unfold limD at h'
          split at h'
          · rename_i hz
            rw [List.length_append] at hz
            omega
          · exact h'.elim
        | exc c s => exact absurd h1 (lcL_no f2no _ _ c s)
        | stuck => rw [h1] at h; exact h.elim
      have hP3 : Post X W A2 B3 F Q ((f2 xs[i] st2).bind k0) := by
        have q := PostG.ext hP2 e3
        rw [lcL, bind_assoc] at q
        rw [← hk0]
        have q2 : ∀ (ys : List D) (st : Store), (chk st1 ds st ((lcL st1 ds f2 (xs.drop (i + 1)) st).bind fun zs st2 => TW.R.ok (ys ++ zs) st2)).bind (limD acc) = chk st1 ds st ((lcL st1 ds f2 (xs.drop (i + 1)) st).bind (limD (acc ++ ys))) := by
          intro ys st
          rw [chk_bind, bind_assoc]
          congr 1
          refine bind_congr fun zs st2 => ?_
          show limD acc (ys ++ zs) st2 = limD (acc ++ ys) zs st2
          unfold limD
          rw [List.append_assoc]
        rw [bind_congr q2] at q
        exact q
      have hEw : ER X.K X.mg A2 B3 (wipe σ ((own0 ++ own1).map (·.2))) (wipeE env ((own0 ++ own1).map (·.2))) := ((((hE.mono e1).mono e2).mono e3).wipe _)
      have hw : ∀ j ∈ tgIx tg', j ∈ (own0 ++ own1).map (·.2) := fun j hj => by
        rw [tg_own ho ht] at hj
        rw [List.map_append]
        exact List.mem_append_left _ hj
      intro s0 H0 C cl fp
      rw [← hf2] at hP3
      unfold lcF2 at hP3
      cases ha : asgT tg' (wipeE env ((own0 ++ own1).map (·.2))) xs[i] with
      | none => rw [ha] at hP3; exact hP3.elim
      | some env1 =>
        rw [ha] at hP3
        refine s_tg (hB s0 H0 C cl fp) ht hEw s3 rx ha fun σ2 hE2 hw2 => ⟨by rw [hw2 _ hw, wipe_wipe], fun s0 H0 C cl fp => ?_⟩
        refine s_ifs hi hl _ _ T lv (hB s0 H0 C cl fp) A2 B3 (upd F D0 (.lst vacc)) H3 st2 σ2 env1 _ hE2 s3 (hP3.stepN fun b H4 A4 B4 st4 b' _ e4 rb s4 hP4 => ?_)
        have q : b = b' := rb
        subst q
        cases b with
        | false =>
          refine iteF ?_
          have hP5 : Post X W A4 B4 F Q (k0 [] st4) := hP4
          rw [← hk0] at hP5
          obtain ⟨kp5, hP6⟩ := chk_keep hP5
          rw [List.append_nil] at hP6
          exact ⟨A4, B4, st4, vacc, acc, (e2.trans e3).trans e4, s4, (ra.mono e3).mono e4, kp5, hP6⟩
        | true =>
          refine iteT fun s0 H0 C cl fp => ?_
          have hP5 : PostG X.mg X.K (RV X.K X.mg) W A4 B4 F Q ((noexc ((evEs T its1 env1 st4).bind (itk k1 fun ds1 xs1 st => lcL st ds1 (lcF T elt' tg1' ifs1' (wipeE env1 (own1.map (·.2)))) xs1 st))).bind k0) := hP4
          refine i_all hsb hit1 _ _ T lv (hB s0 H0 C cl fp) A4 B4 (upd F D0 (.lst vacc)) H4 st4 σ2 env1 _ _ (hE2.mono e4) s4 (srcs_ofN hP5) fun J1 H5 A5 B5 st5 ds1 xs1 e5 s5 wd1 hP6 => ?_
          generalize hf1 : lcF T elt' tg1' ifs1' (wipeE env1 (own1.map (·.2))) = f1 at hP6
          have hP6 : Post X W A5 B5 F Q ((noexc (lcL st5 ds1 f1 xs1 st5)).bind k0) := hP6
          refine ⟨fun j m H6 => m = xs1.length - j ∧ j ≤ xs1.length ∧ ∃ A6 B6 st6 vacc1 acc1, Ext A5 B5 A6 B6 ∧ SR X.K X.mg A6 B6 (upd F D0 (.lst vacc1)) H6 st6 ∧ RVs X.K X.mg A6 B6 vacc1 (acc ++ acc1) ∧ KeepD st5 ds1 st6 ∧
            Post X W A6 B6 F Q ((noexc (lcL st5 ds1 f1 (xs1.drop j) st6)).bind fun zs st => k0 (acc1 ++ zs) st),
            ⟨xs1.length, rfl, Nat.zero_le _, A5, B5, st5, vacc, [], Ext.refl _ _, s5, by rw [List.append_nil]; exact ((ra.mono e3).mono e4).mono e5, KeepD.refl _ _, hP6⟩, ?_⟩
          rintro j m H6 ⟨rfl, hj', A6, B6, st6, vacc1, acc1, e6, s6, ra6, kp6, hP7⟩
          obtain ⟨_, go1, stop1, yld1⟩ := wd1 _ A6 B6 H6 st6 e6 s6 kp6
          by_cases hlt1 : j < xs1.length
          · refine .inr ⟨go1 j hlt1, fun H7 => ∃ A7 B7 st7 vacc1 acc1, Ext A5 B5 A7 B7 ∧ SR X.K X.mg A7 B7 (upd F D0 (.lst vacc1)) H7 st7 ∧ RVs X.K X.mg A7 B7 vacc1 (acc ++ acc1) ∧ KeepD st5 ds1 st7 ∧
              Post X W A7 B7 F Q ((noexc (lcL st5 ds1 f1 (xs1.drop (j + 1)) st7)).bind fun zs st => k0 (acc1 ++ zs) st), fun H7 h7 => ?_, fun x1 H7 hy1 => ?_⟩
            · obtain ⟨A7, B7, st7, vacc7, acc7, q⟩ := h7
              exact ⟨xs1.length - (j + 1), by omega, rfl, hlt1, A7, B7, st7, vacc7, acc7, q⟩
            · obtain ⟨B7, sm7, s7, rx7⟩ := yld1 j x1 H7 xs1[j] (List.getElem?_eq_getElem hlt1) hy1
              have e7 : Ext A6 B6 A6 B7 := .b_of sm7
              rw [drop_cons hlt1] at hP7
              have hP8 : Post X W A6 B7 F Q ((lcF T elt' tg1' ifs1' (wipeE env1 (own1.map (·.2))) xs1[j] st6).bind fun ys st => (noexc (chk st5 ds1 st ((lcL st5 ds1 f1 (xs1.drop (j + 1)) st).bind fun zs st2 => .ok (ys ++ zs) st2))).bind fun zs st => k0 (acc1 ++ zs) st) := by
                have q := PostG.ext hP7 e7
                rw [lcL, ← hf1] at q
                unfold lcF at q
                rw [noexc_bind2] at q
                rw [← hf1]
                unfold lcF
                exact q
              have hEw1 : ER X.K X.mg A6 B7 (wipe σ2 (own1.map (·.2))) (wipeE env1 (own1.map (·.2))) := (((((hE2.mono e4).mono e5).mono e6).mono e7).wipe _)
              have hw1 : ∀ j ∈ tgIx tg1', j ∈ own1.map (·.2) := fun j hj => by rw [tg_own ho1 ht1] at hj; exact hj
              refine (fun z => ?_) (lc_turn (D0 := D0) (own := own1.map (·.2)) (Nx := fun H7 => ∃ A7 B7 st7 vacc1 acc1, Ext A5 B5 A7 B7 ∧ SR X.K X.mg A7 B7 (upd F D0 (.lst vacc1)) H7 st7 ∧ RVs X.K X.mg A7 B7 vacc1 (acc ++ acc1) ∧ KeepD st5 ds1 st7 ∧
                Post X W A7 B7 F Q ((noexc (lcL st5 ds1 f1 (xs1.drop (j + 1)) st7)).bind fun zs st => k0 (acc1 ++ zs) st)) hB ht1 hi1 hl1 he hw1 hEw1 s7 rx7 hP8 ?_ ?_)
              · rw [wipe_wipe] at z
                exact z
              · intro A8 B8 H8 st8 y dy e8 s8 ry hP9
                obtain ⟨kp8, hP10⟩ := chk_keepN hP9
                rw [noexc_map] at hP10
                have hP11 : Post X W A8 B8 F Q ((noexc (lcL st5 ds1 f1 (xs1.drop (j + 1)) st8)).bind fun zs st => k0 ((acc1 ++ [dy]) ++ zs) st) := by
                  have q : ∀ zs, acc1 ++ ([dy] ++ zs) = (acc1 ++ [dy]) ++ zs := fun zs => by simp
                  simp only [q] at hP10
                  exact hP10
                have hlen : (acc ++ (acc1 ++ [dy])).length ≤ lim := by
                  cases h1 : noexc (lcL st5 ds1 f1 (xs1.drop (j + 1)) st8) with
                  | ok zs st9 =>
                    rw [h1] at hP11
                    have h2 := k0lim hP11
                    simp only [List.length_append] at h2 ⊢
                    omega
                  | exc c s => exact absurd h1 (noexc_no _ c s)
                  | stuck => rw [h1] at hP11; exact hP11.elim
                have ra8 : RVs X.K X.mg A8 B8 vacc1 (acc ++ acc1) := (ra6.mono e7).mono e8
                refine ⟨?_, A8, B8, st8, vacc1 ++ [y], acc1 ++ [dy], (e6.trans e7).trans e8, s8.reframe, ?_, kp8, hP11⟩
                · rw [ra8.length, ← lim_eq]
                  simp only [List.length_append, List.length_singleton] at hlen ⊢
                  omega
                · rw [← List.append_assoc]
                  exact ra8.append (.cons ry .nil)
              · intro A8 B8 H8 st8 e8 s8 hP9
                obtain ⟨kp8, hP10⟩ := chk_keepN hP9
                rw [noexc_map] at hP10
                exact ⟨A8, B8, st8, vacc1, acc1, (e6.trans e7).trans e8, s8, (ra6.mono e7).mono e8, kp8, hP10⟩
          · have e : j = xs1.length := by omega
            subst e
            refine .inl ⟨stop1, ?_⟩
            rw [List.drop_length] at hP7
            have hP8 : Post X W A6 B6 F Q (k0 acc1 st6) := by
              have q : (noexc (lcL st5 ds1 f1 [] st6)).bind (fun zs st => k0 (acc1 ++ zs) st) = k0 acc1 st6 := by
                rw [lcL, noexc_ok, TW.R.bind_ok, List.append_nil]
              rw [← q]
              exact hP7
            rw [← hk0] at hP8
            obtain ⟨kp8, hP9⟩ := chk_keep hP8
            exact ⟨A6, B6, st6, vacc1, acc ++ acc1, (((e2.trans e3).trans e4).trans e5).trans e6, s6, ra6, kp8, hP9⟩
  · have e : i = xs.length := by omega
    subst e
    refine .inl ⟨stop, ?_⟩
    rw [List.drop_length] at hP2
    have hP3 : Post X W A2 B2 F Q (limD acc [] st2) := by
      have q : (lcL st1 ds f2 [] st2).bind (limD acc) = limD acc [] st2 := by
        rw [lcL, TW.R.bind_ok]
      rw [← q]
      exact hP2
    unfold limD at hP3
    split at hP3
    · rename_i hz
      rw [List.append_nil] at hz hP3
      exact hP3 _ A2 (upd B2 D0 (.lst vacc)) H2 (ext_frame s2) (.lst upd_same (by rw [ra.length]; exact hz) (ra.mono (ext_frame s2))) (s2.unframe hF)
    · exact hP3.elim
theorem s_lc2 {c : CC} {n : Nat} {elt tg itx tg1 itx1 : Expr} {ifs ifs1 : List Expr} {scope : Scope} {pos : Pos} {own0 own1 : List (Str × Nat)} {k k1 : IK} {its ifs' its1 ifs1' : List E} {tg' tg1' : Tg} {elt' : E} (ho : tgOwn c tg = some own0) (ho1 : tgOwn c tg1 = some own1) (hok : ownOk c scope (own0 ++ own1) = true)
    (hs : ∀ e e', cE c n e = some e' → SoundE c e e') (hsb : ∀ e e', cE (c.blk scope (own0 ++ own1)) n e = some e' → SoundE (c.blk scope (own0 ++ own1)) e e') (hit : cIter (cE c n) c tg itx = some (k, its)) (ht : cTg (c.blk scope (own0 ++ own1)) tg = some tg')
    (hi : AllS (SoundT (c.blk scope (own0 ++ own1))) ifs ifs') (hl : ifs.length ≤ 1) (hit1 : cIter (cE (c.blk scope (own0 ++ own1)) n) (c.blk scope (own0 ++ own1)) tg1 itx1 = some (k1, its1)) (ht1 : cTg (c.blk scope (own0 ++ own1)) tg1 = some tg1')
    (hi1 : AllS (SoundT (c.blk scope (own0 ++ own1))) ifs1 ifs1') (hl1 : ifs1.length ≤ 1) (he : SoundE (c.blk scope (own0 ++ own1)) elt elt') :
    SoundE c (.ListComp elt [⟨tg, itx, ifs, 0⟩, ⟨tg1, itx1, ifs1, 0⟩] scope pos) (.lc2 elt' tg' k its ifs' tg1' k1 its1 ifs1' ((own0 ++ own1).map (·.2)) (own1.map (·.2))) := by
  intro X W T lv hX A B F H st σ env Q hE hS hP
  have hv : ∀ i ∈ own1.map (·.2), i ∈ (own0 ++ own1).map (·.2) := fun i h => by
    rw [List.map_append]
    exact List.mem_append_right _ h
  exact semE_of (pe_lc2 hX.calm hX.nd pi_sem (blk_of hX hok) hv (pg_B tg) (pts_B ifs) (pi_B tg1 itx1) (pg_B tg1) (pts_B ifs1) (pe_B elt) (cIter_set hit _) (fun env x => cIter_set hit1 env x))
    (r_lc2 ho ho1 hok hs hsb hit ht hi hl hit1 ht1 hi1 hl1 he X W T lv hX A B F H st σ env Q hE hS hP)
end TW
/-! TwExp: every expression that cE takes is sound. -/
namespace TW
open PySem PySem.Spec PyProof.Rows L2
theorem map_some {α β : Type} {f : α → β} {o : Option α} {b : β} (h : o.map f = some b) : ∃ a, o = some a ∧ f a = b := by
  cases o with
  | none => cases h
  | some a => exact ⟨a, rfl, Option.some.inj h⟩
theorem sound_all : ∀ (n : Nat) (c : CC) (e : Expr) (e' : E), cE c n e = some e' → SoundE c e e' ∧ SoundT c e e' := by
  intro n
  induction n with
  | zero => intro c e e' h; cases h
  | succ n ih =>
    intro c e e' h
    have hs : ∀ e e', cE c n e = some e' → SoundE c e e' := fun e e' q => (ih c e e' q).1
    have hv : ∀ {e : Expr} {e' : E}, plainT e = true → SoundE c e e' → SoundE c e e' ∧ SoundT c e e' := fun p q => ⟨q, t_val p q⟩
    have all : ∀ {es : List Expr} {es' : List E}, opts (cE c n) es = some es' → AllS (SoundE c) es es' := fun q => AllS.of (fun e e' q => (ih c e e' q).1) q
    have allT : ∀ {es : List Expr} {es' : List E}, opts (cE c n) es = some es' → AllS (SoundT c) es es' := fun q => AllS.of (fun e e' q => (ih c e e' q).2) q
    unfold cE at h
    split at h
    · -- a name
      split at h
      · rename_i ho
        split at h
        · rename_i hvis
          obtain ⟨i, h1, rfl⟩ := map_some h
          exact hv rfl (s_var ho hvis h1)
        · split at h
          · rename_i hg
            obtain ⟨s, h1, rfl⟩ := map_some h
            exact hv rfl (s_glb ho hg h1)
          · cases h
      · cases h
    · cases h; exact hv rfl s_non
    · cases h; exact hv rfl s_bl
    · cases h; exact hv rfl s_int
    · cases h; exact hv rfl s_str
    · split at h
      · rename_i h1 h2
        cases h
        exact hv rfl (s_bin (hs _ _ h1) (hs _ _ h2))
      · cases h
    · obtain ⟨a', h1, rfl⟩ := map_some h
      exact hv rfl (s_neg (hs _ _ h1))
    · obtain ⟨a', h1, rfl⟩ := map_some h
      exact ⟨s_not (hs _ _ h1), t_not (ih c _ _ h1).2⟩
    · obtain ⟨as, h1, rfl⟩ := map_some h
      exact ⟨s_and (all h1), (w_and (allT h1)).t⟩
    · obtain ⟨as, h1, rfl⟩ := map_some h
      exact ⟨s_or (all h1), (w_or (allT h1)).t⟩
    · split at h
      · rename_i h1 h2 h3
        cases h
        exact ⟨s_ite (ih c _ _ h1).2 (hs _ _ h2) (hs _ _ h3), t_ite (ih c _ _ h1).2 (ih c _ _ h2).2 (ih c _ _ h3).2⟩
      · cases h
    · split at h
      · cases h
      · rename_i hset
        have hset : isSetE _ = false := Bool.eq_false_iff.mpr hset
        split at h
        · rename_i h1 h2
          cases h
          exact ⟨s_cmp hset (hs _ _ h1) (hs _ _ h2), t_cmp hset (hs _ _ h1) (hs _ _ h2)⟩
        · cases h
    · split at h
      · cases h
      · rename_i hset
        have hset : isSetE _ = false := Bool.eq_false_iff.mpr hset
        split at h
        · rename_i h1 h2 h3
          cases h
          exact ⟨s_chn hset (hs _ _ h1) (hs _ _ h2) (hs _ _ h3), t_chn hset (hs _ _ h1) (hs _ _ h2) (hs _ _ h3)⟩
        · cases h
    · split at h
      · rename_i hl
        obtain ⟨as, h1, rfl⟩ := map_some h
        exact hv rfl (s_tup (all h1) hl)
      · cases h
    · split at h
      · rename_i hl
        obtain ⟨as, h1, rfl⟩ := map_some h
        exact hv rfl (s_lst (all h1) hl)
      · cases h
    · obtain ⟨a', h1, rfl⟩ := map_some h
      exact hv rfl (s_rev (hs _ _ h1))
    · split at h
      · rename_i h1 h2 h3
        cases h
        exact hv rfl (s_slc hs (hs _ _ h1) h2 h3)
      · cases h
    · split at h
      · cases h
      · rename_i hsl
        have hsl : isSliceE _ = false := Bool.eq_false_iff.mpr hsl
        split at h
        · rename_i h1 h2
          cases h
          exact hv rfl (s_idx hsl (hs _ _ h1) (hs _ _ h2))
        · cases h
    · -- a call by a name
      split at h
      · rename_i hc
        simp only [Bool.and_eq_true] at hc
        obtain ⟨⟨ho, hg⟩, hlen⟩ := hc
        split at h
        · rename_i as hla
          obtain ⟨as', h1, rfl⟩ := map_some h
          exact hv rfl (s_lrng ho hg hla (all h1))
        · split at h
          · rename_i a0 hsa
            obtain ⟨a', h1, rfl⟩ := map_some h
            exact hv rfl (s_sst ho hg hsa (hs _ _ h1) (cE_star h1))
          · split at h
            · rename_i f hf
              obtain ⟨as', h1, rfl⟩ := map_some h
              exact hv rfl (s_call ho hg hf (all h1))
            · split at h
              · rename_i f hf
                obtain ⟨as', h1, rfl⟩ := map_some h
                exact hv rfl (s_blt ho hg hf (all h1))
              · split at h
                · rename_i hx
                  split at h
                  · split at h
                    · rename_i h1 h2
                      cases h
                      exact hv rfl (s_isi ho hg hx (hs _ _ h1) (cE_star h1) h2)
                    · cases h
                  · cases h
                · cases h
      · cases h
    · -- append, extend
      split at h
      · rename_i hl
        split at h
        · split at h
          · rename_i h1 h2
            split at h
            · rename_i hm
              cases h
              exact hv rfl (s_app hm hl (hs _ _ h1) (hs _ _ h2) (cE_star h2))
            · split at h
              · rename_i hm
                cases h
                exact hv rfl (s_ext hm hl (hs _ _ h1) (hs _ _ h2) (cE_star h2))
              · cases h
          · cases h
        · cases h
      · cases h
    · -- a comprehension
      split at h
      · rename_i own ho
        split at h
        · rename_i hok
          split at h
          · rename_i h1 h2 h3 h4
            split at h
            · rename_i hl
              cases h
              exact hv rfl (s_lc ho hok hs h1 h2 (AllS.of (fun e e' q => (ih _ e e' q).2) h3) hl (ih _ _ _ h4).1)
            · cases h
          · cases h
        · cases h
      · cases h
    · split at h
      · rename_i own0 own1 ho ho1
        split at h
        · rename_i hok
          split at h
          · rename_i h1 h2 h3 h4 h5 h6 h7
            split at h
            · rename_i hl
              cases h
              exact hv rfl (s_lc2 ho ho1 hok hs (fun e e' q => (ih _ e e' q).1) h1 h2 (AllS.of (fun e e' q => (ih _ e e' q).2) h3) hl.1 h4 h5 (AllS.of (fun e e' q => (ih _ e e' q).2) h6) hl.2 (ih _ _ _ h7).1)
            · cases h
          · cases h
        · cases h
      · cases h
    · cases h
theorem sE {c : CC} {n : Nat} {e : Expr} {e' : E} (h : cE c n e = some e') : SoundE c e e' := (sound_all n c e e' h).1
theorem sT {c : CC} {n : Nat} {e : Expr} {e' : E} (h : cE c n e = some e') : SoundT c e e' := (sound_all n c e e' h).2
end TW
/-! TwStm: statements. -/
namespace TW
open PySem PySem.Spec PyProof.Rows L2
def RelO (K : PySem.W.Frag) (mg : Str → Option Value) (A : List Addr) (B : Hp) (o : L2.St ⊕ V) (o' : Out) : Prop := match o, o' with
  | .inl σ, .next env => ER K mg A B σ env
  | .inr v, .ret d => RV K mg A B v d
  | _, _ => False
def endQ (D : Ends) (o : L2.St ⊕ V) (H : Hp) : Prop := match o with
  | .inl σ => D.nx σ H
  | .inr v => D.rt v H
abbrev PostS (X : Cx) (W : XK) (A : List Addr) (B F : Hp) (D : Ends) (r : TW.R Out) : Prop := PostG X.mg X.K (RelO X.K X.mg) W A B F (endQ D) r
def SoundS (c : CC) (s : Stmt) (s' : S) : Prop := ∀ (X : Cx) (W : XK) (T : Tab) (lv : Nat), Ctx X W T lv c → ∀ (A : List Addr) (B F H : Hp) (st : Store) (σ : L2.St) (env : TW.Env) (D : Ends),
  ER X.K X.mg A B σ env → SR X.K X.mg A B F H st → PostS X W A B F D (evS T s' env st) → semS X s D σ H
def SoundSs (c : CC) (s : List Stmt) (s' : List S) : Prop := ∀ (X : Cx) (W : XK) (T : Tab) (lv : Nat), Ctx X W T lv c → ∀ (A : List Addr) (B F H : Hp) (st : Store) (σ : L2.St) (env : TW.Env) (D : Ends),
  ER X.K X.mg A B σ env → SR X.K X.mg A B F H st → PostS X W A B F D (evSs T s' env st) → semSs X s D σ H
section
variable {X : Cx} {W : XK} {A : List Addr} {B F H : Hp} {st : Store} {D : Ends}
theorem PostS.next {σ : L2.St} {env : TW.Env} (h : PostS X W A B F D (.ok (.next env) st)) (hE : ER X.K X.mg A B σ env) (s : SR X.K X.mg A B F H st) : D.nx σ H := h (.inl σ) A B H (Ext.refl _ _) hE s
theorem PostS.ret {v : V} {d : TW.D} (h : PostS X W A B F D (.ok (.ret d) st)) (r : RV X.K X.mg A B v d) (s : SR X.K X.mg A B F H st) : D.rt v H := h (.inr v) A B H (Ext.refl _ _) r s
end
section
variable {c : CC} {pos : Pos}
/-! ### blocks -/
theorem ss_nil : SoundSs c [] [] := by
  intro X W T lv hX A B F H st σ env D hE hS hP
  simp only [evSs] at hP
  exact semSs_of pss_nil (PostS.next hP hE hS)
theorem ss_cons {s : Stmt} {r : List Stmt} {s' : S} {r' : List S} (h : SoundS c s s') (t : SoundSs c r r') : SoundSs c (s :: r) (s' :: r') := by
  intro X W T lv hX A B F H st σ env D hE hS hP
  simp only [evSs] at hP
  refine semSs_of (pss_cons ps_sem pss_sem) ?_
  refine h X W T lv hX A B F H st σ env _ hE hS (hP.step fun o H1 A1 B1 st1 o' _ e1 ro s1 hP1 => ?_)
  cases o with
  | inl σ1 =>
    cases o' with
    | next env1 => exact t X W T lv hX A1 B1 F H1 st1 σ1 env1 D ro s1 hP1
    | ret d => exact False.elim ro
  | inr v =>
    cases o' with
    | next env1 => exact False.elim ro
    | ret d => exact PostS.ret (D := D) hP1 ro s1
/-! ### plain statements -/
variable {e : Expr} {e' : E}
theorem ss_ret (h : SoundE c e e') : SoundS c (.Return (some e) pos) (.ret e') := by
  intro X W T lv hX A B F H st σ env D hE hS hP
  simp only [evS] at hP
  refine semS_of (ps_ret pe_sem) ?_
  exact h X W T lv hX A B F H st σ env _ hE hS (hP.step fun x H1 A1 B1 st1 dx _ e1 rx s1 hP1 => PostS.ret hP1 rx s1)
theorem ss_retN : SoundS c (.Return none pos) (.ret (.cst .non)) := by
  intro X W T lv hX A B F H st σ env D hE hS hP
  simp only [evS, evE, TW.R.bind_ok] at hP
  exact semS_of ps_retN (PostS.ret hP .non hS)
theorem ss_pass : SoundS c (.Pass pos) .pass := by
  intro X W T lv hX A B F H st σ env D hE hS hP
  simp only [evS] at hP
  exact semS_of ps_pass (PostS.next hP hE hS)
theorem ss_expr {f : Expr} {args : List Expr} {kws : List Keyword} {cp : Pos} (h : SoundE c (.Call f args kws cp) e') : SoundS c (.Expr (.Call f args kws cp) pos) (.expr e') := by
  intro X W T lv hX A B F H st σ env D hE hS hP
  simp only [evS] at hP
  refine semS_of (ps_expr pe_sem rfl) ?_
  exact h X W T lv hX A B F H st σ env _ hE hS (hP.step fun x H1 A1 B1 st1 dx _ e1 rx s1 hP1 => PostS.next hP1 (hE.mono e1) s1)
theorem ss_if {a b : List Stmt} {a' b' : List S} (h : SoundT c e e') (ha : SoundSs c a a') (hb : SoundSs c b b') : SoundS c (.If e a b pos) (.ite e' a' b') := by
  intro X W T lv hX A B F H st σ env D hE hS hP
  simp only [evS] at hP
  refine semS_of (ps_if pt_sem pss_sem pss_sem) ?_
  rw [bind_congr (fun x st => onBl_eq x st (fun st => evSs T a' env st) (fun st => evSs T b' env st)), ← bind_assoc] at hP
  refine h X W T lv hX A B F H st σ env _ hE hS (hP.step fun k H1 A1 B1 st1 k' _ e1 rk s1 hP1 => ?_)
  have q : k = k' := rk
  subst q
  cases k with
  | true => exact iteT (ha X W T lv hX A1 B1 F H1 st1 σ env _ (hE.mono e1) s1 hP1)
  | false => exact iteF (hb X W T lv hX A1 B1 F H1 st1 σ env _ (hE.mono e1) s1 hP1)
theorem ss_raise {x : Str} {m : Str} {f : String} {p p2 cp : Pos} {k : Nat} (ho : okName x = true) (hg : isGl c.sc x = true) (hf : glName c.ex x = some f) : SoundS c (.Raise (some (.Call (.Name x p) [.Constant (.str m) k p2] [] cp)) none pos) (.raise f) := by
  intro X W T lv hX A B F H st σ env D hE hS hP
  simp only [evS] at hP
  obtain ⟨hm, rfl⟩ := glName_eq hf
  obtain ⟨C, h1, h2, h3, h4, h5⟩ := (hX.excs f hm).ex
  obtain ⟨C', h6, h7⟩ := hP
  rw [h1] at h6
  cases h6
  exact semS_of (ps_raise hX.calm hX.tk (pmk_own PySem.F.excBase_ValueError h3 h1 h2 (raises_own h4 h5) (gl_of hX hg) (okName_eq ho).1)) (h7 A B H (Ext.refl _ _) hS)
/-! ### a name -/
def isComp : Expr → Bool
  | .ListComp .. => true
  | .SetComp .. => true
  | .DictComp .. => true
  | _ => false
theorem swaps_no (h : isComp e = false) (t : Option Expr) (l : Nat) (env : PySem.Env) : swapsWith e t l env = pure false := by
  cases e <;> first | rfl | cases h
theorem ss_asg0 {x : Str} {p0 : Pos} {i : Nat} (hi : ixOf c.N x = some i) (hst : x ∈ c.stor) (h : SoundE c e e') (hs : ∀ (X : Cx) (W : XK) (T : Tab) (lv : Nat), Ctx X W T lv c → swapsWith e (some (.Name x p0)) pos.line X.env = pure false) : SoundS c (.Assign [.Name x p0] e pos) (.asg i e') := by
  intro X W T lv hX A B F H st σ env D hE hS hP
  simp only [evS] at hP
  obtain ⟨l1, l2⟩ := hX.stor x hst
  refine semS_of (ps_set hX.nd (by rw [hX.hN]; exact ixOf_get hi) l1 pe_sem (hs X W T lv hX) l2) ?_
  exact h X W T lv hX A B F H st σ env _ hE hS (hP.step fun v H1 A1 B1 st1 dx _ e1 rv s1 hP1 => PostS.next hP1 ((hE.mono e1).set rv) s1)
theorem swaps_lc {elt : Expr} {gs : List Comprehension} {scope : Scope} {lpos p0 : Pos} {x : Str} {l : Nat} {env : PySem.Env} (hk : env.scope.kind = .function) : swapsWith (.ListComp elt gs scope lpos) (some (.Name x p0)) l env =
    pure (decide (env.scope.names.lookup x = some .local) && p0.line == lpos.line && !(scope.names.any fun (n, k) => n == x && (k == .local || k == .cell))) := by
  have hb : env.blockKind = .function := by unfold Env.blockKind; rw [hk]; rfl
  unfold swapsWith
  simp only [hb, Expr.pos]
  have e : (env.kindOf x == some NameKind.local) = decide (env.scope.names.lookup x = some .local) := by
    unfold Env.kindOf
    rw [Bool.beq_eq_decide_eq]
  rw [e]
  rfl
/-- name = [..]: stored within the comprehension's frame, or behind it -/
theorem ss_lc {n : Nat} {elt tg itx : Expr} {ifs : List Expr} {scope : Scope} {own : List (Str × Nat)} {k : IK} {its ifs' : List E} {tg' : Tg} {elt' : E} {x : Str} {p0 lpos : Pos} {i : Nat} (hi0 : ixOf c.N x = some i) (hst : x ∈ c.stor) (ho : tgOwn c tg = some own) (hok : ownOk c scope own = true)
    (hs : ∀ e e', cE c n e = some e' → SoundE c e e') (hit : cIter (cE c n) c tg itx = some (k, its)) (ht : cTg (c.blk scope own) tg = some tg') (hi : AllS (SoundT (c.blk scope own)) ifs ifs') (hl : ifs.length ≤ 1) (he : SoundE (c.blk scope own) elt elt') :
    SoundS c (.Assign [.Name x p0] (.ListComp elt [⟨tg, itx, ifs, 0⟩] scope lpos) pos) (.asg i (.lc elt' tg' k its ifs' (own.map (·.2)))) := by
  by_cases hb : (isLocN c.sc x && p0.line == lpos.line && !(scope.names.any fun (n, k) => n == x && (k == .local || k == .cell))) = true
  · intro X W T lv hX A B F H st σ env D hE hS hP
    rw [evS] at hP
    have hloc : X.env.scope.names.lookup x = some .local := by
      simp only [Bool.and_eq_true] at hb
      have h1 := hb.1.1
      unfold isLocN at h1
      rw [hX.sc]
      split at h1
      · assumption
      · cases h1
    have hsw : swapsWith (.ListComp elt [⟨tg, itx, ifs, 0⟩] scope lpos) (some (.Name x p0)) pos.line X.env = pure true := by
      rw [swaps_lc hX.kind, decide_eq_true hloc]
      simp only [Bool.and_eq_true] at hb
      rw [hb.1.2, hb.2]
      rfl
    refine semS_of (ps_setLc hX.calm hX.nd (by rw [hX.hN]; exact ixOf_get hi0) hloc hsw pi_sem (blk_of hX hok) (pg_B tg) (pts_B ifs) (pe_B elt) (cIter_set hit _)) ?_
    refine r_lc ho hok hs hit ht hi hl he X W T lv hX A B F H st σ env _ hE hS (hP.step fun v H1 A1 B1 st1 dx _ e1 rv s1 hP1 => ?_)
    exact PostS.next hP1 ((hE.mono e1).set rv) s1
  · refine ss_asg0 hi0 hst (s_lc ho hok hs hit ht hi hl he) fun X W T lv hX => ?_
    rw [swaps_lc hX.kind]
    have e : (decide (X.env.scope.names.lookup x = some .local) && p0.line == lpos.line && !(scope.names.any fun (n, k) => n == x && (k == .local || k == .cell))) = false := by
      rw [Bool.eq_false_iff]
      intro q
      apply hb
      simp only [Bool.and_eq_true, decide_eq_true_eq] at q ⊢
      refine ⟨⟨?_, q.1.2⟩, q.2⟩
      unfold isLocN
      rw [← hX.sc, q.1.1]
    rw [e]
theorem ss_lc2 {n : Nat} {elt tg itx tg1 itx1 : Expr} {ifs ifs1 : List Expr} {scope : Scope} {own0 own1 : List (Str × Nat)} {k k1 : IK} {its ifs' its1 ifs1' : List E} {tg' tg1' : Tg} {elt' : E} {x : Str} {p0 lpos : Pos} {i : Nat} (hi0 : ixOf c.N x = some i) (hst : x ∈ c.stor) (ho : tgOwn c tg = some own0) (ho1 : tgOwn c tg1 = some own1) (hok : ownOk c scope (own0 ++ own1) = true)
    (hs : ∀ e e', cE c n e = some e' → SoundE c e e') (hsb : ∀ e e', cE (c.blk scope (own0 ++ own1)) n e = some e' → SoundE (c.blk scope (own0 ++ own1)) e e') (hit : cIter (cE c n) c tg itx = some (k, its)) (ht : cTg (c.blk scope (own0 ++ own1)) tg = some tg')
    (hi : AllS (SoundT (c.blk scope (own0 ++ own1))) ifs ifs') (hl : ifs.length ≤ 1) (hit1 : cIter (cE (c.blk scope (own0 ++ own1)) n) (c.blk scope (own0 ++ own1)) tg1 itx1 = some (k1, its1)) (ht1 : cTg (c.blk scope (own0 ++ own1)) tg1 = some tg1')
    (hi1 : AllS (SoundT (c.blk scope (own0 ++ own1))) ifs1 ifs1') (hl1 : ifs1.length ≤ 1) (he : SoundE (c.blk scope (own0 ++ own1)) elt elt') :
    SoundS c (.Assign [.Name x p0] (.ListComp elt [⟨tg, itx, ifs, 0⟩, ⟨tg1, itx1, ifs1, 0⟩] scope lpos) pos) (.asg i (.lc2 elt' tg' k its ifs' tg1' k1 its1 ifs1' ((own0 ++ own1).map (·.2)) (own1.map (·.2)))) := by
  by_cases hb : (isLocN c.sc x && p0.line == lpos.line && !(scope.names.any fun (n, k) => n == x && (k == .local || k == .cell))) = true
  · intro X W T lv hX A B F H st σ env D hE hS hP
    rw [evS] at hP
    have hloc : X.env.scope.names.lookup x = some .local := by
      simp only [Bool.and_eq_true] at hb
      have h1 := hb.1.1
      unfold isLocN at h1
      rw [hX.sc]
      split at h1
      · assumption
      · cases h1
    have hv : ∀ i ∈ own1.map (·.2), i ∈ (own0 ++ own1).map (·.2) := fun i h => by
      rw [List.map_append]
      exact List.mem_append_right _ h
    have hsw : swapsWith (.ListComp elt [⟨tg, itx, ifs, 0⟩, ⟨tg1, itx1, ifs1, 0⟩] scope lpos) (some (.Name x p0)) pos.line X.env = pure true := by
      rw [swaps_lc hX.kind, decide_eq_true hloc]
      simp only [Bool.and_eq_true] at hb
      rw [hb.1.2, hb.2]
      rfl
    refine semS_of (ps_setLc2 hX.calm hX.nd (by rw [hX.hN]; exact ixOf_get hi0) hloc hsw pi_sem (blk_of hX hok) hv (pg_B tg) (pts_B ifs) (pi_B tg1 itx1) (pg_B tg1) (pts_B ifs1) (pe_B elt) (cIter_set hit _) (fun env x => cIter_set hit1 env x)) ?_
    refine r_lc2 ho ho1 hok hs hsb hit ht hi hl hit1 ht1 hi1 hl1 he X W T lv hX A B F H st σ env _ hE hS (hP.step fun v H1 A1 B1 st1 dx _ e1 rv s1 hP1 => ?_)
    exact PostS.next hP1 ((hE.mono e1).set rv) s1
  · refine ss_asg0 hi0 hst (s_lc2 ho ho1 hok hs hsb hit ht hi hl hit1 ht1 hi1 hl1 he) fun X W T lv hX => ?_
    rw [swaps_lc hX.kind]
    have e : (decide (X.env.scope.names.lookup x = some .local) && p0.line == lpos.line && !(scope.names.any fun (n, k) => n == x && (k == .local || k == .cell))) = false := by
      rw [Bool.eq_false_iff]
      intro q
      apply hb
      simp only [Bool.and_eq_true, decide_eq_true_eq] at q ⊢
      refine ⟨⟨?_, q.1.2⟩, q.2⟩
      unfold isLocN
      rw [← hX.sc, q.1.1]
    rw [e]
/-- name = e -/
theorem ss_asg {m : Nat} {x : Str} {p0 : Pos} {i : Nat} (hi0 : ixOf c.N x = some i) (hst : x ∈ c.stor) (h : cE c m e = some e') : SoundS c (.Assign [.Name x p0] e pos) (.asg i e') := by
  by_cases hc : isComp e = true
  · cases m with
    | zero => cases h
    | succ n =>
      have ih := fun c e e' q => sound_all n c e e' q
      have hs : ∀ e e', cE c n e = some e' → SoundE c e e' := fun e e' q => (ih c e e' q).1
      cases e with
      | ListComp elt gs scope lpos =>
        unfold cE at h
        split at h
        all_goals first
          | (rename_i hne; cases hne; done)
          | (rename_i hne _; cases hne; done)
          | skip
        · rename_i hq
          cases hq
          split at h
          · rename_i own ho
            split at h
            · rename_i hok
              split at h
              · rename_i h1 h2 h3 h4
                split at h
                · rename_i hl
                  cases h
                  exact ss_lc hi0 hst ho hok hs h1 h2 (AllS.of (fun e e' q => (ih _ e e' q).2) h3) hl (ih _ _ _ h4).1
                · cases h
              · cases h
            · cases h
          · cases h
        · rename_i hq
          cases hq
          split at h
          · rename_i own0 own1 ho ho1
            split at h
            · rename_i hok
              split at h
              · rename_i h1 h2 h3 h4 h5 h6 h7
                split at h
                · rename_i hl
                  cases h
                  exact ss_lc2 hi0 hst ho ho1 hok hs (fun e e' q => (ih _ e e' q).1) h1 h2 (AllS.of (fun e e' q => (ih _ e e' q).2) h3) hl.1 h4 h5 (AllS.of (fun e e' q => (ih _ e e' q).2) h6) hl.2 (ih _ _ _ h7).1
                · cases h
              · cases h
            · cases h
          · cases h
        · cases h
      | SetComp => cases h
      | DictComp => cases h
      | _ => cases hc
  · exact ss_asg0 hi0 hst (sE h) fun X W T lv hX => swaps_no (Bool.eq_false_iff.mpr hc) _ _ _
end
end TW
/-! TwStm2: statements, second part. -/
namespace TW
open PySem PySem.Spec PyProof.Rows L2
section
variable {c : CC} {pos : Pos} {e : Expr} {e' : E}
theorem isLocN_eq {sc : Scope} {x : Str} (h : isLocN sc x = true) : sc.names.lookup x = some .local := by
  unfold isLocN at h
  split at h
  · assumption
  · cases h
theorem bk_of {X : Cx} {W : XK} {T : Tab} {lv : Nat} (hX : Ctx X W T lv c) : X.env.blockKind = .function := by
  unfold Env.blockKind
  rw [hX.kind]
  rfl
theorem starE_any {a b : Expr} (sa : isStarE a = false) (sb : isStarE b = false) : ([a, b].any fun | .Starred .. => true | _ => false) = false := by
  cases a <;> first | (cases sa; done) | skip
  all_goals (cases b <;> first | (cases sb; done) | rfl)
theorem kind_loc {env : PySem.Env} {x : Str} : (env.kindOf x == some NameKind.local) = isLocN env.scope x := by
  unfold Env.kindOf isLocN
  cases env.scope.names.lookup x with
  | none => rfl
  | some k => cases k <;> rfl
def sw2 (ns : List Str) (a b : Expr) : Sem (Option (List Str)) :=
  if (ns.length != 2 || ns.eraseDups.length != ns.length) = true then pure none else if [a, b].all (foldedForSure 8) = true then pure none else if [a, b].all (constantsAlone 8) = true then (do unsupported "assign.tuple-of-constant-expressions:order-of-the-stores"; pure (some ns)) else pure (some ns)
theorem sw_eq {env : PySem.Env} {x y : Str} {px py pt p2 : Pos} {kt k2 : Nat} {a b : Expr} (hk : env.blockKind = .function) (sa : isStarE a = false) (sb : isStarE b = false) : swappedStores [.Tuple [.Name x px, .Name y py] kt pt] (.Tuple [a, b] k2 p2) env =
    sw2 ((if (isLocN env.scope x) = true then [x] else []) ++ (if (isLocN env.scope y && py.line == px.line) = true then [y] else [])) a b := by
  unfold swappedStores
  simp only [hk]
  refine (if_neg (fun z => Bool.false_ne_true z)).trans ((if_neg (fun z => Bool.false_ne_true ((starE_any sa sb).symm.trans z))).trans ?_)
  unfold sw2
  have e : [Expr.Name x px, Expr.Name y py].filterMap (fun
    | .Name id pos => if env.kindOf id == some .local && pos.line == (([Expr.Name x px, Expr.Name y py].head?.map (·.pos.line)).getD 0) then some id else none
    | _ => none) = ((if (isLocN env.scope x) = true then [x] else []) ++ (if (isLocN env.scope y && py.line == px.line) = true then [y] else [])) := by
    simp only [List.filterMap_cons, List.filterMap_nil, kind_loc, List.head?_cons, Option.map_some, Option.getD_some, Expr.pos]
    by_cases h1 : isLocN env.scope x = true
    · by_cases h2 : (isLocN env.scope y && py.line == px.line) = true
      · rw [if_pos h1, if_pos h2, if_pos (by rw [h1]; simp), if_pos h2]; rfl
      · rw [if_pos h1, if_neg h2, if_pos (by rw [h1]; simp), if_neg h2]; rfl
    · by_cases h2 : (isLocN env.scope y && py.line == px.line) = true
      · rw [if_neg h1, if_pos h2, if_neg (by rw [Bool.eq_false_iff.mpr h1]; simp), if_pos h2]; rfl
      · rw [if_neg h1, if_neg h2, if_neg (by rw [Bool.eq_false_iff.mpr h1]; simp), if_neg h2]; rfl
  rw [← e]
  rfl
theorem line_comm {a b : Nat} : (a == b) = (b == a) := by
  rw [Bool.eq_iff_iff, beq_iff_eq, beq_iff_eq]
  exact eq_comm
theorem sw_yes {env : PySem.Env} {x y : Str} {px py pt p2 : Pos} {kt k2 : Nat} {a b : Expr} (hk : env.blockKind = .function) (sa : isStarE a = false) (sb : isStarE b = false) (h : swB env.scope x y px py a b = true) :
    swappedStores [.Tuple [.Name x px, .Name y py] kt pt] (.Tuple [a, b] k2 p2) env = pure (some [x, y]) := by
  rw [sw_eq hk sa sb]
  unfold swB at h
  simp only [Bool.and_eq_true, Bool.not_eq_true'] at h
  obtain ⟨⟨⟨⟨⟨h1, h2⟩, h3⟩, h4⟩, h5⟩, h6⟩ := h
  rw [if_pos h1, if_pos (by rw [h2, line_comm, h3]; rfl)]
  unfold sw2
  have hne : x ≠ y := by simpa using h4
  have hne' : (y == x) = false := by rw [beq_eq_false_iff_ne]; exact Ne.symm hne
  have d : ([x] ++ [y]).eraseDups.length = 2 := by
    simp [List.eraseDups_cons, hne']
  rw [d]
  refine (if_neg (fun z => Bool.false_ne_true z)).trans ?_
  rw [if_neg (by rw [h5]; decide), if_neg (by rw [h6]; decide)]
  rfl
theorem sw_no {env : PySem.Env} {x y : Str} {px py pt p2 : Pos} {kt k2 : Nat} {a b : Expr} (hk : env.blockKind = .function) (sa : isStarE a = false) (sb : isStarE b = false) (h : swN env.scope x y px py a b = true) :
    swappedStores [.Tuple [.Name x px, .Name y py] kt pt] (.Tuple [a, b] k2 p2) env = pure none := by
  rw [sw_eq hk sa sb]
  unfold sw2
  by_cases h0 : (((if (isLocN env.scope x) = true then [x] else []) ++ (if (isLocN env.scope y && py.line == px.line) = true then [y] else [])).length != 2 || ((if (isLocN env.scope x) = true then [x] else []) ++ (if (isLocN env.scope y && py.line == px.line) = true then [y] else [])).eraseDups.length != ((if (isLocN env.scope x) = true then [x] else []) ++ (if (isLocN env.scope y && py.line == px.line) = true then [y] else [])).length) = true
  · rw [if_pos h0]
  · rw [if_neg h0]
    have hf : [a, b].all (foldedForSure 8) = true := by
      unfold swN at h
      rw [Bool.or_eq_true] at h
      rcases h with h | h
      · exfalso
        apply h0
        by_cases h1 : isLocN env.scope x = true
        · by_cases h2 : (isLocN env.scope y && py.line == px.line) = true
          · rw [if_pos h1, if_pos h2]
            rw [Bool.and_eq_true] at h2
            have hx : x = y := by
              have h3 : (px.line == py.line) = true := by rw [line_comm]; exact h2.2
              rw [h1, h2.1, h3] at h
              simpa using h
            subst hx
            simp [List.eraseDups_cons]
          · rw [if_neg h2, if_pos h1]
            rfl
        · rw [if_neg h1]
          by_cases h2 : (isLocN env.scope y && py.line == px.line) = true
          · rw [if_pos h2]; rfl
          · rw [if_neg h2]; rfl
      · exact h
    rw [if_pos hf]

/-! ### a, b = x, y -/
def parK (i j : Nat) (env : TW.Env) : List D → Store → TW.R Out := fun ds st => match ds with
  | [x, y] => .ok (.next ((env.set i (some x)).set j (some y))) st
  | _ => .stuck
theorem ss_par {x y : Str} {px py pt p2 : Pos} {kt k2 : Nat} {a b : Expr} {a' b' : E} {i j : Nat} (hi : ixOf c.N x = some i) (hj : ixOf c.N y = some j) (ha : SoundE c a a') (sa : isStarE a = false) (hb : SoundE c b b') (sb : isStarE b = false) (hw : swB c.sc x y px py a b = true) :
    SoundS c (.Assign [.Tuple [.Name x px, .Name y py] kt pt] (.Tuple [a, b] k2 p2) pos) (.par i j a' b') := by
  intro X W T lv hX A B F H st σ env D hE hS hP
  have he : evS T (.par i j a' b') env st = (evEs T [a', b'] env st).bind (parK i j env) := by
    simp only [evS, evEs, bind_assoc, TW.R.bind_ok]
    rfl
  rw [he] at hP
  have hw' : swB X.env.scope x y px py a b = true := by rw [hX.sc]; exact hw
  have h0 := hw
  unfold swB at h0
  simp only [Bool.and_eq_true, Bool.not_eq_true'] at h0
  obtain ⟨⟨⟨⟨⟨h1, h2⟩, h3⟩, h4⟩, h5⟩, h6⟩ := h0
  have hne : x ≠ y := by simpa using h4
  have gi := ixOf_get hi
  have gj := ixOf_get hj
  have hij : i ≠ j := fun z => hne (by subst z; rw [gi] at gj; exact Option.some.inj gj)
  refine semS_of (ps_par hX.calm hX.nd (by rw [hX.hN]; exact gi) (by rw [hX.hN]; exact gj) hij (by rw [hX.sc]; exact isLocN_eq h1) (by rw [hX.sc]; exact isLocN_eq h2) pa_sem (sw_yes (bk_of hX) sa sb hw')) ?_
  refine s_args (.cons ha sa (.cons hb sb .nil)) X W T lv hX A B F H st σ env _ hE hS (hP.step fun vs H1 A1 B1 st1 ds _ e1 rs s1 hP1 => ?_)
  cases rs with
  | nil => exact hP1.elim
  | cons r1 t =>
    cases t with
    | nil => exact hP1.elim
    | cons r2 t =>
      cases t with
      | nil => exact ⟨_, _, rfl, PostS.next hP1 (((hE.mono e1).set r1).set r2) s1⟩
      | cons => exact hP1.elim
/-! ### (a, b, ..) = e -/
theorem ss_unp0 {ts : List Expr} {kt : Nat} {pt : Pos} {ps : List (Str × Nat)} (hn : cNames c ts = some ps) (hs : ∀ p ∈ ps, p.1 ∈ c.stor) (he : SoundE c e e') (hw : ∀ (X : Cx) (W : XK) (T : Tab) (lv : Nat), Ctx X W T lv c → swappedStores [.Tuple ts kt pt] e X.env = pure none) :
    SoundS c (.Assign [.Tuple ts kt pt] e pos) (.unp (ps.map (·.2)) e') := by
  intro X W T lv hX A B F H st σ env D hE hS hP
  simp only [evS] at hP
  refine semS_of (ps_asg pe_sem pg_sem (by cases e <;> rfl) (hw X W T lv hX)) ?_
  refine he X W T lv hX A B F H st σ env _ hE hS (hP.step fun v H1 A1 B1 st1 d _ e1 rv s1 hP1 => ?_)
  split at hP1
  · rename_i ds hd
    rw [der_tup_inv hd] at rv
    split at hP1
    · rename_i env1 ha
      have ht : cTg c (.Tuple ts kt pt) = some (.tp (ps.map (·.2))) := by
        unfold cTg
        simp only [hn]
        rw [if_pos]
        exact List.all_eq_true.mpr fun p hp => by simpa using hs p hp
      exact s_tg hX ht (hE.mono e1) s1 rv (env' := env1) ha fun σ' hE' _ => PostS.next hP1 hE' s1
    · exact hP1.elim
  · rename_i ds hd
    have rl := rv.rh s1
    rw [hd] at rl
    split at hP1
    · rename_i env1 ha
      cases rl with
      | lst r1 rl r2 =>
        obtain ⟨h1, h2⟩ := (hE.mono e1).setAll r2 ha
        rw [List.length_map] at h2
        exact semG_of (pg_unl hX.calm (pgs_names hX hn hs) rfl (names_star hn)) ⟨_, _, rfl, SqL.of r1, by rw [h2]; exact (names_len hn).symm, by rw [h2, List.length_map], PostS.next hP1 h1 s1⟩
    · exact hP1.elim
  · exact hP1.elim
theorem swapped_no {ts : List Expr} {kt : Nat} {pt : Pos} {env : PySem.Env} (h : noTup ts e = true) : swappedStores [.Tuple ts kt pt] e env = pure none := by
  cases e with
  | Tuple es k p =>
    have h' : (!(ts.length == 2 || ts.length == 3)) = true := h
    unfold swappedStores
    simp only
    refine if_pos ?_
    rw [h']
    rfl
  | _ => rfl
/-! ### o[i] = e -/
theorem ss_set {o i : Expr} {o' i' : E} {sp : Pos} (hsl : isSliceE i = false) (ho : SoundE c o o') (hi : SoundE c i i') (he : SoundE c e e') : SoundS c (.Assign [.Subscript o i sp] e pos) (.set o' i' e') := by
  intro X W T lv hX A B F H st σ env D hE hS hP
  simp only [evS] at hP
  refine semS_of (ps_asg (g := gSub (semE X o) (semE X i) rSetL) pe_sem (pg_sub pe_sem pe_sem set_list (by cases i <;> first | (cases hsl; done) | (intro _; rfl))) (by cases e <;> rfl) (by cases e <;> rfl)) ?_
  refine he X W T lv hX A B F H st σ env _ hE hS (hP.step fun v H1 A1 B1 st1 d _ e1 rv s1 hP1 => ?_)
  refine ho X W T lv hX A1 B1 F H1 st1 σ env _ (hE.mono e1) s1 (hP1.step fun ov H2 A2 B2 st2 dd _ e2 ro s2 hP2 => ?_)
  refine hi X W T lv hX A2 B2 F H2 st2 σ env _ ((hE.mono e1).mono e2) s2 (hP2.step fun iv H3 A3 B3 st3 di _ e3 ri s3 hP3 => ?_)
  unfold setC at hP3
  split at hP3
  · rename_i n xs k hc _
    split at hP3
    · rename_i hk
      have hd : dd = .ref n ∧ st3[n]? = some (.lst xs) := by
        unfold cellOf at hc
        split at hc
        · rename_i m
          split at hc
          · rename_i ys hy
            cases hc
            exact ⟨rfl, hy⟩
          · cases hc
        · cases hc
      obtain ⟨rfl, hst⟩ := hd
      cases ro.mono e3 with
      | ref ha =>
        cases ri
        obtain ⟨vs, h1, h2, h3⟩ := s3.cel n _ _ ha hst
        have hl := h3.length
        refine ⟨_, vs, k, k.toNat, rfl, rfl, h1, ?_, ?_⟩
        · unfold ixN
          rw [hl, if_pos hk.1, if_pos hk.2]
        · refine PostS.next hP3 (((hE.mono e1).mono e2).mono e3) (s3.setcell ha ⟨_, upd_same, by rw [List.length_set]; exact h2, h3.set ((rv.mono e2).mono e3) _⟩)
    · exact hP3.elim
  · exact hP3.elim
/-! ### for -/
def forF (T : Tab) (tg : Tg) (body : List S) : D → TW.Env → Store → TW.R Out := fun x env st => match asgT tg env x with
  | none => .stuck
  | some env1 => evSs T body env1 st
theorem ss_for {n : Nat} {tg itx : Expr} {body : List Stmt} {body' : List S} {k : IK} {its : List E} {tg' : Tg} (hs : ∀ e e', cE c n e = some e' → SoundE c e e') (hit : cIter (cE c n) c tg itx = some (k, its)) (ht : cTg c tg = some tg') (hb : SoundSs c body body') :
    SoundS c (.For tg itx body [] pos) (.for_ tg' k its body') := by
  intro X W T lv hX A B F H st σ env D hE hS hP
  have hP0 : PostS X W A B F D ((evEs T its env st).bind (itk k fun ds xs st => forL st ds (forF T tg' body') xs env st)) := by
    rw [evS] at hP
    exact hP
  refine semS_of (ps_for hX.po hX.calm pi_sem pg_sem pss_sem (cIter_set hit _)) ?_
  refine i_all hs hit X W T lv hX A B F H st σ env _ _ hE hS (srcs_of hP0) fun J H1 A1 B1 st1 ds xs e1 s1 wd hP1 => ?_
  refine ⟨fun i m σ2 H2 => m = xs.length - i ∧ i ≤ xs.length ∧ ∃ A2 B2 st2 env2, Ext A1 B1 A2 B2 ∧ ER X.K X.mg A2 B2 σ2 env2 ∧ SR X.K X.mg A2 B2 F H2 st2 ∧ KeepD st1 ds st2 ∧
    PostS X W A2 B2 F D (forL st1 ds (forF T tg' body') (xs.drop i) env2 st2),
    ⟨xs.length, rfl, Nat.zero_le _, A1, B1, st1, env, Ext.refl _ _, hE.mono e1, s1, KeepD.refl _ _, hP1⟩, ?_⟩
  rintro i m σ2 H2 ⟨rfl, hi', A2, B2, st2, env2, e2, hE2, s2, kp, hP2⟩
  obtain ⟨_, go, stop, yld⟩ := wd _ A2 B2 H2 st2 e2 s2 kp
  by_cases hlt : i < xs.length
  · refine .inr ⟨go i hlt, fun σ3 H3 => ∃ A3 B3 st3 env3, Ext A1 B1 A3 B3 ∧ ER X.K X.mg A3 B3 σ3 env3 ∧ SR X.K X.mg A3 B3 F H3 st3 ∧ KeepD st1 ds st3 ∧
      PostS X W A3 B3 F D (forL st1 ds (forF T tg' body') (xs.drop (i + 1)) env3 st3), fun σ3 H3 h3 => ?_, fun x H3 hy => ?_⟩
    · obtain ⟨A3, B3, st3, env3, q⟩ := h3
      exact ⟨xs.length - (i + 1), by omega, rfl, hlt, A3, B3, st3, env3, q⟩
    · obtain ⟨B3, sm, s3, rx⟩ := yld i x H3 xs[i] (List.getElem?_eq_getElem hlt) hy
      have e3 : Ext A2 B2 A2 B3 := .b_of sm
      rw [drop_cons hlt] at hP2
      have hP3 := PostG.ext hP2 e3
      rw [forL] at hP3
      cases ha : asgT tg' env2 xs[i] with
      | none =>
        have q : forF T tg' body' xs[i] env2 st2 = .stuck := by unfold forF; rw [ha]
        rw [q] at hP3
        exact hP3.elim
      | some env3 =>
        have q : forF T tg' body' xs[i] env2 st2 = evSs T body' env3 st2 := by unfold forF; rw [ha]
        rw [q] at hP3
        refine s_tg hX ht (hE2.mono e3) s3 rx ha fun σ' hE' _ => ?_
        refine hb X W T lv hX A2 B3 F H3 st2 σ' env3 _ hE' s3 (hP3.step fun o H4 A4 B4 st4 o' _ e4 ro s4 hP4 => ?_)
        cases o with
        | inl σ4 =>
          cases o' with
          | next env4 =>
            obtain ⟨kp4, hP5⟩ := chk_keep hP4
            exact ⟨A4, B4, st4, env4, (e2.trans e3).trans e4, ro, s4, kp4, hP5⟩
          | ret d => exact False.elim ro
        | inr v =>
          cases o' with
          | next env1 => exact False.elim ro
          | ret d => exact PostS.ret (D := D) hP4 ro s4
  · have e : i = xs.length := by omega
    subst e
    refine .inl ⟨stop, ?_⟩
    rw [List.drop_length, forL] at hP2
    exact PostS.next hP2 hE2 s2
/-! ### while -/
theorem ss_while {body : List Stmt} {body' : List S} {m : Nat} (hc : SoundT c e e') (hb : SoundSs c body body') : SoundS c (.While e body [] pos) (.whl m e' body') := by
  intro X W T lv hX A B F H st σ env D hE hS hP
  rw [evS] at hP
  refine semS_of (ps_while hX.po pt_sem pss_sem) ?_
  refine ⟨fun m σ2 H2 => ∃ A2 B2 st2 env2, Ext A B A2 B2 ∧ ER X.K X.mg A2 B2 σ2 env2 ∧ SR X.K X.mg A2 B2 F H2 st2 ∧ PostS X W A2 B2 F D (whlL (fun env st => evE T e' env st) (fun env st => evSs T body' env st) m env2 st2), ⟨m, A, B, st, env, Ext.refl _ _, hE, hS, hP⟩, ?_⟩
  rintro m σ2 H2 ⟨A2, B2, st2, env2, e2, hE2, s2, hP2⟩
  cases m with
  | zero => rw [whlL] at hP2; exact hP2.elim
  | succ m =>
    have hP3 : PostS X W A2 B2 F D (((evE T e' env2 st2).bind toB).bind fun b st1 => if b = true then (evSs T body' env2 st1).bind (fun o st2 => match o with
      | .ret d => .ok (.ret d) st2
      | .next env1 => whlL (fun env st => evE T e' env st) (fun env st => evSs T body' env st) m env1 st2) else .ok (.next env2) st1) := by
      rw [whlL] at hP2
      rw [bind_assoc]
      refine cast (congrArg (PostS X W A2 B2 F D) (bind_congr fun d st => ?_)) hP2
      cases d with
      | bl b => cases b <;> rfl
      | _ => rfl
    refine hc X W T lv hX A2 B2 F H2 st2 σ2 env2 _ hE2 s2 (hP3.step fun k H3 A3 B3 st3 k' _ e3 rk s3 hP4 => ?_)
    have q : k = k' := rk
    subst q
    cases k with
    | false => exact iteF (PostS.next hP4 (hE2.mono e3) s3)
    | true =>
      refine iteT ⟨fun σ4 H4 => ∃ A4 B4 st4 env4, Ext A B A4 B4 ∧ ER X.K X.mg A4 B4 σ4 env4 ∧ SR X.K X.mg A4 B4 F H4 st4 ∧ PostS X W A4 B4 F D (whlL (fun env st => evE T e' env st) (fun env st => evSs T body' env st) m env4 st4), fun σ4 H4 h4 => ⟨m, Nat.lt_succ_self m, h4⟩, ?_⟩
      have hP5 : PostS X W A3 B3 F D ((evSs T body' env2 st3).bind (fun o st2 => match o with
        | .ret d => .ok (.ret d) st2
        | .next env1 => whlL (fun env st => evE T e' env st) (fun env st => evSs T body' env st) m env1 st2)) := hP4
      refine hb X W T lv hX A3 B3 F H3 st3 σ2 env2 _ (hE2.mono e3) s3 (hP5.step fun o H4 A4 B4 st4 o' _ e4 ro s4 hP6 => ?_)
      cases o with
      | inl σ4 =>
        cases o' with
        | next env4 => exact ⟨A4, B4, st4, env4, (e2.trans e3).trans e4, ro, s4, hP6⟩
        | ret d => exact False.elim ro
      | inr v =>
        cases o' with
        | next env1 => exact False.elim ro
        | ret d => exact PostS.ret (D := D) hP6 ro s4
end
end TW
/-! TwStm3: all statements. -/
namespace TW
open PySem PySem.Spec PyProof.Rows L2
theorem sound_ss {c : CC} {f : Stmt → Option S} (h : ∀ s s', f s = some s' → SoundS c s s') : ∀ (ss : List Stmt) (ss' : List S), cSs f ss = some ss' → SoundSs c ss ss'
  | [], ss', e => by
    cases e
    exact ss_nil
  | s :: r, ss', e => by
    unfold cSs at e
    split at e
    · rename_i a b h1 h2
      cases e
      exact ss_cons (h s a h1) (sound_ss h r b h2)
    · cases e
theorem sEn {c : CC} {m : Nat} {x : Str} {e : Expr} {e' : E} (h : cEn c m x e = some e') : SoundE c e e' ∧ isStarE e = false := by
  unfold cEn at h
  split at h
  · split at h
    · split at h
      · rename_i hl
        obtain ⟨as, h1, rfl⟩ := map_some h
        exact ⟨s_newl (AllS.of (fun e e' q => sE q) h1) hl, rfl⟩
      · cases h
    · exact ⟨sE h, cE_star h⟩
  · exact ⟨sE h, cE_star h⟩
theorem sound_s (c : CC) (m : Nat) : ∀ (n : Nat) (s : Stmt) (s' : S), cS c m n s = some s' → SoundS c s s' := by
  intro n
  induction n with
  | zero => intro s s' h; cases h
  | succ n ih =>
    intro s s' h
    have ihs := sound_ss ih
    unfold cS at h
    split at h
    · -- name = e
      split at h
      · rename_i i hi
        split at h
        · rename_i hst
          split at h
          · split at h
            · split at h
              · rename_i hl
                obtain ⟨as, h1, rfl⟩ := map_some h
                exact ss_asg0 hi hst (s_newl (AllS.of (fun e e' q => sE q) h1) hl) fun X W T lv hX => rfl
              · cases h
            · obtain ⟨a, h1, rfl⟩ := map_some h
              exact ss_asg hi hst h1
          · obtain ⟨a, h1, rfl⟩ := map_some h
            exact ss_asg hi hst h1
        · cases h
      · cases h
    · -- a, b = x, y
      split at h
      · rename_i i j hi hj
        split at h
        · rename_i hst
          split at h
          · rename_i a b ha hb
            split at h
            · rename_i hw
              cases h
              exact ss_par hi hj (sEn ha).1 (sEn ha).2 (sEn hb).1 (sEn hb).2 hw
            · split at h
              · rename_i hw
                cases h
                refine ss_unp0 (ps := [(_, i), (_, j)]) (by simp only [cNames, hi, hj]; rfl) ?_ (s_tup (.cons (sEn ha).1 (sEn ha).2 (.cons (sEn hb).1 (sEn hb).2 .nil)) (by show 2 ≤ 1000; decide)) fun X W T lv hX => sw_no (bk_of hX) (sEn ha).2 (sEn hb).2 (by rw [hX.sc]; exact hw)
                intro p hp
                simp only [List.mem_cons, List.not_mem_nil, or_false] at hp
                rcases hp with rfl | rfl
                · exact hst.1
                · exact hst.2
              · cases h
          · cases h
        · cases h
      · cases h
    · -- (a, ..) = e
      split at h
      · rename_i hn
        split at h
        · rename_i ps e hp he
          split at h
          · rename_i hs
            cases h
            exact ss_unp0 hp (fun p hp => by simpa using List.all_eq_true.mp hs p hp) (sE he) fun X W T lv hX => swapped_no hn
          · cases h
        · cases h
      · cases h
    · -- o[i] = e
      split at h
      · cases h
      · rename_i hsl
        split at h
        · rename_i o i e ho hi he
          cases h
          exact ss_set (Bool.eq_false_iff.mpr hsl) (sE ho) (sE hi) (sE he)
        · cases h
    · obtain ⟨a, h1, rfl⟩ := map_some h
      exact ss_expr (sE h1)
    · -- return e
      split at h
      · split at h
        · rename_i a b ha hb
          cases h
          exact ss_ret (s_catc (sE ha) (sE hb))
        · cases h
      · obtain ⟨a, h1, rfl⟩ := map_some h
        exact ss_ret (sE h1)
    · cases h
      exact ss_retN
    · cases h
      exact ss_pass
    · split at h
      · rename_i hx
        rw [Bool.and_eq_true] at hx
        obtain ⟨a, h1, rfl⟩ := map_some h
        exact ss_raise hx.1 hx.2 h1
      · cases h
    · split at h
      · rename_i t a b ht ha hb
        cases h
        exact ss_if (sT ht) (ihs _ _ ha) (ihs _ _ hb)
      · cases h
    · split at h
      · rename_i k its tg body hit ht hb
        cases h
        exact ss_for (fun e e' q => sE q) hit ht (ihs _ _ hb)
      · cases h
    · split at h
      · rename_i t body ht hb
        cases h
        exact ss_while (sT ht) (ihs _ _ hb)
      · cases h
    · cases h
theorem sound_body {c : CC} {m n : Nat} {ss : List Stmt} {ss' : List S} (h : cSs (cS c m n) ss = some ss') : SoundSs c ss ss' := sound_ss (sound_s c m n) ss ss' h
end TW
/-! TwDef: defs, the table of a text. -/
namespace TW
open PySem PySem.Spec PyProof.Rows L2
section
variable {K : PySem.W.Frag} {mg : Str → Option Value} {A A' : List Addr} {B B' B'' F H H' : Hp} {st st0 : Store}
mutual
theorem RV.under {v : V} {d : D} : RV K mg A B v d → D.under A.length d = true
  | .non => rfl
  | .bl b => rfl
  | .int i => rfl
  | .str z => rfl
  | .tup h hl hs => by
    unfold D.under
    exact RVs.underL hs
  | .lst h hl hs => by
    unfold D.under
    exact RVs.underL hs
  | .scr h hl => rfl
  | .ref h => by
    unfold D.under
    exact decide_eq_true (List.getElem?_eq_some_iff.mp h).1
  | .glb h => rfl
theorem RVs.underL {vs : List V} {ds : List D} : RVs K mg A B vs ds → D.underL A.length ds = true
  | .nil => rfl
  | .cons h hs => by
    unfold D.underL
    rw [RV.under h, RVs.underL hs]
    rfl
end
mutual
theorem RV.narrow {n : Nat} (ha : ∀ (i : Nat) (a : Addr), i < n → A'[i]? = some a → A[i]? = some a) (sb : Same B' B'') {v : V} {d : D} : RV K mg A' B' v d → D.under n d = true → RV K mg A B'' v d
  | .non, _ => .non
  | .bl b, _ => .bl b
  | .int i, _ => .int i
  | .str z, _ => .str z
  | .tup h hl hs, u => by
    unfold D.under at u
    exact .tup (Same.seqT sb h) hl (RVs.narrow ha sb hs u)
  | .lst h hl hs, u => by
    unfold D.under at u
    exact .lst (sb _ _ h) hl (RVs.narrow ha sb hs u)
  | .scr h hl, _ => .scr (Same.seq sb h) hl
  | .ref h, u => by
    unfold D.under at u
    exact .ref (ha _ _ (of_decide_eq_true u) h)
  | .glb h, _ => .glb h
theorem RVs.narrow {n : Nat} (ha : ∀ (i : Nat) (a : Addr), i < n → A'[i]? = some a → A[i]? = some a) (sb : Same B' B'') {vs : List V} {ds : List D} : RVs K mg A' B' vs ds → D.underL n ds = true → RVs K mg A B'' vs ds
  | .nil, _ => .nil
  | .cons h hs, u => by
    unfold D.underL at u
    rw [Bool.and_eq_true] at u
    exact .cons (RV.narrow ha sb h u.1) (RVs.narrow ha sb hs u.2)
end
/-- the part that stays, and the cells behind the first n -/
def froz (n : Nat) (A' : List Addr) (B' H' : Hp) : Hp := fun a => if a ∈ A'.drop n then H' a else B' a
structure Back (K : PySem.W.Frag) (mg : Str → Option Value) (A A' : List Addr) (B B' F H' : Hp) (st0 st' : Store) : Prop where
  ext : Ext A B A (froz st0.length A' B' H')
  sb : Same B' (froz st0.length A' B' H')
  sr : SR K mg A (froz st0.length A' B' H') F H' st0
  ha : ∀ (i : Nat) (a : Addr), i < st0.length → A'[i]? = some a → A[i]? = some a
  hd : ∀ (i : Nat) (a : Addr), st0.length ≤ i → A'[i]? = some a → froz st0.length A' B' H' a = H' a
theorem back_of {H0 : Hp} {st' : Store} (s0 : SR K mg A B F H0 st0) (x : Ext A B A' B') (s : SR K mg A' B' F H' st') (e : st'.take st0.length = st0) : Back K mg A A' B B' F H' st0 st' := by
  have hlen : A.length = st0.length := s0.len
  have ha : ∀ (i : Nat) (a : Addr), i < st0.length → A'[i]? = some a → A[i]? = some a := fun i a hi h => by
    have hi' : i < A.length := by rw [hlen]; exact hi
    have h1 := x.a i _ (List.getElem?_eq_getElem hi')
    rw [h] at h1
    cases h1
    exact List.getElem?_eq_getElem hi'
  have memA : ∀ a ∈ A, a ∈ A' ∧ a ∉ A'.drop st0.length := fun a h => by
    obtain ⟨i, hi, e1⟩ := List.getElem_of_mem h
    have h1 := x.a i a (by rw [List.getElem?_eq_getElem hi, e1])
    refine ⟨List.mem_of_getElem? h1, fun hd => ?_⟩
    obtain ⟨j, hj, e2⟩ := List.getElem_of_mem hd
    rw [List.getElem_drop] at e2
    obtain ⟨i1, e3⟩ := List.getElem?_eq_some_iff.mp h1
    have := (List.getElem_inj s.nd).mp (e3.trans e2.symm)
    omega
  have inD : ∀ a ∈ A'.drop st0.length, a ∈ A' := fun a h => List.mem_of_mem_drop h
  have sb : Same B' (froz st0.length A' B' H') := fun a o h => by
    unfold froz
    rw [if_neg]
    · exact h
    · intro hd
      rw [s.nb a (inD a hd)] at h
      cases h
  refine ⟨.b_of (x.b.trans sb), sb, ?_, ha, ?_⟩
  · refine ⟨s0.len, s0.nd, fun a h => ?_, s0.nf, fun a o h => ?_, s.sf, fun a o h => ?_, fun n a c h1 h2 => ?_⟩
    · unfold froz
      rw [if_neg (memA a h).2]
      exact s.nb a (memA a h).1
    · unfold froz at h
      split at h
      · exact h
      · exact s.sb a o h
    · unfold froz
      split
      · rename_i hd
        rw [s.nf a (inD a hd)] at h
        cases h
      · exact s.fb a o h
    · have hn : n < st0.length := (List.getElem?_eq_some_iff.mp h2).1
      have h1' := x.a n a h1
      have h2' : st'[n]? = some c := by
        rw [← e, List.getElem?_take, if_pos hn] at h2
        exact h2
      have q := s.cel n a c h1' h2'
      have q0 := s0.cel n a c h1 h2
      cases c with
      | lst ds =>
        obtain ⟨xs, g1, g2, g3⟩ := q
        obtain ⟨ys, f1, f2, f3⟩ := q0
        exact ⟨xs, g1, g2, g3.narrow ha sb (by rw [← hlen]; exact f3.underL)⟩
      | ins c fs =>
        obtain ⟨C, dx, fv, g0, g1, g2, g3⟩ := q
        obtain ⟨C', dx', fv', f0, f1, f2, f3⟩ := q0
        exact ⟨C, dx, fv, g0, g1, g2, g3.narrow ha sb (by rw [← hlen]; exact f3.underL)⟩
  · intro i a hi h
    unfold froz
    rw [if_pos]
    refine List.mem_of_getElem? (i := i - st0.length) ?_
    rw [List.getElem?_drop]
    rw [show st0.length + (i - st0.length) = i from by omega]
    exact h
theorem frz_ok {v : V} {d d' : D} {st' : Store} (b : Back K mg A A' B B' F H' st0 st') (s : SR K mg A' B' F H' st') (r : RV K mg A' B' v d) (h : frz st0.length st' d = some d') : RV K mg A (froz st0.length A' B' H') v d' := by
  have gen : ∀ d, RV K mg A' B' v d → (if D.under st0.length d then some d else none) = some d' → RV K mg A (froz st0.length A' B' H') v d' := fun d r h => by
    split at h
    · rename_i hu
      cases h
      exact r.narrow b.ha b.sb hu
    · cases h
  unfold frz at h
  split at h
  · rename_i n
    split at h
    · rename_i hn
      cases h
      exact r.narrow b.ha b.sb (by unfold D.under; exact decide_eq_true hn)
    · rename_i hn
      split at h
      · rename_i xs hx
        split at h
        · rename_i hu
          cases h
          cases r with
          | ref hA =>
            obtain ⟨vs, g1, g2, g3⟩ := s.cel n _ _ hA hx
            exact .lst (by rw [b.hd n _ (by omega) hA]; exact g1) g2 (g3.narrow b.ha b.sb hu)
        · cases h
      · cases h
  · exact gen _ r h
end
/-- behind a body: behind the call -/
theorem leave_ok {X : Cx} {W : XK} {A : List Addr} {B F H0 : Hp} {st0 : Store} {Q : VK} {r : TW.R Out} {keep : Bool} (s0 : SR X.K X.mg A B F H0 st0) (h : Post X W A B F Q (leave keep st0 r)) :
    PostS X W A B F { nx := fun _ H' => Q .non H', rt := Q } r := by
  cases r with
  | stuck => exact h
  | exc c st' =>
    unfold leave at h
    cases keep with
    | true => exact h
    | false =>
      have h' : Post X W A B F Q (sameOld st0 st' (.exc c st0)) := h
      unfold sameOld at h'
      split at h'
      · rename_i he
        obtain ⟨C, hC, q⟩ := h'
        refine ⟨C, hC, fun A' B' H' x s => ?_⟩
        have b := back_of s0 x s (sameSt_eq he)
        exact q A _ H' b.ext b.sr
      · exact h'.elim
  | ok o st' =>
    unfold leave at h
    cases keep with
    | true =>
      intro u A' B' H' x ru s
      cases o with
      | next env =>
        cases u with
        | inl σ => exact h .non A' B' H' x .non s
        | inr v => exact False.elim ru
      | ret d =>
        cases u with
        | inl σ => exact False.elim ru
        | inr v => exact h v A' B' H' x ru s
    | false =>
      have main : ∀ (d : TW.D), Post X W A B F Q (sameOld st0 st' (ofO (frz st0.length st' d) st0)) → ∀ v A' B' H', Ext A B A' B' → RV X.K X.mg A' B' v d → SR X.K X.mg A' B' F H' st' → Q v H' := by
        intro d hd v A' B' H' x rv s
        unfold sameOld at hd
        split at hd
        · rename_i he
          have b := back_of s0 x s (sameSt_eq he)
          cases e : frz st0.length st' d with
          | none => rw [e] at hd; exact hd.elim
          | some d' =>
            rw [e] at hd
            exact hd v A _ H' b.ext (frz_ok b s rv e) b.sr
        · exact hd.elim
      intro u A' B' H' x ru s
      cases o with
      | next env =>
        cases u with
        | inl σ => exact main .non h .non A' B' H' x .non s
        | inr v => exact False.elim ru
      | ret d =>
        cases u with
        | inl σ => exact False.elim ru
        | inr v => exact main d h v A' B' H' x ru s

/-! ### a def -/
def isLocB (sc : Scope) (x : Str) : Bool := match sc.names.lookup x with
  | some .local => true
  | some .cell => true
  | _ => false
theorem isLocB_eq {sc : Scope} {x : Str} (h : isLocB sc x = true) : Loc sc x := by
  unfold isLocB at h
  split at h
  · exact .inl (by assumption)
  · exact .inr (by assumption)
  · cases h
def ccOf (st : Stmt) (N : List Str) (G ex : List String) (cel : List Str) (fresh : Bool) : CC := ⟨N, defScope st, N.filter (isLocB (defScope st)), G, ex, cel, fresh⟩
def fsB (N ps : List Str) (sc : Scope) : Bool :=
  (match sc.kind with | .function => true | _ => false) && !sc.isCoroutine && !sc.isGenerator && decide N.Nodup && decide (N.take ps.length = ps) && ps.all (isLocB sc) && sc.names.all fun y => match y.2 with | .free => false | _ => true
theorem fsB_ok {N ps : List Str} {sc : Scope} (h : fsB N ps sc = true) : FnScope N ps sc := by
  unfold fsB at h
  simp only [Bool.and_eq_true, Bool.not_eq_true', decide_eq_true_eq] at h
  obtain ⟨⟨⟨⟨⟨⟨h1, h2⟩, h3⟩, h4⟩, h5⟩, h6⟩, h7⟩ := h
  refine ⟨?_, h2, h3, h4, h5, fun x hx => isLocB_eq (List.all_eq_true.mp h6 x hx), fun y hy z => ?_⟩
  · split at h1
    · assumption
    · cases h1
  · have q := List.all_eq_true.mp h7 y hy
    rw [z] at q
    cases q
/-- what is known of one def's text -/
structure Src (K : PySem.W.Frag) (mg : Str → Option Value) (G ex : List String) (x : String) (d : Def) : Prop where
  ex : ∃ (st : Stmt) (f : Addr) (fd : FuncData) (N ps cel : List Str) (fresh : Bool), mg (nameOf x) = some (.ref f) ∧ Fun K (nameOf x) (nameOf x) st f fd ∧ Binds K fd ps [] ∧ fsB N ps (defScope st) = true ∧ d.n = N.length ∧ d.ps = ps.length ∧
    cSs (cS (ccOf st N G ex cel fresh) 60 60) (defBody st) = some d.body
section
variable {P : Program} {w : World} {K : PySem.W.Frag} {mg : Str → Option Value} {base : Heap}
theorem er_start {A : List Addr} {B : Hp} {N : List Str} {vs : List V} {ds : List D} {k : Nat} (r : RVs K mg A B vs ds) (hk : k = N.length - ds.length) : ER K mg A B (start N vs) (ds.map some ++ List.replicate k none) := by
  have hl := r.length
  subst hk
  unfold L2.start
  refine ⟨by simp [hl], fun i d h => ?_⟩
  by_cases hi : i < ds.length
  · rw [List.getElem?_append_left (by rw [List.length_map]; exact hi), List.getElem?_map] at h
    cases e : ds[i]? with
    | none => rw [e] at h; cases h
    | some d' =>
      rw [e] at h
      cases h
      obtain ⟨v, h1, h2⟩ := r.get e
      refine ⟨v, ?_, h2⟩
      rw [List.getElem?_append_left (by rw [List.length_map, hl]; exact hi), List.getElem?_map, h1]
      rfl
  · rw [List.getElem?_append_right (by rw [List.length_map]; omega)] at h
    obtain ⟨h1, h2⟩ := List.getElem?_eq_some_iff.mp h
    rw [List.getElem_replicate] at h2
    cases h2
theorem def_fn {x : String} {d : Def} {G ex : List String} {T : Tab} {lv : Nat} {st : Stmt} {f : Addr} {fd : FuncData} {N ps cel : List Str} {fresh : Bool} (Fn : Fun K (nameOf x) (nameOf x) st f fd) (hfs : fsB N ps (defScope st) = true) (hn : d.n = N.length) (hps : d.ps = ps.length)
    (hc : cSs (cS (ccOf st N G ex cel fresh) 60 60) (defBody st) = some d.body) (tabs : ∀ x f, T x = some f → TabOk P w K mg base lv x f) (excs : ∀ x ∈ ex, ExcOk K mg x) (ins : ∀ x ∈ G, ∃ g, T x = some g) (blts : ∀ x ∈ allBlts, mg (nameOf x) = none) :
    FnOk P w K mg base (L2.CX P w) (lv + 1) f fd ps (spOf K mg ps.length (runDef T d)) := by
  have hS := fsB_ok hfs
  refine Fn.okX hS (fun vs H Q E h => h.1) ?_
  intro cdv A outer s H vs Q E hr hsp
  obtain ⟨hvl, A0, B0, F0, st0, ds, rs, sr, hP⟩ := hsp
  refine ⟨_, pss_sem, ?_⟩
  have hdl : ds.length = d.ps := by rw [hps, ← hvl]; exact rs.length.symm
  unfold runDef at hP
  rw [if_pos hdl] at hP
  have hX : Ctx (cxOf (L2.CX P w) P w K mg base N (nameOf x) (defScope st) f cdv A outer s H E) E T lv (ccOf st N G ex cel fresh) :=
    { hN := rfl, nd := hS.nd, sc := rfl, kind := hS.kind, calm := rfl, po := passes_of rfl, tk := takes_of rfl rfl rfl rfl, room := hr
      stor := fun y hy => ⟨isLocB_eq (List.mem_filter.mp hy).2, .inl rfl⟩
      tabs := tabs, excs := excs, ins := ins, blts := blts }
  exact sound_body hc _ E T lv hX A0 B0 F0 H st0 _ _ _ (er_start rs (by rw [hn, hdl])) sr (leave_ok (X := cxOf (L2.CX P w) P w K mg base N (nameOf x) (defScope st) f cdv A outer s H E) sr hP)
theorem def_ok {x : String} {d : Def} {G ex : List String} {T : Tab} {lv : Nat} (S : Src K mg G ex x d) (tabs : ∀ x f, T x = some f → TabOk P w K mg base lv x f) (excs : ∀ x ∈ ex, ExcOk K mg x) (ins : ∀ x ∈ G, ∃ g, T x = some g) (blts : ∀ x ∈ allBlts, mg (nameOf x) = none) :
    TabOk P w K mg base (lv + 1) x (runDef T d) := by
  obtain ⟨st, f, fd, N, ps, cel, fresh, hm, Fn, hb, hfs, hn, hps, hc⟩ := S.ex
  refine ⟨f, fd, ps, hm, Fn.kp, hb, def_fn Fn hfs hn hps hc tabs excs ins blts, fun ds st hl => ?_⟩
  unfold runDef
  rw [if_neg]
  rw [hps]
  exact hl
/-! ### the table -/
inductive Srcz (K : PySem.W.Frag) (mg : Str → Option Value) (ex : List String) : List (String × Def) → Prop
  | nil : Srcz K mg ex []
  | cons {x : String} {d : Def} {r : List (String × Def)} {G : List String} : Src K mg G ex x d → (G.all fun y => (r.map (·.1)).contains y) = true → Srcz K mg ex r → Srcz K mg ex ((x, d) :: r)
theorem tab_in : ∀ {L : List (String × Def)} {x : String}, x ∈ L.map (·.1) → ∃ g, tab L x = some g
  | [], _, h => by cases h
  | (y, d) :: r, x, h => by
    unfold tab
    by_cases e : x = y
    · exact ⟨_, if_pos e⟩
    · rw [List.map_cons, List.mem_cons] at h
      obtain ⟨g, hg⟩ := tab_in (L := r) (x := x) (h.resolve_left e)
      exact ⟨g, by rw [if_neg e]; exact hg⟩
theorem TabOk.mono {j k : Nat} {x : String} {f : Fn} (h : TabOk P w K mg base j x f) (hk : j ≤ k) : TabOk P w K mg base k x f := by
  obtain ⟨a, fd, ps, h1, h2, h3, h4, h5⟩ := h.ex
  exact ⟨a, fd, ps, h1, h2, h3, h4.mono hk, h5⟩
theorem tab_ok {ex : List String} (excs : ∀ x ∈ ex, ExcOk K mg x) (blts : ∀ x ∈ allBlts, mg (nameOf x) = none) : ∀ {L : List (String × Def)}, Srcz K mg ex L → ∀ x f, tab L x = some f → TabOk P w K mg base L.length x f
  | [], _, x, f, h => by cases h
  | (y, d) :: r, .cons (G := G) S hG t, x, f, h => by
    have ih := tab_ok excs blts t
    unfold tab at h
    split at h
    · rename_i e
      cases h
      subst e
      exact def_ok S ih excs (fun z hz => tab_in (by have := List.all_eq_true.mp hG z hz; simpa using this)) blts
    · exact (ih x f h).mono (Nat.le_succ _)
end
end TW
/-! TwEnd: from the table to the law's own call. -/
namespace TW
open PySem PySem.Spec PyProof.Rows L2
theorem src_mk {K : PySem.W.Frag} {h : Heap} {mg : Str → Option Value} (X : K.In h) (Gs : h.Ns mainGlobals mg) {x : String} {d : Def} {st : Stmt} {G ex : List String} {f : Addr} {N ps cel : List Str} {fresh : Bool} {oc : Value} {od an : Option Addr} {osl : Array (Option Value)} {kV doc pm cdv ct : Value}
    (a : PySem.W.nsIn K mainGlobals (nameOf x) = some (some (.ref f))) (l : K.lookup f = some ⟨oc, od, .func (PySem.W.fnOf (nameOf x) (nameOf x) (defArgs st) (defBody st) (defScope st) .none kV doc pm an cdv ct), osl⟩)
    (c : PySem.W.codeIn K cdv (nameOf x) = true) (k : PySem.W.keepIn K (.ref f) = true)
    (hb : ∀ (kV doc pm : Value) (an : Option Addr) (cdv ct : Value) (us : List Value), us.length = ps.length → bindArgs (PySem.W.fnOf (nameOf x) (nameOf x) (defArgs st) (defBody st) (defScope st) .none kV doc pm an cdv ct) ⟨us, []⟩ = pure (ps.zip us))
    (hfs : fsB N ps (defScope st) = true) (hn : d.n = N.length) (hps : d.ps = ps.length) (hc : cSs (cS (ccOf st N G ex cel fresh) 60 60) (defBody st) = some d.body) : Src K mg G ex x d :=
  ⟨st, f, _, N, ps, cel, fresh, PySem.W.mg_of X Gs a, fun_mk l c k, (fun_mk (st := st) l c k).binds hb, hfs, hn, hps, hc⟩
theorem exc_mk {K : PySem.W.Frag} {h : Heap} {mg : Str → Option Value} (X : K.In h) (Gs : h.Ns mainGlobals mg) {x : String} {C : Addr} (a : PySem.W.nsIn K mainGlobals (nameOf x) = some (some (.ref C))) (b : PySem.W.keepIn K (.ref C) = true)
    (c : PySem.W.excIn K C [.type "ValueError", .type "Exception", .type "BaseException", .type "object"] "ValueError.__new__" = true) (d : PySem.W.subIn K (.ref C) (.type "BaseException") = some true) (e : PySem.W.typeIn K (.ref C) = some (.type "type")) : ExcOk K mg x :=
  ⟨C, PySem.W.mg_of X Gs a, b, c, d, e⟩
/-- no builtin is hidden -/
theorem blts_of {K : PySem.W.Frag} {h : Heap} {mg : Str → Option Value} (X : K.In h) (Gs : h.Ns mainGlobals mg) (z_len : PySem.W.nsIn K mainGlobals (nameOf "len") = some none) (z_tuple : PySem.W.nsIn K mainGlobals (nameOf "tuple") = some none) (z_list : PySem.W.nsIn K mainGlobals (nameOf "list") = some none) (z_abs : PySem.W.nsIn K mainGlobals (nameOf "abs") = some none) (z_min : PySem.W.nsIn K mainGlobals (nameOf "min") = some none) (z_max : PySem.W.nsIn K mainGlobals (nameOf "max") = some none) (z_sum : PySem.W.nsIn K mainGlobals (nameOf "sum") = some none) (z_all : PySem.W.nsIn K mainGlobals (nameOf "all") = some none) (z_any : PySem.W.nsIn K mainGlobals (nameOf "any") = some none) (z_sorted : PySem.W.nsIn K mainGlobals (nameOf "sorted") = some none) (z_int : PySem.W.nsIn K mainGlobals (nameOf "int") = some none) (z_range : PySem.W.nsIn K mainGlobals (nameOf "range") = some none) (z_zip : PySem.W.nsIn K mainGlobals (nameOf "zip") = some none) (z_enumerate : PySem.W.nsIn K mainGlobals (nameOf "enumerate") = some none) (z_isinstance : PySem.W.nsIn K mainGlobals (nameOf "isinstance") = some none) (z_bool : PySem.W.nsIn K mainGlobals (nameOf "bool") = some none) (z_str : PySem.W.nsIn K mainGlobals (nameOf "str") = some none) (z_dict : PySem.W.nsIn K mainGlobals (nameOf "dict") = some none) (z_set : PySem.W.nsIn K mainGlobals (nameOf "set") = some none) : ∀ x ∈ allBlts, mg (nameOf x) = none := by
  intro x hx
  simp only [allBlts, bltNames, bltIters, tyNames, List.cons_append, List.nil_append, List.mem_cons, List.not_mem_nil, or_false] at hx
  rcases hx with rfl | rfl | rfl | rfl | rfl | rfl | rfl | rfl | rfl | rfl | rfl | rfl | rfl | rfl | rfl | rfl | rfl | rfl | rfl | rfl | rfl | rfl
  all_goals exact PySem.W.mg_none_of X Gs (by assumption)
/-- what is asked of the law's own call -/
def spLaw (K : PySem.W.Frag) : Sp := fun vs H Q E => ∃ (a : Addr) (ns : List Int), vs = [.ref a] ∧ SqL K H a (ns.map V.int) ∧ ns.length ≤ 63 ∧ ∀ H', Q (.bl true) H'
theorem law_imp {K : PySem.W.Frag} {mg : Str → Option Value} {f : Fn} (hf : ∀ ns : List Int, ns.length ≤ 63 → f [.scr ns] [] = .ok (.bl true) []) (vs : List V) (H : Hp) (Q : VK) (E : XK) (h : spLaw K vs H Q E) : spOf K mg 1 f vs H Q E := by
  obtain ⟨a, ns, rfl, hs, hl, hq⟩ := h
  refine ⟨rfl, [], H, fun _ => none, [], [.scr ns], .cons (.scr hs (Nat.le_trans hl (by decide))) .nil, ?_, ?_⟩
  · exact ⟨rfl, List.nodup_nil, fun a h => (by cases h), fun a h => (by cases h), Same.refl H, fun a o h => (by cases h), fun a o h => (by cases h), fun n a c h => (by simp at h)⟩
  · rw [hf ns hl]
    intro v A' B' H' _ r _
    cases r
    exact hq H'
theorem law_fn {P : Program} {w : World} {K : PySem.W.Frag} {h : Heap} {mg : Str → Option Value} {base : Heap} (X : K.In h) (Gs : h.Ns mainGlobals mg) {ex : List String} {L : List (String × Def)} {d : Def} {st : Stmt} {f : Addr} {N : List Str} {oc : Value} {od an : Option Addr} {osl : Array (Option Value)} {kV doc pm cdv ct : Value}
    (l : K.lookup f = some ⟨oc, od, .func (PySem.W.fnOf (nameOf "law") (nameOf "law") (defArgs st) (defBody st) (defScope st) .none kV doc pm an cdv ct), osl⟩)
    (c : PySem.W.codeIn K cdv (nameOf "law") = true) (k : PySem.W.keepIn K (.ref f) = true) (hfs : fsB N ["script"] (defScope st) = true) (hn : d.n = N.length) (hps : d.ps = 1) {G : List String} (hG : (G.all fun y => (L.map (·.1)).contains y) = true)
    {cel : List Str} (hc : cSs (cS (ccOf st N G ex cel false) 60 60) (defBody st) = some d.body) (T : Srcz K mg ex L) (excs : ∀ x ∈ ex, ExcOk K mg x) (blts : ∀ x ∈ allBlts, mg (nameOf x) = none)
    (hf : ∀ ns : List Int, ns.length ≤ 63 → runDef (tab L) d [.scr ns] [] = .ok (.bl true) []) :
    FnOk P w K mg base (L2.CX P w) (L.length + 1) f (PySem.W.fnOf (nameOf "law") (nameOf "law") (defArgs st) (defBody st) (defScope st) .none kV doc pm an cdv ct) ["script"] (spLaw K) := by
  refine FnOk.imp ?_ (law_imp (mg := mg) hf)
  exact def_fn (fun_mk l c k) hfs hn hps hc (tab_ok excs blts T) excs (fun z hz => tab_in (by have := List.all_eq_true.mp hG z hz; simpa using this)) blts
theorem no_cx {P : Program} (w : World) (H : Hp) (s : Shared) (e : Value) (s' : Shared) (h : L2.CX P w [] H s (fun _ _ _ => False) e s') : False := by
  obtain ⟨_, _, _, _, _, _, _, _, _, _, _, _, z⟩ := h
  exact z
/-! ### the table, read -/
theorem up {L L' : List (String × Def)} {x : String} (k : Nat) (hk : L.drop k = L') (hn : ((L.take k).all fun p => p.1 != x) = true) : callT (tab L) x = callT (tab L') x := by
  subst hk
  funext ds st
  unfold callT
  congr 1
  induction k generalizing L with
  | zero => rfl
  | succ k ih =>
    cases L with
    | nil => rfl
    | cons p r =>
      rw [List.take_succ_cons, List.all_cons, Bool.and_eq_true] at hn
      obtain ⟨y, d⟩ := p
      rw [List.drop_succ_cons, ← ih hn.2]
      show (if x = y then _ else tab r x) = _
      rw [if_neg]
      intro z
      subst z
      simp at hn
theorem hit {r : List (String × Def)} {x : String} {d : Def} : callT (tab ((x, d) :: r)) x = runDef (tab r) d := by
  funext ds st
  have e : tab ((x, d) :: r) x = some (runDef (tab r) d) := if_pos rfl
  unfold callT
  rw [e]
end TW
/-! TwProg: the defs, as gen/prog.py printed them. -/
namespace TW
def d_is_between : Def := ⟨3, 3, [
  .ret (.and [.isi (.var 0) ["int"], .not (.isi (.var 0) ["bool"]), .chn .LtE .LtE (.var 1) (.var 0) (.var 2)])], false⟩
def d_are_between : Def := ⟨5, 4, [
  .ret (.and [.isi (.var 0) ["tuple"], .cmp .Eq (.blt "len" [.var 0]) (.var 1), .blt "all" [.lc (.call "is_between" [.var 4, .var 2, .var 3]) (.nm 4) .seq [.var 0] [] [4]]])], false⟩
def d_is_channel : Def := ⟨5, 1, [
  .ite (.or [.not (.isi (.var 0) ["tuple"]), .cmp .NotEq (.blt "len" [.var 0]) (.cst (.int 3))]) [
    .ret (.cst (.bl false))] [],
  .unp [1, 2, 3] (.var 0),
  .ite (.or [.not (.isi (.var 1) ["tuple"]), .not (.chn .LtE .LtE (.cst (.int 1)) (.blt "len" [.var 1]) (.cst (.int 3)))]) [
    .ret (.cst (.bl false))] [],
  .for_ (.nm 4) .seq [.var 1] [
    .ite (.or [.not (.isi (.var 4) ["tuple"]), .not (.chn .LtE .LtE (.cst (.int 1)) (.blt "len" [.var 4]) (.cst (.int 8))), .not (.call "are_between" [.var 4, .blt "len" [.var 4], .cst (.int 0), .cst (.int 6)])]) [
      .ret (.cst (.bl false))] []],
  .ret (.and [.call "are_between" [.var 2, .bin .Sub (.blt "len" [.var 1]) (.cst (.int 1)), .cst (.int 1), .cst (.int 9)], .call "are_between" [.var 3, .bin .Sub (.blt "len" [.var 1]) (.cst (.int 1)), .cst (.int 0), .cst (.int 3)]])], false⟩
def d_check_channel : Def := ⟨1, 1, [
  .ite (.not (.call "is_channel" [.var 0])) [
    .raise "InvalidChannel"] []], false⟩
def d_check_draught : Def := ⟨1, 1, [
  .ite (.not (.call "is_between" [.var 0, .cst (.int 0), .cst (.int 6)])) [
    .raise "InvalidDraught"] []], false⟩
def d_check_hour : Def := ⟨1, 1, [
  .ite (.not (.call "is_between" [.var 0, .cst (.int 0), .cst (.int 999)])) [
    .raise "InvalidHour"] []], false⟩
def d_check_bar : Def := ⟨2, 2, [
  .ite (.not (.call "is_between" [.var 1, .cst (.int 0), .bin .Sub (.blt "len" [.idx (.var 0) (.cst (.int 0))]) (.cst (.int 1))])) [
    .raise "InvalidBar"] []], false⟩
def d_divisor : Def := ⟨2, 2, [
  .whl 100000 (.cmp .NotEq (.var 1) (.cst (.int 0))) [
    .par 0 1 (.var 1) (.bin .Mod (.var 0) (.var 1))],
  .ret (.var 0)], false⟩
def d_period_of : Def := ⟨3, 1, [
  .asg 1 (.cst (.int 1)),
  .for_ (.nm 2) .seq [.idx (.var 0) (.cst (.int 0))] [
    .asg 1 (.bin .FloorDiv (.bin .Mult (.var 1) (.blt "len" [.var 2])) (.call "divisor" [.var 1, .blt "len" [.var 2]]))],
  .ret (.var 1)], false⟩
def d_period : Def := ⟨1, 1, [
  .expr (.call "check_channel" [.var 0]),
  .ret (.call "period_of" [.var 0])], false⟩
def d_depth_of : Def := ⟨4, 3, [
  .asg 3 (.idx (.idx (.var 0) (.cst (.int 0))) (.var 1)),
  .ret (.idx (.var 3) (.bin .Mod (.var 2) (.blt "len" [.var 3])))], false⟩
def d_depth_at : Def := ⟨3, 3, [
  .expr (.call "check_channel" [.var 0]),
  .expr (.call "check_bar" [.var 0, .var 1]),
  .expr (.call "check_hour" [.var 2]),
  .ret (.call "depth_of" [.var 0, .var 1, .var 2])], false⟩
def d_can_pass : Def := ⟨4, 4, [
  .expr (.call "check_channel" [.var 0]),
  .expr (.call "check_bar" [.var 0, .var 1]),
  .expr (.call "check_draught" [.var 2]),
  .expr (.call "check_hour" [.var 3]),
  .ret (.cmp .GtE (.call "depth_of" [.var 0, .var 1, .var 3]) (.var 2))], false⟩
def d_back_of : Def := ⟨1, 1, [
  .ret (.tup [.rev (.idx (.var 0) (.cst (.int 0))), .rev (.idx (.var 0) (.cst (.int 1))), .rev (.idx (.var 0) (.cst (.int 2)))])], false⟩
def d_turned_round : Def := ⟨1, 1, [
  .expr (.call "check_channel" [.var 0]),
  .ret (.call "back_of" [.var 0])], false⟩
def d_shifted : Def := ⟨5, 2, [
  .asg 2 (.lc (.blt "tuple" [.lc (.idx (.var 4) (.bin .Mod (.bin .Sub (.var 3) (.var 1)) (.blt "len" [.var 4]))) (.nm 3) .rng1 [.blt "len" [.var 4]] [] [3]]) (.nm 4) .seq [.idx (.var 0) (.cst (.int 0))] [] [4]),
  .ret (.tup [.blt "tuple" [.var 2], .idx (.var 0) (.cst (.int 1)), .idx (.var 0) (.cst (.int 2))])], false⟩
def d_later : Def := ⟨2, 2, [
  .expr (.call "check_channel" [.var 0]),
  .expr (.call "check_hour" [.var 1]),
  .ret (.call "shifted" [.var 0, .var 1])], false⟩
def d_is_found : Def := ⟨5, 3, [
  .for_ (.tp [3, 4]) .enum [.var 2] [
    .ite (.cmp .Lt (.call "depth_of" [.var 0, .var 3, .var 4]) (.var 1)) [
      .ret (.cst (.bl false))] [],
    .ite (.and [.cmp .Gt (.var 3) (.cst (.int 0)), .not (.chn .LtE .LtE (.cst (.int 0)) (.bin .Sub (.bin .Sub (.var 4) (.idx (.var 2) (.bin .Sub (.var 3) (.cst (.int 1))))) (.idx (.idx (.var 0) (.cst (.int 1))) (.bin .Sub (.var 3) (.cst (.int 1))))) (.idx (.idx (.var 0) (.cst (.int 2))) (.bin .Sub (.var 3) (.cst (.int 1)))))]) [
      .ret (.cst (.bl false))] []],
  .ret (.cst (.bl true))], false⟩
def d_is_passage : Def := ⟨3, 3, [
  .expr (.call "check_channel" [.var 0]),
  .expr (.call "check_draught" [.var 1]),
  .ret (.and [.call "are_between" [.var 2, .blt "len" [.idx (.var 0) (.cst (.int 0))], .cst (.int 0), .cst (.int 2000)], .call "is_found" [.var 0, .var 1, .var 2]])], false⟩
def d_all_from : Def := ⟨9, 3, [
  .asg 3 (.ite (.cmp .GtE (.call "depth_of" [.var 0, .cst (.int 0), .var 2]) (.var 1)) (.lst [.tup [.var 2]]) (.lst [])),
  .for_ (.nm 4) .rng2 [.cst (.int 1), .blt "len" [.idx (.var 0) (.cst (.int 0))]] [
    .unp [5, 6] (.tup [(.idx (.idx (.var 0) (.cst (.int 1))) (.bin .Sub (.var 4) (.cst (.int 1)))), (.idx (.idx (.var 0) (.cst (.int 2))) (.bin .Sub (.var 4) (.cst (.int 1))))]),
    .asg 3 (.lc2 (.bin .Add (.var 7) (.tup [.bin .Add (.bin .Add (.idx (.var 7) (.neg (.cst (.int 1)))) (.var 5)) (.var 8)])) (.nm 7) .seq [.var 3] [] (.nm 8) .rng1 [.bin .Add (.var 6) (.cst (.int 1))] [] [7, 8] [8]),
    .asg 3 (.lc (.var 7) (.nm 7) .seq [.var 3] [.cmp .GtE (.call "depth_of" [.var 0, .var 4, .idx (.var 7) (.neg (.cst (.int 1)))]) (.var 1)] [7])],
  .ret (.var 3)], false⟩
def d_check_three : Def := ⟨3, 3, [
  .expr (.call "check_channel" [.var 0]),
  .expr (.call "check_draught" [.var 1]),
  .expr (.call "check_hour" [.var 2])], false⟩
def d_passages : Def := ⟨3, 3, [
  .expr (.call "check_three" [.var 0, .var 1, .var 2]),
  .ret (.blt "tuple" [.call "all_from" [.var 0, .var 1, .var 2]])], false⟩
def d_soonest_from : Def := ⟨5, 3, [
  .asg 3 (.lc (.idx (.var 4) (.neg (.cst (.int 1)))) (.nm 4) .seq [.call "all_from" [.var 0, .var 1, .var 2]] [] [4]),
  .ret (.ite (.cmp .NotEq (.var 3) (.lst [])) (.blt "min" [.var 3]) (.cst .non))], false⟩
def d_soonest : Def := ⟨3, 3, [
  .expr (.call "check_three" [.var 0, .var 1, .var 2]),
  .ret (.call "soonest_from" [.var 0, .var 1, .var 2])], false⟩
def d_fewest_waits : Def := ⟨5, 3, [
  .expr (.call "check_three" [.var 0, .var 1, .var 2]),
  .asg 3 (.lc (.bin .Sub (.bin .Sub (.idx (.var 4) (.neg (.cst (.int 1)))) (.idx (.var 4) (.cst (.int 0)))) (.blt "sum" [.idx (.var 0) (.cst (.int 1))])) (.nm 4) .seq [.call "all_from" [.var 0, .var 1, .var 2]] [] [4]),
  .ret (.ite (.cmp .NotEq (.var 3) (.lst [])) (.blt "min" [.var 3]) (.cst .non))], false⟩
def d_is_out : Def := ⟨3, 3, [
  .ret (.cmp .NotEq (.call "all_from" [.var 0, .var 1, .var 2]) (.lst []))], false⟩
def d_found_hours : Def := ⟨3, 2, [
  .ret (.lc (.var 2) (.nm 2) .rng1 [.call "period_of" [.var 0]] [.call "is_out" [.var 0, .var 1, .var 2]] [2])], false⟩
def d_check_two : Def := ⟨2, 2, [
  .expr (.call "check_channel" [.var 0]),
  .expr (.call "check_draught" [.var 1])], false⟩
def d_hours_out : Def := ⟨2, 2, [
  .expr (.call "check_two" [.var 0, .var 1]),
  .ret (.blt "tuple" [.call "found_hours" [.var 0, .var 1]])], false⟩
def d_longest_delay : Def := ⟨5, 2, [
  .expr (.call "check_two" [.var 0, .var 1]),
  .asg 2 (.call "found_hours" [.var 0, .var 1]),
  .ite (.cmp .Eq (.var 2) (.lst [])) [
    .ret (.cst .non)] [],
  .asg 3 (.bin .Add (.var 2) (.lst [.bin .Add (.idx (.var 2) (.cst (.int 0))) (.call "period_of" [.var 0])])),
  .ret (.blt "max" [.lc (.bin .Sub (.bin .Sub (.idx (.var 3) (.bin .Add (.var 4) (.cst (.int 1)))) (.idx (.var 3) (.var 4))) (.cst (.int 1))) (.nm 4) .rng1 [.blt "len" [.var 2]] [] [4]])], false⟩
def d_shortest : Def := ⟨5, 2, [
  .expr (.call "check_two" [.var 0, .var 1]),
  .asg 2 (.newl []),
  .for_ (.nm 3) .seq [.call "found_hours" [.var 0, .var 1]] [
    .expr (.ext (.var 2) (.lc (.tup [.bin .Sub (.idx (.var 4) (.neg (.cst (.int 1)))) (.idx (.var 4) (.cst (.int 0))), .var 4]) (.nm 4) .seq [.call "all_from" [.var 0, .var 1, .var 3]] [] [4]))],
  .ret (.ite (.cmp .NotEq (.var 2) (.lst [])) (.idx (.blt "min" [.var 2]) (.cst (.int 1))) (.cst .non))], false⟩
def d_greatest_draught : Def := ⟨2, 1, [
  .expr (.call "check_channel" [.var 0]),
  .ret (.blt "max" [.lc (.var 1) (.nm 1) .rng1 [.cst (.int 7)] [.cmp .NotEq (.call "found_hours" [.var 0, .var 1]) (.lst [])] [1]])], false⟩
def d_sure_draught : Def := ⟨2, 1, [
  .expr (.call "check_channel" [.var 0]),
  .ret (.blt "max" [.lc (.var 1) (.nm 1) .rng1 [.cst (.int 7)] [.cmp .Eq (.blt "len" [.call "found_hours" [.var 0, .var 1]]) (.call "period_of" [.var 0])] [1]])], false⟩
def d_is_needless : Def := ⟨5, 2, [
  .asg 2 (.bin .Mult (.tup [.cst (.int 6)]) (.blt "len" [.idx (.idx (.var 0) (.cst (.int 0))) (.var 1)])),
  .asg 3 (.tup [.bin .Add (.bin .Add (.slc (.idx (.var 0) (.cst (.int 0))) [] [.var 1]) (.tup [.var 2])) (.slc (.idx (.var 0) (.cst (.int 0))) [.bin .Add (.var 1) (.cst (.int 1))] []), .idx (.var 0) (.cst (.int 1)), .idx (.var 0) (.cst (.int 2))]),
  .ret (.blt "all" [.lc (.cmp .Eq (.call "found_hours" [.var 0, .var 4]) (.call "found_hours" [.var 3, .var 4])) (.nm 4) .rng1 [.cst (.int 7)] [] [4]])], false⟩
def d_needless_bars : Def := ⟨2, 1, [
  .expr (.call "check_channel" [.var 0]),
  .ret (.blt "tuple" [.lc (.var 1) (.nm 1) .rng1 [.blt "len" [.idx (.var 0) (.cst (.int 0))]] [.call "is_needless" [.var 0, .var 1]] [1]])], false⟩
def d_home_after : Def := ⟨10, 4, [
  .asg 4 (.call "soonest_from" [.var 0, .var 1, .var 2]),
  .ite (.cmp .Is (.var 4) (.cst .non)) [
    .ret (.cst .non)] [],
  .unp [5, 6] (.tup [(.bin .Add (.var 4) (.var 3)), (.call "back_of" [.var 0])]),
  .asg 7 (.lc (.call "soonest_from" [.var 6, .var 1, .var 8]) (.nm 8) .rng2 [.var 5, .bin .Add (.var 5) (.call "period_of" [.var 0])] [] [8]),
  .asg 7 (.lc (.var 9) (.nm 9) .seq [.var 7] [.cmp .IsNot (.var 9) (.cst .non)] [9]),
  .ret (.ite (.cmp .NotEq (.var 7) (.lst [])) (.blt "min" [.var 7]) (.cst .non))], false⟩
def d_back_again : Def := ⟨4, 4, [
  .expr (.call "check_three" [.var 0, .var 1, .var 2]),
  .ite (.not (.call "is_between" [.var 3, .cst (.int 0), .cst (.int 99)])) [
    .raise "InvalidStay"] [],
  .ret (.call "home_after" [.var 0, .var 1, .var 2, .var 3])], false⟩
def d_longest_stay : Def := ⟨6, 4, [
  .expr (.call "check_three" [.var 0, .var 1, .var 2]),
  .expr (.call "check_hour" [.var 3]),
  .ite (.cmp .Is (.call "home_after" [.var 0, .var 1, .var 2, .cst (.int 0)]) (.cst .non)) [
    .ret (.cst .non)] [],
  .asg 4 (.lc (.var 5) (.nm 5) .rng1 [.cst (.int 100)] [.cmp .LtE (.call "home_after" [.var 0, .var 1, .var 2, .var 5]) (.var 3)] [5]),
  .ret (.ite (.cmp .NotEq (.var 4) (.lst [])) (.idx (.var 4) (.neg (.cst (.int 1)))) (.cst .non))], false⟩
def d_check_both : Def := ⟨2, 2, [
  .expr (.call "check_channel" [.var 0]),
  .expr (.call "check_channel" [.var 1])], false⟩
def d_found_partings : Def := ⟨8, 2, [
  .par 2 3 (.call "period_of" [.var 0]) (.call "period_of" [.var 1]),
  .asg 4 (.newl []),
  .for_ (.nm 5) .rng1 [.cst (.int 7)] [
    .for_ (.nm 6) .rng1 [.bin .FloorDiv (.bin .Mult (.var 2) (.var 3)) (.call "divisor" [.var 2, .var 3])] [
      .asg 7 (.call "is_out" [.var 0, .var 5, .var 6]),
      .ite (.cmp .NotEq (.var 7) (.call "is_out" [.var 1, .var 5, .var 6])) [
        .expr (.app (.var 4) (.tup [.var 5, .var 6, .var 7]))] []]],
  .ret (.var 4)], false⟩
def d_are_alike : Def := ⟨2, 2, [
  .expr (.call "check_both" [.var 0, .var 1]),
  .ret (.cmp .Eq (.call "found_partings" [.var 0, .var 1]) (.lst []))], false⟩
def d_first_parting : Def := ⟨3, 2, [
  .expr (.call "check_both" [.var 0, .var 1]),
  .asg 2 (.call "found_partings" [.var 0, .var 1]),
  .ret (.ite (.cmp .NotEq (.var 2) (.lst [])) (.slc (.idx (.var 2) (.cst (.int 0))) [] [.cst (.int 2)]) (.cst .non))], false⟩
def d_is_never_worse : Def := ⟨3, 2, [
  .expr (.call "check_both" [.var 0, .var 1]),
  .ret (.blt "all" [.lc (.idx (.var 2) (.cst (.int 2))) (.nm 2) .seq [.call "found_partings" [.var 0, .var 1]] [] [2]])], false⟩
def d_deeper : Def := ⟨6, 2, [
  .asg 2 (.lc (.blt "tuple" [.lc (.blt "min" [.cst (.int 6), .bin .Add (.var 3) (.var 5)]) (.nm 3) .seq [.var 4] [] [3]]) (.tp [4, 5]) .zip2 [.idx (.var 0) (.cst (.int 0)), .var 1] [] [4, 5]),
  .ret (.tup [.blt "tuple" [.var 2], .idx (.var 0) (.cst (.int 1)), .idx (.var 0) (.cst (.int 2))])], false⟩
def d_dug : Def := ⟨2, 2, [
  .expr (.call "check_channel" [.var 0]),
  .ite (.not (.call "are_between" [.var 1, .blt "len" [.idx (.var 0) (.cst (.int 0))], .cst (.int 0), .cst (.int 6)])) [
    .raise "InvalidDigging"] [],
  .ret (.call "deeper" [.var 0, .var 1])], false⟩
def d_is_enough : Def := ⟨5, 3, [
  .asg 3 (.lc (.call "is_out" [.var 0, .var 1, .var 4]) (.nm 4) .rng1 [.call "period_of" [.var 0]] [] [4]),
  .ret (.ite (.cmp .Eq (.var 2) (.cst (.str (nameOf "once")))) (.blt "any" [.var 3]) (.blt "all" [.var 3]))], false⟩
def d_least_digging : Def := ⟨8, 3, [
  .expr (.call "check_channel" [.var 0]),
  .expr (.call "check_draught" [.var 1]),
  .ite (.or [.not (.isi (.var 2) ["str"]), .cmp .NotIn (.var 2) (.tup [.cst (.str (nameOf "once")), .cst (.str (nameOf "always"))])]) [
    .raise "InvalidAim"] [],
  .asg 3 (.lst [.tup []]),
  .for_ (.nm 4) .seq [.idx (.var 0) (.cst (.int 0))] [
    .asg 3 (.lc2 (.bin .Add (.var 5) (.tup [.var 6])) (.nm 5) .seq [.var 3] [] (.nm 6) .rng1 [.cst (.int 7)] [] [5, 6] [6])],
  .for_ (.tp [7, 5]) .seq [.blt "sorted" [.lc (.tup [.blt "sum" [.var 5], .var 5]) (.nm 5) .seq [.var 3] [] [5]]] [
    .ite (.call "is_enough" [.call "deeper" [.var 0, .var 5], .var 1, .var 2]) [
      .ret (.var 5)] []],
  .ret (.cst .non)], false⟩
def d_all_until : Def := ⟨5, 3, [
  .asg 3 (.newl []),
  .for_ (.nm 4) .rng1 [.bin .Add (.var 2) (.cst (.int 1))] [
    .expr (.ext (.var 3) (.call "all_from" [.var 0, .var 1, .var 4]))],
  .ret (.var 3)], false⟩
def d_pair_of_passages : Def := ⟨10, 5, [
  .expr (.call "check_channel" [.var 0]),
  .expr (.call "check_draught" [.var 1]),
  .expr (.call "check_draught" [.var 2]),
  .ite (.not (.call "is_between" [.var 3, .cst (.int 0), .cst (.int 9)])) [
    .raise "InvalidGap"] [],
  .ite (.not (.call "is_between" [.var 4, .cst (.int 0), .cst (.int 24)])) [
    .raise "InvalidEnd"] [],
  .asg 5 (.call "all_until" [.var 0, .var 2, .var 4]),
  .for_ (.nm 6) .seq [.call "all_until" [.var 0, .var 1, .var 4]] [
    .for_ (.nm 7) .seq [.var 5] [
      .ite (.cmp .GtE (.blt "min" [.lc (.blt "abs" [.bin .Sub (.var 8) (.var 9)]) (.tp [8, 9]) .zip2 [.var 6, .var 7] [] [8, 9]]) (.var 3)) [
        .ret (.tup [.var 6, .var 7])] []]],
  .ret (.cst .non)], false⟩
def d_check_seen : Def := ⟨3, 1, [
  .ite (.or [.not (.isi (.var 0) ["tuple"]), .cmp .Gt (.blt "len" [.var 0]) (.cst (.int 12))]) [
    .raise "InvalidSeen"] [],
  .for_ (.nm 1) .seq [.var 0] [
    .ite (.or [.not (.isi (.var 1) ["tuple"]), .cmp .NotEq (.blt "len" [.var 1]) (.cst (.int 2)), .not (.call "is_between" [.idx (.var 1) (.cst (.int 0)), .cst (.int 0), .cst (.int 999)])]) [
      .raise "InvalidSeen"] [],
    .ite (.not (.isi (.idx (.var 1) (.cst (.int 1))) ["bool"])) [
      .raise "InvalidSeen"] []],
  .ite (.not (.blt "all" [.lc (.cmp .Lt (.idx (.idx (.var 0) (.var 2)) (.cst (.int 0))) (.idx (.idx (.var 0) (.bin .Add (.var 2) (.cst (.int 1)))) (.cst (.int 0)))) (.nm 2) .rng1 [.bin .Sub (.blt "len" [.var 0]) (.cst (.int 1))] [] [2]])) [
    .raise "InvalidSeen"] []], false⟩
def d_does_agree : Def := ⟨5, 3, [
  .ret (.blt "all" [.lc (.cmp .Eq (.call "is_out" [.var 0, .var 1, .var 3]) (.var 4)) (.tp [3, 4]) .seq [.var 2] [] [3, 4]])], false⟩
def d_draughts_for : Def := ⟨3, 2, [
  .expr (.call "check_channel" [.var 0]),
  .expr (.call "check_seen" [.var 1]),
  .ret (.blt "tuple" [.lc (.var 2) (.nm 2) .rng1 [.cst (.int 7)] [.call "does_agree" [.var 0, .var 2, .var 1]] [2]])], false⟩
def d_hours_for : Def := ⟨5, 3, [
  .expr (.call "check_channel" [.var 0]),
  .expr (.call "check_draught" [.var 1]),
  .expr (.call "check_seen" [.var 2]),
  .asg 3 (.newl []),
  .for_ (.nm 4) .rng1 [.call "period_of" [.var 0]] [
    .ite (.call "does_agree" [.call "shifted" [.var 0, .var 4], .var 1, .var 2]) [
      .expr (.app (.var 3) (.var 4))] []],
  .ret (.blt "tuple" [.var 3])], false⟩
def d_law_town : Def := ⟨1, 1, [
  .ret (.catc (.lst [.cst (.int 0)]) (.blt "list" [.var 0]))], true⟩
def d_law_draw : Def := ⟨6, 3, [
  .set (.var 1) (.cst (.int 0)) (.bin .Add (.idx (.var 1) (.cst (.int 0))) (.cst (.int 1))),
  .ite (.cmp .Eq (.var 0) (.lst [])) [
    .ret (.bin .Mod (.bin .FloorDiv (.bin .Mult (.bin .Mult (.idx (.var 1) (.cst (.int 0))) (.idx (.var 1) (.cst (.int 0)))) (.cst (.int 7))) (.cst (.int 3))) (.var 2))] [],
  .asg 3 (.bin .Mod (.idx (.var 1) (.cst (.int 0))) (.blt "len" [.var 0])),
  .asg 4 (.idx (.var 1) (.bin .Add (.cst (.int 1)) (.var 3))),
  .ite (.and [.cmp .GtE (.idx (.var 0) (.var 3)) (.bin .Pow (.cst (.int 10)) (.cst (.int 18))), .cmp .Gt (.var 4) (.cst (.int 0))]) [
    .set (.var 1) (.bin .Add (.cst (.int 1)) (.var 3)) (.bin .FloorDiv (.var 4) (.var 2)),
    .ret (.bin .Mod (.var 4) (.var 2))] [],
  .asg 5 (.bin .Mod (.bin .Add (.idx (.var 0) (.var 3)) (.bin .Mult (.cst (.int 104729)) (.idx (.var 1) (.cst (.int 0))))) (.cst (.int 4294967291))),
  .asg 5 (.bin .Mod (.bin .Pow (.var 5) (.cst (.int 5))) (.cst (.int 4294967279))),
  .ret (.bin .Mod (.bin .FloorDiv (.bin .Mod (.bin .Add (.bin .Mult (.bin .FloorDiv (.var 5) (.cst (.int 64))) (.cst (.int 69621))) (.var 5)) (.cst (.int 4294967231))) (.cst (.int 8))) (.var 2))], true⟩
def d_law_pick : Def := ⟨3, 3, [
  .ret (.idx (.var 2) (.call "_law_draw" [.var 0, .var 1, .blt "len" [.var 2]]))], true⟩
def d_law_bar : Def := ⟨8, 3, [
  .asg 3 (.bin .Add (.cst (.int 1)) (.call "_law_draw" [.var 0, .var 1, .var 2])),
  .ite (.cmp .Eq (.call "_law_draw" [.var 0, .var 1, .cst (.int 3)]) (.cst (.int 0))) [
    .ret (.blt "tuple" [.lc (.call "_law_draw" [.var 0, .var 1, .cst (.int 7)]) (.nm 4) .rng1 [.var 3] [] [4]])] [],
  .unp [5, 6] (.tup [(.call "_law_draw" [.var 0, .var 1, .cst (.int 4)]), (.bin .Add (.cst (.int 3)) (.call "_law_draw" [.var 0, .var 1, .cst (.int 4)]))]),
  .asg 7 (.call "_law_draw" [.var 0, .var 1, .var 3]),
  .ret (.blt "tuple" [.lc (.blt "max" [.var 5, .bin .Sub (.var 6) (.bin .Mult (.cst (.int 2)) (.blt "min" [.bin .Mod (.bin .Sub (.var 4) (.var 7)) (.var 3), .bin .Mod (.bin .Sub (.var 7) (.var 4)) (.var 3)]))]) (.nm 4) .rng1 [.var 3] [] [4]])], true⟩
def d_law_channel : Def := ⟨8, 4, [
  .asg 4 (.bin .Add (.cst (.int 1)) (.call "_law_draw" [.var 0, .var 1, .var 2])),
  .asg 5 (.blt "tuple" [.lc (.call "_law_bar" [.var 0, .var 1, .var 3]) (.nm 6) .rng1 [.var 4] [] [6]]),
  .asg 7 (.blt "tuple" [.lc (.bin .Add (.cst (.int 1)) (.call "_law_draw" [.var 0, .var 1, .call "_law_pick" [.var 0, .var 1, .lst [.cst (.int 2), .cst (.int 9)]]])) (.nm 6) .rng1 [.bin .Sub (.var 4) (.cst (.int 1))] [] [6]]),
  .ret (.tup [.var 5, .var 7, .blt "tuple" [.lc (.call "_law_draw" [.var 0, .var 1, .cst (.int 4)]) (.nm 6) .rng1 [.bin .Sub (.var 4) (.cst (.int 1))] [] [6]]])], true⟩
def d_law_bads : Def := ⟨2, 0, [
  .asg 0 (.tup [.cst (.int 1), .cst (.int 2)]),
  .asg 1 (.newl [.cst .non, .cst (.int 5), .tup [], .tup [.tup [.var 0], .tup []], .tup [.tup [.var 0], .tup [], .tup [], .tup []], .lst [.tup [.var 0], .tup [], .tup []], .tup [.tup [], .tup [], .tup []], .tup [.tup [.var 0], .tup [.cst (.int 1)], .tup [.cst (.int 0)]]]),
  .asg 1 (.bin .Add (.var 1) (.lst [.tup [.tup [.var 0, .var 0], .tup [], .tup []], .tup [.tup [.var 0, .var 0], .tup [.cst (.int 0)], .tup [.cst (.int 0)]], .tup [.tup [.var 0, .var 0], .tup [.cst (.int 10)], .tup [.cst (.int 0)]]])),
  .expr (.app (.var 1) (.tup [.tup [.var 0, .var 0], .tup [.cst (.int 1)], .tup [.cst (.int 4)]])),
  .asg 1 (.bin .Add (.var 1) (.lst [.tup [.tup [.var 0, .var 0], .tup [.cst (.int 1)], .tup [.neg (.cst (.int 1))]], .tup [.bin .Mult (.tup [.var 0]) (.cst (.int 4)), .bin .Mult (.tup [.cst (.int 1)]) (.cst (.int 3)), .bin .Mult (.tup [.cst (.int 0)]) (.cst (.int 3))], .tup [.tup [.tup []], .tup [], .tup []]])),
  .expr (.app (.var 1) (.tup [.tup [.bin .Mult (.tup [.cst (.int 0)]) (.cst (.int 9))], .tup [], .tup []])),
  .asg 1 (.bin .Add (.var 1) (.lst [.tup [.tup [.tup [.cst (.int 7)]], .tup [], .tup []], .tup [.tup [.tup [.neg (.cst (.int 1))]], .tup [], .tup []], .tup [.tup [.tup [.cst (.bl true)]], .tup [], .tup []], .tup [.tup [.lst [.cst (.int 1)]], .tup [], .tup []], .tup [.tup [.var 0], .lst [], .tup []]])),
  .asg 1 (.bin .Add (.var 1) (.lst [.tup [.tup [.var 0, .var 0], .tup [.cst (.int 1)], .tup [.cst .non]], .tup [.tup [.var 0, .var 0], .tup [.cst (.int 1)], .cst (.int 0)], .cst (.str (nameOf "0242")), .tup [.var 0, .tup [], .tup []]])),
  .ret (.bin .Add (.var 1) (.lst [.tup [.tup [.var 0, .var 0], .tup [.cst (.bl true)], .tup [.cst (.int 0)]]]))], false⟩
def d_law_other_rows : Def := ⟨4, 1, [
  .asg 1 (.newl []),
  .for_ (.nm 2) .seq [.tup [.cst .non, .neg (.cst (.int 1)), .cst (.int 100), .cst (.bl true), .cst (.str (nameOf "1")), .tup [.cst (.int 1)]]] [
    .expr (.app (.var 1) (.tup [.cst (.int 22), .tup [.var 0, .cst (.int 0), .cst (.int 0), .var 2, .cst .non], .cst (.str (nameOf "stay"))]))],
  .for_ (.nm 2) .seq [.tup [.cst .non, .tup [], .bin .Mult (.tup [.cst (.int 0)]) (.cst (.int 4)), .bin .Mult (.tup [.cst (.int 7)]) (.blt "len" [.idx (.var 0) (.cst (.int 0))]), .bin .Mult (.tup [.neg (.cst (.int 1))]) (.blt "len" [.idx (.var 0) (.cst (.int 0))]), .bin .Mult (.lst [.cst (.int 0)]) (.blt "len" [.idx (.var 0) (.cst (.int 0))]), .cst (.int 0)]] [
    .expr (.app (.var 1) (.tup [.cst (.int 12), .tup [.var 0, .var 2, .cst .non, .cst .non, .cst .non], .cst (.str (nameOf "digging"))]))],
  .for_ (.nm 2) .seq [.tup [.cst .non, .cst (.str (nameOf "")), .cst (.str (nameOf "Once")), .cst (.str (nameOf "never")), .cst (.int 1), .tup [.cst (.str (nameOf "once"))]]] [
    .expr (.app (.var 1) (.tup [.cst (.int 19), .tup [.var 0, .cst (.int 0), .var 2, .cst .non, .cst .non], .cst (.str (nameOf "aim"))]))],
  .for_ (.nm 2) .seq [.tup [.cst .non, .neg (.cst (.int 1)), .cst (.int 10), .cst (.bl true), .cst (.str (nameOf "1"))]] [
    .expr (.app (.var 1) (.tup [.cst (.int 24), .tup [.var 0, .cst (.int 0), .cst (.int 0), .var 2, .cst .non], .cst (.str (nameOf "gap"))]))],
  .for_ (.nm 2) .seq [.tup [.cst .non, .neg (.cst (.int 1)), .cst (.int 25), .cst (.bl true), .cst (.str (nameOf "1"))]] [
    .expr (.app (.var 1) (.tup [.cst (.int 24), .tup [.var 0, .cst (.int 0), .cst (.int 0), .cst (.int 0), .var 2], .cst (.str (nameOf "end"))]))],
  .for_ (.nm 2) .seq [.tup [.cst .non, .cst (.int 5), .lst [.tup [.cst (.int 1), .cst (.bl true)]], .tup [.tup [.cst (.int 1)]], .tup [.tup [.cst (.int 1), .cst (.int 1)]], .tup [.tup [.cst (.int 1000), .cst (.bl true)]], .tup [.tup [.neg (.cst (.int 1)), .cst (.bl true)]], .tup [.tup [.cst (.int 2), .cst (.bl true)], .tup [.cst (.int 1), .cst (.bl true)]]]] [
    .asg 1 (.bin .Add (.var 1) (.lst [.tup [.cst (.int 13), .tup [.var 0, .var 2, .cst .non, .cst .non, .cst .non], .cst (.str (nameOf "seen"))], .tup [.cst (.int 20), .tup [.var 0, .cst (.int 0), .var 2, .cst .non, .cst .non], .cst (.str (nameOf "seen"))]]))],
  .for_ (.nm 2) .seq [.tup [.tup [.tup [.cst (.int 1), .cst (.bl true)], .tup [.cst (.int 1), .cst (.bl false)]], .blt "tuple" [.lc (.tup [.var 3, .cst (.bl true)]) (.nm 3) .rng1 [.cst (.int 13)] [] [3]], .tup [.tup [.cst (.bl true), .cst (.bl true)]], .tup [.tup [.cst (.int 1), .cst .non]]]] [
    .asg 1 (.bin .Add (.var 1) (.lst [.tup [.cst (.int 13), .tup [.var 0, .var 2, .cst .non, .cst .non, .cst .non], .cst (.str (nameOf "seen"))], .tup [.cst (.int 20), .tup [.var 0, .cst (.int 0), .var 2, .cst .non, .cst .non], .cst (.str (nameOf "seen"))]]))],
  .ret (.var 1)], false⟩
def d_law_do_raise : Def := ⟨7, 2, [
  .for_ (.tp [2, 3, 4]) .seq [.var 1] [
    .ite (.cmp .NotEq (.call "_law_outcome" [.var 2, .var 3]) (.call "_law_raises" [.var 4])) [
      .ret (.cst (.bl false))] []],
  .asg 5 (.blt "len" [.idx (.var 0) (.cst (.int 0))]),
  .for_ (.nm 6) .seq [.tup [.cst .non, .cst (.int 5), .tup [], .bin .Mult (.tup [.cst (.int 0)]) (.bin .Add (.var 5) (.cst (.int 1))), .bin .Mult (.lst [.cst (.int 0)]) (.var 5), .bin .Mult (.tup [.neg (.cst (.int 1))]) (.var 5), .bin .Mult (.tup [.cst (.bl true)]) (.var 5), .bin .Mult (.tup [.cst (.int 2001)]) (.var 5), .bin .Mult (.cst (.str (nameOf "0"))) (.var 5)]] [
    .ite (.cmp .IsNot (.call "is_passage" [.var 0, .cst (.int 0), .var 6]) (.cst (.bl false))) [
      .ret (.cst (.bl false))] []],
  .ret (.cmp .Eq (.call "depth_at" [.var 0, .cst (.int 0), .cst (.int 999)]) (.idx (.idx (.idx (.var 0) (.cst (.int 0))) (.cst (.int 0))) (.bin .Mod (.cst (.int 999)) (.blt "len" [.idx (.idx (.var 0) (.cst (.int 0))) (.cst (.int 0))]))))], false⟩
def d_law_period : Def := ⟨3, 1, [
  .asg 1 (.cst (.int 1)),
  .whl 100000 (.cmp .NotEq (.lc (.var 2) (.nm 2) .seq [.idx (.var 0) (.cst (.int 0))] [.cmp .NotEq (.bin .Mod (.var 1) (.blt "len" [.var 2])) (.cst (.int 0))] [2]) (.lst [])) [
    .asg 1 (.bin .Add (.var 1) (.cst (.int 1)))],
  .ret (.var 1)], false⟩
def d_law_all : Def := ⟨12, 3, [
  .unp [3, 4, 5] (.var 0),
  .asg 6 (.ite (.cmp .GtE (.idx (.idx (.var 3) (.cst (.int 0))) (.bin .Mod (.var 2) (.blt "len" [.idx (.var 3) (.cst (.int 0))]))) (.var 1)) (.lst [.tup [.var 2]]) (.lst [])),
  .for_ (.nm 7) .rng2 [.cst (.int 1), .blt "len" [.var 3]] [
    .asg 8 (.newl []),
    .for_ (.nm 9) .seq [.var 6] [
      .for_ (.nm 10) .rng1 [.bin .Add (.idx (.var 5) (.bin .Sub (.var 7) (.cst (.int 1)))) (.cst (.int 1))] [
        .asg 11 (.bin .Add (.bin .Add (.idx (.var 9) (.bin .Sub (.blt "len" [.var 9]) (.cst (.int 1)))) (.idx (.var 4) (.bin .Sub (.var 7) (.cst (.int 1))))) (.var 10)),
        .ite (.cmp .GtE (.idx (.idx (.var 3) (.var 7)) (.bin .Mod (.var 11) (.blt "len" [.idx (.var 3) (.var 7)]))) (.var 1)) [
          .expr (.app (.var 8) (.bin .Add (.var 9) (.tup [.var 11])))] []]],
    .asg 6 (.var 8)],
  .ret (.blt "sorted" [.var 6])], false⟩
def d_law_out : Def := ⟨3, 2, [
  .ret (.lc (.var 2) (.nm 2) .rng1 [.call "_law_period" [.var 0]] [.cmp .NotEq (.call "_law_all" [.var 0, .var 1, .var 2]) (.lst [])] [2])], false⟩
def d_law_home : Def := ⟨12, 4, [
  .asg 4 (.lc (.idx (.var 5) (.bin .Sub (.blt "len" [.var 5]) (.cst (.int 1)))) (.nm 5) .seq [.call "_law_all" [.var 0, .var 1, .var 2]] [] [5]),
  .ite (.cmp .Eq (.var 4) (.lst [])) [
    .ret (.cst .non)] [],
  .unp [6, 7, 8] (.var 0),
  .par 9 10 (.tup [.rev (.var 6), .rev (.var 7), .rev (.var 8)]) (.lst []),
  .for_ (.nm 11) .rng2 [.bin .Add (.blt "min" [.var 4]) (.var 3), .bin .Add (.bin .Add (.blt "min" [.var 4]) (.var 3)) (.bin .Mult (.cst (.int 2)) (.call "_law_period" [.var 0]))] [
    .asg 10 (.bin .Add (.var 10) (.lc (.idx (.var 5) (.bin .Sub (.blt "len" [.var 5]) (.cst (.int 1)))) (.nm 5) .seq [.call "_law_all" [.var 9, .var 1, .var 11]] [] [5]))],
  .ret (.ite (.cmp .NotEq (.var 10) (.lst [])) (.blt "min" [.var 10]) (.cst .non))], false⟩
def d_law_other : Def := ⟨13, 3, [
  .unp [3, 4, 5] (.var 2),
  .par 6 7 (.call "_law_draw" [.var 0, .var 1, .cst (.int 5)]) (.call "_law_draw" [.var 0, .var 1, .blt "len" [.var 3]]),
  .ite (.cmp .Eq (.var 6) (.cst (.int 0))) [
    .asg 8 (.call "_law_draw" [.var 0, .var 1, .blt "len" [.idx (.var 3) (.var 7)]]),
    .asg 9 (.bin .Add (.bin .Add (.slc (.idx (.var 3) (.var 7)) [] [.var 8]) (.tup [.call "_law_draw" [.var 0, .var 1, .cst (.int 7)]])) (.slc (.idx (.var 3) (.var 7)) [.bin .Add (.var 8) (.cst (.int 1))] [])),
    .ret (.tup [.bin .Add (.bin .Add (.slc (.var 3) [] [.var 7]) (.tup [.var 9])) (.slc (.var 3) [.bin .Add (.var 7) (.cst (.int 1))] []), .var 4, .var 5])] [],
  .ite (.and [.cmp .Eq (.var 6) (.cst (.int 1)), .cmp .LtE (.blt "len" [.idx (.var 3) (.var 7)]) (.cst (.int 4))]) [
    .ret (.tup [.bin .Add (.bin .Add (.slc (.var 3) [] [.var 7]) (.tup [.bin .Mult (.idx (.var 3) (.var 7)) (.cst (.int 2))])) (.slc (.var 3) [.bin .Add (.var 7) (.cst (.int 1))] []), .var 4, .var 5])] [],
  .ite (.cmp .Eq (.var 6) (.cst (.int 2))) [
    .ret (.tup [.var 3, .var 4, .blt "tuple" [.lc (.blt "max" [.cst (.int 0), .bin .Sub (.var 10) (.cst (.int 1))]) (.nm 10) .seq [.var 5] [] [10]]])] [],
  .ite (.cmp .Eq (.var 6) (.cst (.int 3))) [
    .asg 11 (.lrng [.blt "len" [.var 4]]),
    .ret (.tup [.var 3, .blt "tuple" [.lc (.blt "min" [.cst (.int 9), .bin .Add (.idx (.var 4) (.var 12)) (.blt "len" [.idx (.var 3) (.bin .Add (.var 12) (.cst (.int 1)))])]) (.nm 12) .seq [.var 11] [] [12]], .var 5])] [],
  .ret (.call "_law_channel" [.var 0, .var 1, .cst (.int 2), .cst (.int 4)])], true⟩
def d_law_dug : Def := ⟨6, 2, [
  .asg 2 (.newl []),
  .for_ (.tp [3, 4]) .zip2 [.idx (.var 0) (.cst (.int 0)), .var 1] [
    .expr (.app (.var 2) (.blt "tuple" [.lc (.blt "min" [.cst (.int 6), .bin .Add (.var 5) (.var 4)]) (.nm 5) .seq [.var 3] [] [5]]))],
  .ret (.tup [.blt "tuple" [.var 2], .idx (.var 0) (.cst (.int 1)), .idx (.var 0) (.cst (.int 2))])], false⟩
def d_law_serves : Def := ⟨4, 3, [
  .asg 3 (.call "_law_out" [.var 0, .var 1]),
  .ret (.ite (.cmp .Eq (.var 2) (.cst (.str (nameOf "once")))) (.cmp .NotEq (.var 3) (.lst [])) (.cmp .Eq (.blt "len" [.var 3]) (.call "_law_period" [.var 0])))], false⟩
def d_law_clashes : Def := ⟨6, 2, [
  .for_ (.tp [2, 3, 4]) .seq [.var 0] [
    .ite (.cmp .NotEq (.lc (.var 5) (.nm 5) .rng1 [.blt "len" [.var 1]] [.cmp .Eq (.idx (.var 4) (.var 5)) (.idx (.var 1) (.var 5))] [5]) (.lst [])) [
      .ret (.cst (.bl true))] []],
  .ret (.cst (.bl false))], false⟩
def d_format_channel : Def := ⟨1, 1, [
  .expr (.call "check_channel" [.var 0]),
  .ret (.call "channel_text" [.var 0])], false⟩
def d_wall : Def := ⟨1, 1, [
  .whl 100000 (.cst (.bl true)) [
    .pass]], false⟩
def d_law_flat : Def := ⟨2, 1, [
  .asg 1 (.tup [.tup [.tup [.var 0], .tup [.var 0]], .tup [.cst (.int 1)], .tup [.cst (.int 0)]]),
  .ret (.and [.cmp .Eq (.call "sure_draught" [.var 1]) (.var 0), .cmp .Eq (.call "greatest_draught" [.var 1]) (.var 0), .cmp .Eq (.call "needless_bars" [.var 1]) (.tup [.cst (.int 0), .cst (.int 1)])])], false⟩
def d_law_results : Def := ⟨4, 3, [
  .asg 3 (.lst [.call "period" [.var 0], .call "turned_round" [.var 0], .call "passages" [.var 0, .var 1, .var 2], .call "soonest" [.var 0, .var 1, .var 2]]),
  .asg 3 (.bin .Add (.var 3) (.lst [.call "hours_out" [.var 0, .var 1], .call "longest_delay" [.var 0, .var 1], .call "shortest" [.var 0, .var 1]])),
  .asg 3 (.bin .Add (.var 3) (.lst [.call "greatest_draught" [.var 0], .call "sure_draught" [.var 0], .call "needless_bars" [.var 0]])),
  .asg 3 (.bin .Add (.var 3) (.lst [.call "back_again" [.var 0, .var 1, .var 2, .cst (.int 3)], .call "dug" [.var 0, .bin .Mult (.tup [.cst (.int 1)]) (.blt "len" [.idx (.var 0) (.cst (.int 0))])], .call "format_channel" [.var 0]])),
  .ret (.bin .Add (.var 3) (.lst [.call "draughts_for" [.var 0, .tup [.tup [.var 2, .cst (.bl true)]]], .call "hours_for" [.var 0, .var 1, .tup []], .call "later" [.var 0, .var 2]]))], false⟩
end TW
/-! TwLaws: the laws own defs, as gen/laws.py printed them. -/
namespace TW
def d_k01 : Def := ⟨10, 1, [
  .asg 1 (.call "_law_town" [.var 0]),
  .unp [2, 3] (.tup [(.call "_law_channel" [.var 0, .var 1, .cst (.int 3), .cst (.int 8)]), (.tup [.cst (.int 3), .cst (.int 0)])]),
  .asg 4 (.lst [.var 2, .tup [.tup [.var 3], .tup [], .tup []], .tup [.bin .Mult (.tup [.bin .Mult (.tup [.cst (.int 6)]) (.cst (.int 8))]) (.cst (.int 3)), .tup [.cst (.int 9), .cst (.int 9)], .tup [.cst (.int 3), .cst (.int 3)]], .tup [.tup [.var 3, .var 3], .tup [.cst (.int 1)], .tup [.cst (.int 0)]]]),
  .ite (.cmp .NotEq (.lc (.var 5) (.nm 5) .seq [.var 4] [.cmp .IsNot (.call "is_channel" [.var 5]) (.cst (.bl true))] [5]) (.lst [])) [
    .ret (.cst (.bl false))] [],
  .ite (.cmp .NotEq (.lc (.var 6) (.nm 6) .seq [.call "_law_bads" []] [.cmp .IsNot (.call "is_channel" [.var 6]) (.cst (.bl false))] [6]) (.lst [])) [
    .ret (.cst (.bl false))] [],
  .asg 7 (.newl []),
  .for_ (.nm 6) .seq [.call "_law_bads" []] [
    .asg 7 (.bin .Add (.var 7) (.lc (.tup [.var 8, .tup [.var 6, .cst .non, .cst .non, .cst .non, .cst .non], .cst (.str (nameOf "channel"))]) (.nm 8) .rng1 [.cst (.int 25)] [] [8])),
    .asg 7 (.bin .Add (.var 7) (.lc (.tup [.var 8, .tup [.var 2, .var 6, .cst .non, .cst .non, .cst .non], .cst (.str (nameOf "channel"))]) (.nm 8) .seq [.tup [.cst (.int 9), .cst (.int 10), .cst (.int 11)]] [] [8]))],
  .for_ (.nm 6) .seq [.tup [.cst .non, .neg (.cst (.int 1)), .cst (.int 7), .cst (.bl true), .cst (.str (nameOf "1")), .tup [.cst (.int 1)]]] [
    .asg 9 (.tup [.cst (.int 6), .cst (.int 7), .cst (.int 8), .cst (.int 15), .cst (.int 16), .cst (.int 17), .cst (.int 18), .cst (.int 19), .cst (.int 20), .cst (.int 22), .cst (.int 23), .cst (.int 24)]),
    .asg 7 (.bin .Add (.var 7) (.lc (.tup [.var 8, .tup [.var 2, .var 6, .cst .non, .cst .non, .cst .non], .cst (.str (nameOf "draught"))]) (.nm 8) .seq [.var 9] [] [8])),
    .asg 7 (.bin .Add (.var 7) (.lst [.tup [.cst (.int 21), .tup [.var 2, .cst (.int 0), .var 6, .cst .non, .cst .non], .cst (.str (nameOf "draught"))], .tup [.cst (.int 24), .tup [.var 2, .cst (.int 0), .var 6, .cst .non, .cst .non], .cst (.str (nameOf "draught"))]]))],
  .for_ (.nm 6) .seq [.tup [.cst .non, .neg (.cst (.int 1)), .cst (.int 1000), .cst (.bl true), .cst (.str (nameOf "1")), .tup [.cst (.int 1)]]] [
    .asg 7 (.bin .Add (.var 7) (.lc (.tup [.var 8, .tup [.var 2, .cst (.int 0), .var 6, .cst .non, .cst .non], .cst (.str (nameOf "hour"))]) (.nm 8) .seq [.tup [.cst (.int 14), .cst (.int 16), .cst (.int 17), .cst (.int 18), .cst (.int 22), .cst (.int 23)]] [] [8])),
    .asg 7 (.bin .Add (.var 7) (.lst [.tup [.cst (.int 5), .tup [.var 2, .var 6, .cst .non, .cst .non, .cst .non], .cst (.str (nameOf "hour"))], .tup [.cst (.int 21), .tup [.var 2, .cst (.int 0), .cst (.int 0), .var 6, .cst .non], .cst (.str (nameOf "hour"))]])),
    .expr (.app (.var 7) (.tup [.cst (.int 23), .tup [.var 2, .cst (.int 0), .cst (.int 0), .var 6, .cst .non], .cst (.str (nameOf "hour"))]))],
  .for_ (.nm 6) .seq [.tup [.cst .non, .neg (.cst (.int 1)), .blt "len" [.idx (.var 2) (.cst (.int 0))], .cst (.bl true), .cst (.str (nameOf "1")), .tup [.cst (.int 0)]]] [
    .asg 7 (.bin .Add (.var 7) (.lst [.tup [.cst (.int 14), .tup [.var 2, .var 6, .cst .non, .cst .non, .cst .non], .cst (.str (nameOf "bar"))], .tup [.cst (.int 21), .tup [.var 2, .var 6, .cst .non, .cst .non, .cst .non], .cst (.str (nameOf "bar"))]]))],
  .ret (.call "_law_do_raise" [.var 2, .bin .Add (.var 7) (.call "_law_other_rows" [.var 2])])], false⟩
def d_k02 : Def := ⟨14, 1, [
  .asg 1 (.call "_law_town" [.var 0]),
  .asg 2 (.call "_law_channel" [.var 0, .var 1, .cst (.int 3), .cst (.int 8)]),
  .unp [3, 4, 5] (.var 2),
  .asg 6 (.call "_law_period" [.var 2]),
  .ite (.or [.cmp .NotEq (.call "period" [.var 2]) (.var 6), .cmp .NotEq (.call "turned_round" [.var 2]) (.tup [.rev (.var 3), .rev (.var 4), .rev (.var 5)])]) [
    .ret (.cst (.bl false))] [],
  .ite (.or [.cmp .NotEq (.call "turned_round" [.call "turned_round" [.var 2]]) (.var 2), .cmp .NotEq (.call "period" [.call "turned_round" [.var 2]]) (.var 6)]) [
    .ret (.cst (.bl false))] [],
  .asg 7 (.call "_law_pick" [.var 0, .var 1, .lst [.cst (.int 0), .cst (.int 1), .call "_law_draw" [.var 0, .var 1, .cst (.int 1000)], .var 6]]),
  .asg 8 (.call "later" [.var 2, .var 7]),
  .ite (.or [.cmp .IsNot (.call "is_channel" [.var 8]) (.cst (.bl true)), .cmp .NotEq (.slc (.var 8) [.cst (.int 1)] []) (.slc (.var 2) [.cst (.int 1)] []), .cmp .NotEq (.call "later" [.var 2, .var 6]) (.var 2)]) [
    .ret (.cst (.bl false))] [],
  .for_ (.nm 9) .rng1 [.cst (.int 6)] [
    .par 10 11 (.call "_law_draw" [.var 0, .var 1, .blt "len" [.var 3]]) (.call "_law_draw" [.var 0, .var 1, .cst (.int 900)]),
    .asg 12 (.call "_law_draw" [.var 0, .var 1, .cst (.int 7)]),
    .asg 13 (.idx (.idx (.var 3) (.var 10)) (.bin .Mod (.var 11) (.blt "len" [.idx (.var 3) (.var 10)]))),
    .ite (.or [.cmp .NotEq (.call "depth_at" [.var 2, .var 10, .var 11]) (.var 13), .cmp .NotEq (.call "can_pass" [.var 2, .var 10, .var 12, .var 11]) (.cmp .GtE (.var 13) (.var 12))]) [
      .ret (.cst (.bl false))] [],
    .ite (.and [.cmp .LtE (.bin .Add (.var 11) (.var 7)) (.cst (.int 999)), .cmp .NotEq (.call "depth_at" [.var 8, .var 10, .bin .Add (.var 11) (.var 7)]) (.var 13)]) [
      .ret (.cst (.bl false))] [],
    .ite (.and [.cmp .LtE (.bin .Add (.var 11) (.var 6)) (.cst (.int 999)), .cmp .NotEq (.call "depth_at" [.var 2, .var 10, .bin .Add (.var 11) (.var 6)]) (.var 13)]) [
      .ret (.cst (.bl false))] [],
    .ite (.cmp .NotEq (.call "depth_at" [.call "turned_round" [.var 2], .bin .Sub (.bin .Sub (.blt "len" [.var 3]) (.cst (.int 1))) (.var 10), .var 11]) (.var 13)) [
      .ret (.cst (.bl false))] []],
  .ret (.and [.cmp .Eq (.call "later" [.call "later" [.var 2, .cst (.int 3)], .cst (.int 4)]) (.call "later" [.var 2, .cst (.int 7)]), .cmp .Eq (.call "later" [.var 2, .cst (.int 0)]) (.var 2)])], false⟩
def d_k10 : Def := ⟨22, 1, [
  .asg 1 (.call "_law_town" [.var 0]),
  .asg 2 (.call "_law_channel" [.var 0, .var 1, .cst (.int 3), .cst (.int 8)]),
  .unp [3, 4, 5] (.var 2),
  .asg 6 (.call "_law_period" [.var 2]),
  .for_ (.nm 7) .rng1 [.cst (.int 4)] [
    .unp [8, 9] (.tup [(.call "_law_draw" [.var 0, .var 1, .cst (.int 5)]), (.call "_law_draw" [.var 0, .var 1, .cst (.int 400)])]),
    .asg 10 (.call "_law_all" [.var 2, .var 8, .var 9]),
    .ite (.cmp .NotEq (.call "passages" [.var 2, .var 8, .var 9]) (.blt "tuple" [.var 10])) [
      .ret (.cst (.bl false))] [],
    .asg 11 (.lc (.idx (.var 12) (.bin .Sub (.blt "len" [.var 12]) (.cst (.int 1)))) (.nm 12) .seq [.var 10] [] [12]),
    .ite (.cmp .NotEq (.call "soonest" [.var 2, .var 8, .var 9]) (.ite (.cmp .NotEq (.var 10) (.lst [])) (.blt "min" [.var 11]) (.cst .non))) [
      .ret (.cst (.bl false))] [],
    .asg 13 (.lc (.bin .Sub (.bin .Sub (.idx (.var 12) (.bin .Sub (.blt "len" [.var 12]) (.cst (.int 1)))) (.idx (.var 12) (.cst (.int 0)))) (.blt "sum" [.var 4])) (.nm 12) .seq [.var 10] [] [12]),
    .ite (.cmp .NotEq (.call "fewest_waits" [.var 2, .var 8, .var 9]) (.ite (.cmp .NotEq (.var 10) (.lst [])) (.blt "min" [.var 13]) (.cst .non))) [
      .ret (.cst (.bl false))] [],
    .asg 14 (.lc (.blt "tuple" [.lc (.bin .Add (.var 15) (.var 6)) (.nm 15) .seq [.var 12] [] [15]]) (.nm 12) .seq [.var 10] [] [12]),
    .ite (.cmp .NotEq (.call "passages" [.var 2, .var 8, .bin .Add (.var 9) (.var 6)]) (.blt "tuple" [.var 14])) [
      .ret (.cst (.bl false))] [],
    .asg 16 (.blt "tuple" [.lc (.bin .Add (.var 9) (.blt "sum" [.slc (.var 4) [] [.var 17]])) (.nm 17) .rng1 [.blt "len" [.var 3]] [] [17]]),
    .asg 12 (.call "_law_pick" [.var 0, .var 1, .ite (.cmp .NotEq (.var 10) (.lst [])) (.var 10) (.lst [.var 16])]),
    .ite (.cmp .NotEq (.call "is_passage" [.var 2, .var 8, .var 12]) (.cmp .In (.var 12) (.var 10))) [
      .ret (.cst (.bl false))] [],
    .asg 18 (.call "_law_draw" [.var 0, .var 1, .blt "len" [.var 12]]),
    .asg 19 (.bin .Add (.bin .Add (.slc (.var 12) [] [.var 18]) (.tup [.bin .Add (.idx (.var 12) (.var 18)) (.call "_law_pick" [.var 0, .var 1, .lst [.cst (.int 1), .cst (.int 2), .neg (.cst (.int 1)), .cst (.int 4)]])])) (.slc (.var 12) [.bin .Add (.var 18) (.cst (.int 1))] [])),
    .asg 20 (.and [.cmp .GtE (.blt "min" [.var 19]) (.cst (.int 0)), .cmp .In (.var 19) (.call "_law_all" [.var 2, .var 8, .blt "max" [.cst (.int 0), .idx (.var 19) (.cst (.int 0))]])]),
    .ite (.cmp .NotEq (.call "is_passage" [.var 2, .var 8, .var 19]) (.var 20)) [
      .ret (.cst (.bl false))] [],
    .asg 21 (.blt "max" [.cst (.int 0), .bin .Sub (.var 8) (.cst (.int 1))]),
    .ite (.cmp .NotEq (.lc (.var 15) (.nm 15) .seq [.var 10] [.cmp .IsNot (.call "is_passage" [.var 2, .var 21, .var 15]) (.cst (.bl true))] [15]) (.lst [])) [
      .ret (.cst (.bl false))] []],
  .ret (.cmp .Is (.call "is_passage" [.var 2, .cst (.int 0), .cst .non]) (.cst (.bl false)))], false⟩
def d_k11 : Def := ⟨13, 1, [
  .asg 1 (.call "_law_town" [.var 0]),
  .asg 2 (.call "_law_channel" [.var 0, .var 1, .cst (.int 3), .cst (.int 6)]),
  .unp [3, 4] (.tup [(.call "_law_period" [.var 2]), (.newl [])]),
  .for_ (.nm 5) .rng1 [.cst (.int 7)] [
    .asg 6 (.call "_law_out" [.var 2, .var 5]),
    .expr (.app (.var 4) (.var 6)),
    .ite (.cmp .NotEq (.call "hours_out" [.var 2, .var 5]) (.blt "tuple" [.var 6])) [
      .ret (.cst (.bl false))] [],
    .ite (.and [.cmp .Gt (.var 5) (.cst (.int 0)), .cmp .NotEq (.lc (.var 7) (.nm 7) .seq [.var 6] [.cmp .NotIn (.var 7) (.idx (.var 4) (.bin .Sub (.var 5) (.cst (.int 1))))] [7]) (.lst [])]) [
      .ret (.cst (.bl false))] []],
  .asg 5 (.call "_law_draw" [.var 0, .var 1, .cst (.int 7)]),
  .asg 6 (.idx (.var 4) (.var 5)),
  .asg 8 (.newl []),
  .for_ (.nm 7) .rng1 [.var 3] [
    .asg 9 (.cst (.int 0)),
    .whl 100000 (.and [.cmp .NotEq (.var 6) (.lst []), .cmp .NotIn (.bin .Mod (.bin .Add (.var 7) (.var 9)) (.var 3)) (.var 6)]) [
      .asg 9 (.bin .Add (.var 9) (.cst (.int 1)))],
    .expr (.app (.var 8) (.var 9))],
  .ite (.cmp .NotEq (.call "longest_delay" [.var 2, .var 5]) (.ite (.cmp .NotEq (.var 6) (.lst [])) (.blt "max" [.var 8]) (.cst .non))) [
    .ret (.cst (.bl false))] [],
  .asg 10 (.lst []),
  .for_ (.nm 7) .seq [.var 6] [
    .asg 10 (.bin .Add (.var 10) (.lc (.tup [.bin .Sub (.idx (.var 11) (.bin .Sub (.blt "len" [.var 11]) (.cst (.int 1)))) (.idx (.var 11) (.cst (.int 0))), .var 11]) (.nm 11) .seq [.call "_law_all" [.var 2, .var 5, .var 7]] [] [11]))],
  .ite (.cmp .NotEq (.call "shortest" [.var 2, .var 5]) (.ite (.cmp .NotEq (.var 10) (.lst [])) (.idx (.blt "min" [.var 10]) (.cst (.int 1))) (.cst .non))) [
    .ret (.cst (.bl false))] [],
  .ite (.cmp .NotEq (.call "greatest_draught" [.var 2]) (.blt "max" [.lc (.var 12) (.nm 12) .rng1 [.cst (.int 7)] [.cmp .NotEq (.idx (.var 4) (.var 12)) (.lst [])] [12]])) [
    .ret (.cst (.bl false))] [],
  .ite (.cmp .NotEq (.call "sure_draught" [.var 2]) (.blt "max" [.lc (.var 12) (.nm 12) .rng1 [.cst (.int 7)] [.cmp .Eq (.blt "len" [.idx (.var 4) (.var 12)]) (.var 3)] [12]])) [
    .ret (.cst (.bl false))] [],
  .asg 7 (.call "_law_draw" [.var 0, .var 1, .cst (.int 999)]),
  .ret (.cmp .Eq (.cmp .NotEq (.call "passages" [.var 2, .var 5, .var 7]) (.tup [])) (.cmp .In (.bin .Mod (.var 7) (.var 3)) (.var 6)))], false⟩
def d_k12 : Def := ⟨17, 1, [
  .asg 1 (.call "_law_town" [.var 0]),
  .asg 2 (.call "_law_channel" [.var 0, .var 1, .cst (.int 3), .cst (.int 5)]),
  .unp [3, 4, 5] (.var 2),
  .asg 6 (.call "needless_bars" [.var 2]),
  .for_ (.nm 7) .rng1 [.blt "len" [.var 3]] [
    .asg 8 (.bin .Mult (.tup [.cst (.int 6)]) (.blt "len" [.idx (.var 3) (.var 7)])),
    .asg 9 (.tup [.bin .Add (.bin .Add (.slc (.var 3) [] [.var 7]) (.tup [.var 8])) (.slc (.var 3) [.bin .Add (.var 7) (.cst (.int 1))] []), .var 4, .var 5]),
    .asg 10 (.cmp .Eq (.lc (.var 11) (.nm 11) .rng1 [.cst (.int 7)] [.cmp .NotEq (.call "_law_out" [.var 2, .var 11]) (.call "_law_out" [.var 9, .var 11])] [11]) (.lst [])),
    .ite (.or [.cmp .NotEq (.cmp .In (.var 7) (.var 6)) (.var 10), .cmp .NotIn (.var 7) (.call "needless_bars" [.var 9])]) [
      .ret (.cst (.bl false))] [],
    .ite (.and [.cmp .Eq (.idx (.var 3) (.var 7)) (.var 8), .cmp .NotIn (.var 7) (.var 6)]) [
      .ret (.cst (.bl false))] [],
    .ite (.or [.cmp .Lt (.call "greatest_draught" [.var 9]) (.call "greatest_draught" [.var 2]), .cmp .Lt (.call "sure_draught" [.var 9]) (.call "sure_draught" [.var 2])]) [
      .ret (.cst (.bl false))] [],
    .ite (.and [.var 10, .cmp .NotEq (.call "sure_draught" [.var 9]) (.call "sure_draught" [.var 2])]) [
      .ret (.cst (.bl false))] []],
  .ite (.or [.cmp .NotEq (.blt "list" [.var 6]) (.sst (.var 6)), .and [.cmp .Eq (.blt "len" [.var 3]) (.cst (.int 1)), .cmp .NotEq (.cmp .Eq (.var 6) (.tup [.cst (.int 0)])) (.cmp .Eq (.blt "min" [.idx (.var 3) (.cst (.int 0))]) (.cst (.int 6)))]]) [
    .ret (.cst (.bl false))] [],
  .asg 12 (.tup [.bin .Add (.var 3) (.tup [.tup [.cst (.int 6), .cst (.int 6), .cst (.int 6)]]), .bin .Add (.var 4) (.tup [.cst (.int 2)]), .bin .Add (.var 5) (.tup [.cst (.int 1)])]),
  .ite (.call "is_channel" [.var 12]) [
    .ite (.cmp .NotIn (.blt "len" [.var 3]) (.call "needless_bars" [.var 12])) [
      .ret (.cst (.bl false))] [],
    .for_ (.nm 13) .rng1 [.cst (.int 7)] [
      .par 14 15 (.call "hours_out" [.var 12, .var 13]) (.call "_law_out" [.var 2, .var 13]),
      .for_ (.nm 16) .rng1 [.call "period" [.var 12]] [
        .ite (.cmp .NotEq (.cmp .In (.bin .Mod (.var 16) (.call "period" [.var 2])) (.var 15)) (.cmp .In (.var 16) (.var 14))) [
          .ret (.cst (.bl false))] []]]] [],
  .ret (.cmp .Eq (.call "needless_bars" [.tup [.tup [.tup [.cst (.int 2), .cst (.int 3)], .tup [.cst (.int 6)]], .tup [.cst (.int 1)], .tup [.cst (.int 0)]]]) (.tup [.cst (.int 1)]))], false⟩
def d_k13 : Def := ⟨23, 1, [
  .asg 1 (.call "_law_town" [.var 0]),
  .asg 2 (.call "_law_channel" [.var 0, .var 1, .cst (.int 3), .cst (.int 6)]),
  .unp [3, 4, 5] (.var 2),
  .asg 6 (.tup [.var 3, .var 4, .bin .Mult (.tup [.cst (.int 0)]) (.blt "len" [.var 4])]),
  .asg 7 (.tup [.var 3, .var 4, .blt "tuple" [.lc (.blt "min" [.cst (.int 3), .bin .Add (.var 8) (.cst (.int 1))]) (.nm 8) .seq [.var 5] [] [8]]]),
  .unp [9, 10] (.tup [(.call "_law_period" [.var 2]), (.call "_law_draw" [.var 0, .var 1, .cst (.int 6)])]),
  .asg 11 (.lst []),
  .for_ (.nm 12) .rng1 [.var 9] [
    .par 13 14 (.var 12) (.cst (.bl true)),
    .for_ (.nm 15) .rng1 [.blt "len" [.var 3]] [
      .asg 14 (.and [.var 14, .cmp .GtE (.idx (.idx (.var 3) (.var 15)) (.bin .Mod (.var 13) (.blt "len" [.idx (.var 3) (.var 15)]))) (.var 10)]),
      .asg 13 (.bin .Add (.var 13) (.ite (.cmp .Lt (.var 15) (.blt "len" [.var 4])) (.idx (.var 4) (.var 15)) (.cst (.int 0))))],
    .asg 11 (.bin .Add (.var 11) (.bin .Mult (.lst [.var 12]) (.blt "int" [.var 14])))],
  .ite (.cmp .NotEq (.call "hours_out" [.var 6, .var 10]) (.blt "tuple" [.var 11])) [
    .ret (.cst (.bl false))] [],
  .ite (.cmp .NotEq (.lc (.var 12) (.nm 12) .seq [.var 11] [.cmp .NotIn (.var 12) (.call "hours_out" [.var 2, .var 10])] [12]) (.lst [])) [
    .ret (.cst (.bl false))] [],
  .ite (.cmp .NotEq (.lc (.var 12) (.nm 12) .seq [.call "hours_out" [.var 2, .var 10]] [.cmp .NotIn (.var 12) (.call "hours_out" [.var 7, .var 10])] [12]) (.lst [])) [
    .ret (.cst (.bl false))] [],
  .for_ (.nm 15) .rng1 [.cst (.int 5)] [
    .asg 12 (.call "_law_draw" [.var 0, .var 1, .cst (.int 300)]),
    .unp [16, 17, 18] (.lc (.call "soonest" [.var 19, .var 10, .var 12]) (.nm 19) .seq [.tup [.var 6, .var 2, .var 7]] [] [19]),
    .ite (.and [.cmp .IsNot (.var 16) (.cst .non), .or [.cmp .NotEq (.var 17) (.var 16), .cmp .NotEq (.var 16) (.bin .Add (.var 12) (.blt "sum" [.var 4]))]]) [
      .ret (.cst (.bl false))] [],
    .ite (.and [.cmp .IsNot (.var 17) (.cst .non), .or [.cmp .Is (.var 18) (.cst .non), .cmp .Gt (.var 18) (.var 17)]]) [
      .ret (.cst (.bl false))] [],
    .asg 20 (.call "passages" [.var 2, .var 10, .var 12]),
    .ite (.cmp .NotEq (.lc (.var 21) (.nm 21) .seq [.var 20] [.cmp .NotIn (.var 21) (.call "passages" [.var 7, .var 10, .var 12])] [21]) (.lst [])) [
      .ret (.cst (.bl false))] [],
    .asg 22 (.blt "tuple" [.lc (.var 21) (.nm 21) .seq [.var 20] [.cmp .Eq (.bin .Sub (.idx (.var 21) (.bin .Sub (.blt "len" [.var 21]) (.cst (.int 1)))) (.idx (.var 21) (.cst (.int 0)))) (.blt "sum" [.var 4])] [21]]),
    .ite (.or [.cmp .NotEq (.call "passages" [.var 6, .var 10, .var 12]) (.var 22), .cmp .NotEq (.cmp .Eq (.call "fewest_waits" [.var 2, .var 10, .var 12]) (.cst (.int 0))) (.cmp .NotEq (.var 22) (.tup []))]) [
      .ret (.cst (.bl false))] []],
  .ret (.and [.cmp .Is (.call "is_never_worse" [.var 7, .var 2]) (.cst (.bl true)), .cmp .Is (.call "is_never_worse" [.var 2, .var 6]) (.cst (.bl true))])], false⟩
def d_k14 : Def := ⟨20, 1, [
  .asg 1 (.call "_law_town" [.var 0]),
  .asg 2 (.call "_law_channel" [.var 0, .var 1, .cst (.int 3), .cst (.int 6)]),
  .unp [3, 4, 5] (.var 2),
  .asg 6 (.lc (.blt "tuple" [.lc (.idx (.var 8) (.bin .Mod (.neg (.var 7)) (.blt "len" [.var 8]))) (.nm 7) .rng1 [.blt "len" [.var 8]] [] [7]]) (.nm 8) .seq [.var 3] [] [8]),
  .asg 9 (.call "turned_round" [.tup [.blt "tuple" [.var 6], .var 4, .var 5]]),
  .par 10 11 (.call "_law_period" [.var 2]) (.call "_law_draw" [.var 0, .var 1, .cst (.int 6)]),
  .ite (.or [.cmp .NotEq (.call "period" [.var 9]) (.var 10), .cmp .NotEq (.call "greatest_draught" [.var 9]) (.call "greatest_draught" [.var 2])]) [
    .ret (.cst (.bl false))] [],
  .unp [12, 13] (.tup [(.lst [.cst (.int 0), .cst (.int 0)]), (.bin .Mult (.var 10) (.cst (.int 40)))]),
  .for_ (.nm 7) .rng1 [.var 10] [
    .asg 14 (.call "passages" [.var 2, .var 11, .var 7]),
    .asg 12 (.lst [.bin .Add (.idx (.var 12) (.cst (.int 0))) (.blt "len" [.var 14]), .bin .Add (.idx (.var 12) (.cst (.int 1))) (.blt "len" [.call "passages" [.var 9, .var 11, .var 7]])]),
    .for_ (.nm 15) .seq [.slc (.var 14) [] [.cst (.int 3)]] [
      .asg 16 (.blt "tuple" [.lc (.bin .Sub (.var 13) (.var 17)) (.nm 17) .seq [.rev (.var 15)] [] [17]]),
      .ite (.and [.cmp .LtE (.blt "max" [.var 16]) (.cst (.int 2000)), .cmp .GtE (.blt "min" [.var 16]) (.cst (.int 0)), .not (.call "is_passage" [.var 9, .var 11, .var 16])]) [
        .ret (.cst (.bl false))] []]],
  .ite (.cmp .NotEq (.idx (.var 12) (.cst (.int 0))) (.idx (.var 12) (.cst (.int 1)))) [
    .ret (.cst (.bl false))] [],
  .par 18 19 (.call "shortest" [.var 2, .var 11]) (.call "shortest" [.var 9, .var 11]),
  .ite (.cmp .NotEq (.cmp .Is (.var 18) (.cst .non)) (.cmp .Is (.var 19) (.cst .non))) [
    .ret (.cst (.bl false))] [],
  .ite (.and [.cmp .IsNot (.var 18) (.cst .non), .cmp .NotEq (.bin .Sub (.idx (.var 18) (.bin .Sub (.blt "len" [.var 18]) (.cst (.int 1)))) (.idx (.var 18) (.cst (.int 0)))) (.bin .Sub (.idx (.var 19) (.bin .Sub (.blt "len" [.var 19]) (.cst (.int 1)))) (.idx (.var 19) (.cst (.int 0))))]) [
    .ret (.cst (.bl false))] [],
  .ret (.cmp .Eq (.cmp .Is (.call "longest_delay" [.var 2, .var 11]) (.cst .non)) (.cmp .Is (.call "longest_delay" [.var 9, .var 11]) (.cst .non)))], false⟩
def d_k15 : Def := ⟨17, 1, [
  .asg 1 (.call "_law_town" [.var 0]),
  .asg 2 (.call "_law_channel" [.var 0, .var 1, .cst (.int 3), .cst (.int 5)]),
  .unp [3, 4, 5] (.var 2),
  .asg 6 (.tup [.tup [.idx (.var 3) (.cst (.int 0))], .tup [], .tup []]),
  .asg 7 (.call "_law_draw" [.var 0, .var 1, .cst (.int 6)]),
  .ite (.cmp .NotEq (.call "hours_out" [.var 6, .var 7]) (.blt "tuple" [.lc (.var 8) (.nm 8) .rng1 [.blt "len" [.idx (.var 3) (.cst (.int 0))]] [.cmp .GtE (.idx (.idx (.var 3) (.cst (.int 0))) (.var 8)) (.var 7)] [8]])) [
    .ret (.cst (.bl false))] [],
  .ite (.or [.cmp .NotEq (.call "greatest_draught" [.var 6]) (.blt "max" [.idx (.var 3) (.cst (.int 0))]), .cmp .NotEq (.call "sure_draught" [.var 6]) (.blt "min" [.idx (.var 3) (.cst (.int 0))])]) [
    .ret (.cst (.bl false))] [],
  .ite (.cmp .Eq (.blt "len" [.var 3]) (.cst (.int 1))) [
    .ret (.cmp .Eq (.call "needless_bars" [.var 2]) (.ite (.cmp .Lt (.blt "min" [.idx (.var 3) (.cst (.int 0))]) (.cst (.int 6))) (.tup []) (.tup [.cst (.int 0)])))] [],
  .asg 9 (.tup [.slc (.var 3) [] [.neg (.cst (.int 1))], .slc (.var 4) [] [.neg (.cst (.int 1))], .slc (.var 5) [] [.neg (.cst (.int 1))]]),
  .for_ (.nm 8) .rng1 [.cst (.int 6)] [
    .asg 10 (.call "_law_draw" [.var 0, .var 1, .cst (.int 300)]),
    .asg 11 (.newl []),
    .for_ (.nm 12) .seq [.call "passages" [.var 9, .var 7, .var 10]] [
      .for_ (.nm 13) .rng1 [.bin .Add (.idx (.var 5) (.bin .Sub (.blt "len" [.var 5]) (.cst (.int 1)))) (.cst (.int 1))] [
        .asg 14 (.bin .Add (.bin .Add (.idx (.var 12) (.bin .Sub (.blt "len" [.var 12]) (.cst (.int 1)))) (.idx (.var 4) (.bin .Sub (.blt "len" [.var 4]) (.cst (.int 1))))) (.var 13)),
        .ite (.call "can_pass" [.var 2, .bin .Sub (.blt "len" [.var 3]) (.cst (.int 1)), .var 7, .var 14]) [
          .expr (.app (.var 11) (.bin .Add (.var 12) (.tup [.var 14])))] []]],
    .ite (.cmp .NotEq (.call "passages" [.var 2, .var 7, .var 10]) (.blt "tuple" [.blt "sorted" [.var 11]])) [
      .ret (.cst (.bl false))] []],
  .unp [15, 16] (.tup [(.call "hours_out" [.var 9, .var 7]), (.call "hours_out" [.var 2, .var 7])]),
  .ite (.cmp .NotEq (.lc (.var 10) (.nm 10) .seq [.var 16] [.cmp .NotIn (.bin .Mod (.var 10) (.call "period" [.var 9])) (.var 15)] [10]) (.lst [])) [
    .ret (.cst (.bl false))] [],
  .ite (.and [.cmp .Is (.call "longest_delay" [.var 9, .var 7]) (.cst .non), .cmp .IsNot (.call "longest_delay" [.var 2, .var 7]) (.cst .non)]) [
    .ret (.cst (.bl false))] [],
  .ite (.and [.cmp .IsNot (.call "longest_delay" [.var 2, .var 7]) (.cst .non), .cmp .Gt (.call "longest_delay" [.var 9, .var 7]) (.call "longest_delay" [.var 2, .var 7])]) [
    .ret (.cst (.bl false))] [],
  .ret (.and [.cmp .GtE (.call "greatest_draught" [.var 9]) (.call "greatest_draught" [.var 2]), .cmp .GtE (.call "sure_draught" [.var 9]) (.call "sure_draught" [.var 2])])], false⟩
def d_k20 : Def := ⟨10, 1, [
  .asg 1 (.call "_law_town" [.var 0]),
  .asg 2 (.call "_law_channel" [.var 0, .var 1, .cst (.int 3), .cst (.int 5)]),
  .par 3 4 (.call "_law_draw" [.var 0, .var 1, .cst (.int 5)]) (.call "_law_draw" [.var 0, .var 1, .cst (.int 300)]),
  .asg 5 (.cst .non),
  .for_ (.nm 6) .seq [.blt "sorted" [.lst [.call "_law_draw" [.var 0, .var 1, .cst (.int 100)], .call "_law_draw" [.var 0, .var 1, .cst (.int 30)], .call "_law_draw" [.var 0, .var 1, .cst (.int 6)]]]] [
    .asg 7 (.call "back_again" [.var 2, .var 3, .var 4, .var 6]),
    .ite (.cmp .NotEq (.var 7) (.call "_law_home" [.var 2, .var 3, .var 4, .var 6])) [
      .ret (.cst (.bl false))] [],
    .ite (.and [.cmp .IsNot (.var 5) (.cst .non), .cmp .Lt (.var 7) (.var 5)]) [
      .ret (.cst (.bl false))] [],
    .asg 5 (.var 7)],
  .asg 8 (.call "_law_home" [.var 2, .var 3, .var 4, .cst (.int 0)]),
  .ite (.cmp .Is (.var 8) (.cst .non)) [
    .ret (.and [.cmp .Is (.call "longest_stay" [.var 2, .var 3, .var 4, .cst (.int 999)]) (.cst .non), .cmp .Is (.call "back_again" [.var 2, .var 3, .var 4, .cst (.int 0)]) (.cst .non)])] [],
  .ite (.cmp .Is (.call "longest_stay" [.var 2, .var 3, .var 4, .var 8]) (.cst .non)) [
    .ret (.cst (.bl false))] [],
  .ite (.and [.cmp .Gt (.var 8) (.cst (.int 0)), .cmp .IsNot (.call "longest_stay" [.var 2, .var 3, .var 4, .bin .Sub (.var 8) (.cst (.int 1))]) (.cst .non)]) [
    .ret (.cst (.bl false))] [],
  .asg 9 (.bin .Add (.var 8) (.call "_law_draw" [.var 0, .var 1, .cst (.int 40)])),
  .asg 7 (.call "longest_stay" [.var 2, .var 3, .var 4, .var 9]),
  .ite (.or [.cmp .Is (.var 7) (.cst .non), .cmp .Gt (.call "_law_home" [.var 2, .var 3, .var 4, .var 7]) (.var 9)]) [
    .ret (.cst (.bl false))] [],
  .ret (.or [.cmp .Eq (.var 7) (.cst (.int 99)), .cmp .Gt (.call "_law_home" [.var 2, .var 3, .var 4, .bin .Add (.var 7) (.cst (.int 1))]) (.var 9)])], false⟩
def d_k30 : Def := ⟨15, 1, [
  .asg 1 (.call "_law_town" [.var 0]),
  .asg 2 (.call "_law_channel" [.var 0, .var 1, .cst (.int 3), .cst (.int 4)]),
  .asg 3 (.call "_law_other" [.var 0, .var 1, .var 2]),
  .asg 4 (.cst (.int 1)),
  .whl 100000 (.or [.cmp .NotEq (.bin .Mod (.var 4) (.call "_law_period" [.var 2])) (.cst (.int 0)), .cmp .NotEq (.bin .Mod (.var 4) (.call "_law_period" [.var 3])) (.cst (.int 0))]) [
    .asg 4 (.bin .Add (.var 4) (.cst (.int 1)))],
  .unp [5, 6, 7, 8] (.tup [.cst .non, .cst (.bl false), .call "_law_period" [.var 2], .call "_law_period" [.var 3]]),
  .for_ (.nm 9) .rng1 [.cst (.int 7)] [
    .par 10 11 (.call "_law_out" [.var 2, .var 9]) (.call "_law_out" [.var 3, .var 9]),
    .for_ (.nm 12) .rng1 [.var 4] [
      .par 13 14 (.cmp .In (.bin .Mod (.var 12) (.var 7)) (.var 10)) (.cmp .In (.bin .Mod (.var 12) (.var 8)) (.var 11)),
      .ite (.and [.cmp .NotEq (.var 13) (.var 14), .cmp .Is (.var 5) (.cst .non)]) [
        .asg 5 (.tup [.var 9, .var 12])] [],
      .asg 6 (.or [.var 6, .and [.var 14, .not (.var 13)]])]],
  .ite (.or [.cmp .NotEq (.call "first_parting" [.var 2, .var 3]) (.var 5), .cmp .NotEq (.call "first_parting" [.var 3, .var 2]) (.var 5)]) [
    .ret (.cst (.bl false))] [],
  .ite (.or [.cmp .NotEq (.call "are_alike" [.var 2, .var 3]) (.cmp .Is (.var 5) (.cst .non)), .cmp .NotEq (.call "are_alike" [.var 3, .var 2]) (.cmp .Is (.var 5) (.cst .non))]) [
    .ret (.cst (.bl false))] [],
  .ite (.or [.cmp .NotEq (.call "is_never_worse" [.var 2, .var 3]) (.not (.var 6)), .cmp .IsNot (.call "is_never_worse" [.var 2, .var 2]) (.cst (.bl true))]) [
    .ret (.cst (.bl false))] [],
  .ite (.cmp .IsNot (.var 5) (.cst .non)) [
    .unp [9, 12] (.var 5),
    .ite (.cmp .Eq (.cmp .Eq (.call "passages" [.var 2, .var 9, .var 12]) (.tup [])) (.cmp .Eq (.call "passages" [.var 3, .var 9, .var 12]) (.tup []))) [
      .ret (.cst (.bl false))] []] [],
  .ret (.or [.not (.and [.call "is_never_worse" [.var 2, .var 3], .call "is_never_worse" [.var 3, .var 2]]), .cmp .Is (.var 5) (.cst .non)])], false⟩
def d_k40 : Def := ⟨13, 1, [
  .asg 1 (.call "_law_town" [.var 0]),
  .asg 2 (.call "_law_channel" [.var 0, .var 1, .cst (.int 2), .cst (.int 4)]),
  .par 3 4 (.call "_law_draw" [.var 0, .var 1, .cst (.int 7)]) (.call "_law_pick" [.var 0, .var 1, .lst [.cst (.str (nameOf "once")), .cst (.str (nameOf "always"))]]),
  .asg 5 (.blt "len" [.idx (.var 2) (.cst (.int 0))]),
  .asg 6 (.blt "tuple" [.lc (.call "_law_draw" [.var 0, .var 1, .cst (.int 7)]) (.nm 7) .rng1 [.var 5] [] [7]]),
  .ite (.or [.cmp .NotEq (.call "dug" [.var 2, .var 6]) (.call "_law_dug" [.var 2, .var 6]), .cmp .IsNot (.call "is_channel" [.call "dug" [.var 2, .var 6]]) (.cst (.bl true))]) [
    .ret (.cst (.bl false))] [],
  .ite (.cmp .NotEq (.call "dug" [.var 2, .bin .Mult (.tup [.cst (.int 0)]) (.var 5)]) (.var 2)) [
    .ret (.cst (.bl false))] [],
  .asg 8 (.call "least_digging" [.var 2, .var 3, .var 4]),
  .ite (.or [.cmp .NotEq (.blt "len" [.var 8]) (.var 5), .not (.call "_law_serves" [.call "_law_dug" [.var 2, .var 8], .var 3, .var 4])]) [
    .ret (.cst (.bl false))] [],
  .asg 9 (.lst [.tup []]),
  .for_ (.nm 7) .rng1 [.var 5] [
    .asg 10 (.lst []),
    .for_ (.nm 11) .seq [.var 9] [
      .asg 10 (.bin .Add (.var 10) (.lc (.bin .Add (.var 11) (.tup [.var 12])) (.nm 12) .rng1 [.cst (.int 7)] [] [12]))],
    .asg 9 (.var 10)],
  .for_ (.nm 11) .seq [.var 9] [
    .ite (.and [.cmp .Lt (.tup [.blt "sum" [.var 11], .var 11]) (.tup [.blt "sum" [.var 8], .var 8]), .call "_law_serves" [.call "_law_dug" [.var 2, .var 11], .var 3, .var 4]]) [
      .ret (.cst (.bl false))] []],
  .ite (.cmp .NotEq (.cmp .Eq (.blt "sum" [.var 8]) (.cst (.int 0))) (.call "_law_serves" [.var 2, .var 3, .var 4])) [
    .ret (.cst (.bl false))] [],
  .ite (.and [.cmp .Eq (.var 4) (.cst (.str (nameOf "once"))), .cmp .Lt (.call "greatest_draught" [.call "dug" [.var 2, .var 8]]) (.var 3)]) [
    .ret (.cst (.bl false))] [],
  .ret (.or [.cmp .Eq (.var 4) (.cst (.str (nameOf "once"))), .cmp .GtE (.call "sure_draught" [.call "dug" [.var 2, .var 8]]) (.var 3)])], false⟩
def d_k50 : Def := ⟨18, 1, [
  .asg 1 (.call "_law_town" [.var 0]),
  .asg 2 (.call "_law_channel" [.var 0, .var 1, .cst (.int 3), .cst (.int 4)]),
  .par 3 4 (.call "_law_draw" [.var 0, .var 1, .cst (.int 5)]) (.call "_law_draw" [.var 0, .var 1, .cst (.int 5)]),
  .unp [5, 6] (.tup [(.call "_law_draw" [.var 0, .var 1, .cst (.int 6)]), (.call "_law_draw" [.var 0, .var 1, .cst (.int 9)])]),
  .par 7 8 (.lst []) (.lst []),
  .for_ (.nm 9) .rng1 [.bin .Add (.var 6) (.cst (.int 1))] [
    .par 7 8 (.bin .Add (.var 7) (.call "_law_all" [.var 2, .var 3, .var 9])) (.bin .Add (.var 8) (.call "_law_all" [.var 2, .var 4, .var 9]))],
  .asg 10 (.cst .non),
  .for_ (.nm 11) .seq [.var 7] [
    .for_ (.nm 12) .seq [.lc (.var 13) (.nm 13) .seq [.var 8] [.cmp .Is (.var 10) (.cst .non)] [13]] [
      .asg 14 (.lc (.var 15) (.nm 15) .rng1 [.blt "len" [.var 11]] [.cmp .Lt (.blt "abs" [.bin .Sub (.idx (.var 11) (.var 15)) (.idx (.var 12) (.var 15))]) (.var 5)] [15]),
      .ite (.and [.cmp .Is (.var 10) (.cst .non), .cmp .Eq (.var 14) (.lst [])]) [
        .asg 10 (.tup [.var 11, .var 12])] []]],
  .asg 16 (.call "pair_of_passages" [.var 2, .var 3, .var 4, .var 5, .var 6]),
  .ite (.cmp .NotEq (.var 16) (.var 10)) [
    .ret (.cst (.bl false))] [],
  .ite (.cmp .IsNot (.var 16) (.cst .non)) [
    .ite (.or [.not (.call "is_passage" [.var 2, .var 3, .idx (.var 16) (.cst (.int 0))]), .not (.call "is_passage" [.var 2, .var 4, .idx (.var 16) (.cst (.int 1))])]) [
      .ret (.cst (.bl false))] [],
    .asg 17 (.call "pair_of_passages" [.var 2, .var 4, .var 3, .var 5, .var 6]),
    .ite (.or [.cmp .Is (.var 17) (.cst .non), .cmp .Gt (.var 17) (.tup [.idx (.var 16) (.cst (.int 1)), .idx (.var 16) (.cst (.int 0))])]) [
      .ret (.cst (.bl false))] []] [],
  .ite (.cmp .NotEq (.cmp .Is (.call "pair_of_passages" [.var 2, .var 3, .var 4, .cst (.int 0), .var 6]) (.cst .non)) (.or [.cmp .Eq (.var 7) (.lst []), .cmp .Eq (.var 8) (.lst [])])) [
    .ret (.cst (.bl false))] [],
  .ite (.and [.cmp .IsNot (.var 16) (.cst .non), .cmp .NotEq (.call "pair_of_passages" [.var 2, .var 3, .var 4, .var 5, .cst (.int 24)]) (.var 16)]) [
    .ret (.cmp .Lt (.call "pair_of_passages" [.var 2, .var 3, .var 4, .var 5, .cst (.int 24)]) (.var 16))] [],
  .ret (.cst (.bl true))], false⟩
def d_k60 : Def := ⟨19, 1, [
  .asg 1 (.call "_law_town" [.var 0]),
  .asg 2 (.call "_law_channel" [.var 0, .var 1, .cst (.int 3), .cst (.int 5)]),
  .unp [3, 4] (.tup [(.call "_law_period" [.var 2]), (.call "_law_draw" [.var 0, .var 1, .cst (.int 6)])]),
  .asg 5 (.call "_law_draw" [.var 0, .var 1, .var 3]),
  .asg 6 (.sst (.lc (.call "_law_draw" [.var 0, .var 1, .cst (.int 1000)]) (.nm 7) .rng1 [.call "_law_draw" [.var 0, .var 1, .cst (.int 7)]] [] [7])),
  .asg 8 (.call "_law_out" [.var 2, .var 4]),
  .par 9 10 (.newl []) (.newl []),
  .for_ (.nm 11) .seq [.var 6] [
    .asg 12 (.cmp .Eq (.call "_law_draw" [.var 0, .var 1, .cst (.int 12)]) (.cst (.int 0))),
    .expr (.app (.var 9) (.tup [.var 11, .cmp .NotEq (.cmp .In (.bin .Mod (.var 11) (.var 3)) (.var 8)) (.var 12)])),
    .expr (.app (.var 10) (.tup [.var 11, .cmp .In (.bin .Mod (.bin .Sub (.var 11) (.var 5)) (.var 3)) (.var 8)]))],
  .asg 13 (.newl []),
  .for_ (.nm 14) .rng1 [.cst (.int 7)] [
    .asg 15 (.call "_law_out" [.var 2, .var 14]),
    .ite (.cmp .Eq (.lc (.var 16) (.nm 16) .seq [.var 9] [.cmp .NotEq (.cmp .In (.bin .Mod (.idx (.var 16) (.cst (.int 0))) (.var 3)) (.var 15)) (.idx (.var 16) (.cst (.int 1)))] [16]) (.lst [])) [
      .expr (.app (.var 13) (.var 14))] []],
  .ite (.cmp .NotEq (.call "draughts_for" [.var 2, .blt "tuple" [.var 9]]) (.blt "tuple" [.var 13])) [
    .ret (.cst (.bl false))] [],
  .asg 17 (.newl []),
  .for_ (.nm 18) .rng1 [.var 3] [
    .ite (.cmp .Eq (.lc (.var 16) (.nm 16) .seq [.var 9] [.cmp .NotEq (.cmp .In (.bin .Mod (.bin .Sub (.idx (.var 16) (.cst (.int 0))) (.var 18)) (.var 3)) (.var 8)) (.idx (.var 16) (.cst (.int 1)))] [16]) (.lst [])) [
      .expr (.app (.var 17) (.var 18))] []],
  .ite (.cmp .NotEq (.call "hours_for" [.var 2, .var 4, .blt "tuple" [.var 9]]) (.blt "tuple" [.var 17])) [
    .ret (.cst (.bl false))] [],
  .ite (.cmp .NotIn (.var 5) (.call "hours_for" [.var 2, .var 4, .blt "tuple" [.var 10]])) [
    .ret (.cst (.bl false))] [],
  .ite (.cmp .NotIn (.var 4) (.call "draughts_for" [.call "later" [.var 2, .var 5], .blt "tuple" [.var 10]])) [
    .ret (.cst (.bl false))] [],
  .ite (.cmp .NotEq (.call "draughts_for" [.var 2, .tup []]) (.tup [.cst (.int 0), .cst (.int 1), .cst (.int 2), .cst (.int 3), .cst (.int 4), .cst (.int 5), .cst (.int 6)])) [
    .ret (.cst (.bl false))] [],
  .ret (.cmp .Eq (.call "hours_for" [.var 2, .var 4, .tup []]) (.blt "tuple" [.lrng [.var 3]]))], false⟩
def d_k61 : Def := ⟨16, 1, [
  .asg 1 (.call "_law_town" [.var 0]),
  .asg 2 (.call "_law_channel" [.var 0, .var 1, .cst (.int 3), .cst (.int 5)]),
  .unp [3, 4] (.tup [(.call "_law_period" [.var 2]), (.call "_law_draw" [.var 0, .var 1, .cst (.int 50)])]),
  .asg 5 (.call "later" [.var 2, .var 4]),
  .for_ (.nm 6) .rng1 [.cst (.int 7)] [
    .asg 7 (.call "hours_out" [.var 2, .var 6]),
    .ite (.cmp .NotEq (.call "hours_out" [.var 5, .var 6]) (.blt "tuple" [.blt "sorted" [.lc (.bin .Mod (.bin .Add (.var 8) (.var 4)) (.var 3)) (.nm 8) .seq [.var 7] [] [8]]])) [
      .ret (.cst (.bl false))] [],
    .ite (.cmp .NotEq (.call "longest_delay" [.var 5, .var 6]) (.call "longest_delay" [.var 2, .var 6])) [
      .ret (.cst (.bl false))] []],
  .ite (.or [.cmp .NotEq (.call "greatest_draught" [.var 5]) (.call "greatest_draught" [.var 2]), .cmp .NotEq (.call "sure_draught" [.var 5]) (.call "sure_draught" [.var 2])]) [
    .ret (.cst (.bl false))] [],
  .ite (.cmp .NotEq (.call "needless_bars" [.var 5]) (.call "needless_bars" [.var 2])) [
    .ret (.cst (.bl false))] [],
  .par 6 8 (.call "_law_draw" [.var 0, .var 1, .cst (.int 5)]) (.call "_law_draw" [.var 0, .var 1, .cst (.int 300)]),
  .asg 9 (.call "passages" [.var 2, .var 6, .var 8]),
  .asg 10 (.blt "tuple" [.lc (.blt "tuple" [.lc (.bin .Add (.var 11) (.var 4)) (.nm 11) .seq [.var 12] [] [11]]) (.nm 12) .seq [.var 9] [] [12]]),
  .ite (.cmp .NotEq (.call "passages" [.var 5, .var 6, .bin .Add (.var 8) (.var 4)]) (.var 10)) [
    .ret (.cst (.bl false))] [],
  .asg 13 (.call "back_again" [.var 2, .var 6, .var 8, .cst (.int 5)]),
  .ite (.cmp .NotEq (.call "back_again" [.var 5, .var 6, .bin .Add (.var 8) (.var 4), .cst (.int 5)]) (.ite (.cmp .IsNot (.var 13) (.cst .non)) (.bin .Add (.var 13) (.var 4)) (.cst .non))) [
    .ret (.cst (.bl false))] [],
  .asg 14 (.call "dug" [.var 2, .bin .Mult (.tup [.cst (.int 1)]) (.blt "len" [.idx (.var 2) (.cst (.int 0))])]),
  .ite (.cmp .LtE (.blt "max" [.lc (.blt "max" [.var 15]) (.nm 15) .seq [.idx (.var 2) (.cst (.int 0))] [] [15]]) (.cst (.int 5))) [
    .for_ (.nm 6) .rng2 [.cst (.int 1), .cst (.int 7)] [
      .ite (.cmp .NotEq (.call "hours_out" [.var 14, .var 6]) (.call "hours_out" [.var 2, .bin .Sub (.var 6) (.cst (.int 1))])) [
        .ret (.cst (.bl false))] []],
    .ite (.cmp .NotEq (.call "greatest_draught" [.var 14]) (.bin .Add (.call "greatest_draught" [.var 2]) (.cst (.int 1)))) [
      .ret (.cst (.bl false))] []] [],
  .ret (.and [.cmp .Is (.call "is_never_worse" [.var 14, .var 2]) (.cst (.bl true)), .cmp .Is (.call "are_alike" [.call "later" [.var 2, .var 3], .var 2]) (.cst (.bl true))])], false⟩
def d_k72 : Def := ⟨11, 1, [
  .asg 1 (.call "_law_town" [.var 0]),
  .asg 2 (.call "_law_channel" [.var 0, .var 1, .cst (.int 3), .cst (.int 8)]),
  .asg 3 (.call "_law_line" [.var 2]),
  .ite (.or [.cmp .NotEq (.call "format_channel" [.var 2]) (.var 3), .cmp .NotEq (.call "_law_outcome" [.cst (.int 0), .var 3]) (.tup [.cst (.str (nameOf "returned")), .var 2])]) [
    .ret (.cst (.bl false))] [],
  .for_ (.nm 4) .rng1 [.cst (.int 12)] [
    .asg 5 (.call "_law_draw" [.var 0, .var 1, .bin .Add (.blt "len" [.var 3]) (.cst (.int 1))]),
    .asg 6 (.call "_law_pick" [.var 0, .var 1, .bin .Add (.blt "list" [.cst (.str (nameOf "0123456789+- "))]) (.lst [.cst (.str (nameOf " 1+0 3")), .cst (.str (nameOf ""))])]),
    .asg 7 (.bin .Add (.bin .Add (.slc (.var 3) [] [.var 5]) (.var 6)) (.slc (.var 3) [.bin .Add (.var 5) (.call "_law_draw" [.var 0, .var 1, .cst (.int 2)])] [])),
    .asg 8 (.call "_law_outcome" [.cst (.int 0), .var 7]),
    .ite (.cmp .Eq (.idx (.var 8) (.cst (.int 0))) (.cst (.str (nameOf "returned")))) [
      .ite (.or [.cmp .IsNot (.call "is_channel" [.idx (.var 8) (.cst (.int 1))]) (.cst (.bl true)), .cmp .NotEq (.call "_law_line" [.idx (.var 8) (.cst (.int 1))]) (.var 7)]) [
        .ret (.cst (.bl false))] []] [
      .ite (.or [.cmp .NotEq (.var 8) (.call "_law_raises" [.cst (.str (nameOf "text"))]), .cmp .Eq (.var 7) (.var 3)]) [
        .ret (.cst (.bl false))] []]],
  .asg 9 (.lst [.cst .non, .cst (.int 5), .cst (.str (nameOf "")), .cst (.str (nameOf " ")), .cst (.str (nameOf "7")), .cst (.str (nameOf "a")), .cst (.str (nameOf "1 ")), .cst (.str (nameOf " 1")), .cst (.str (nameOf "1 2")), .cst (.str (nameOf "1 2+1")), .cst (.str (nameOf "1 2+1 ")), .cst (.str (nameOf "1 2+4 3")), .cst (.str (nameOf "1 0+1 3")), .cst (.str (nameOf "1 21 3")), .cst (.str (nameOf "1 +21 3"))]),
  .asg 9 (.bin .Add (.var 9) (.lst [.cst (.str (nameOf "1 2+1  3")), .cst (.str (nameOf "1 2+1 3 4")), .cst (.str (nameOf "000000000")), .cst (.str (nameOf "1 10+1 3")), .cst (.str (nameOf "1 2+1 3 1+1 4 1+1 5")), .var 2, .lst [.var 3], .cst (.bl true), .cst (.str (nameOf "-1"))])),
  .ite (.cmp .NotEq (.lc (.var 10) (.nm 10) .seq [.var 9] [.cmp .NotEq (.call "_law_outcome" [.cst (.int 0), .var 10]) (.call "_law_raises" [.cst (.str (nameOf "text"))])] [10]) (.lst [])) [
    .ret (.cst (.bl false))] [],
  .ret (.cmp .Eq (.call "_law_outcome" [.cst (.int 0), .cst (.str (nameOf "0242 2+1 133"))]) (.tup [.cst (.str (nameOf "returned")), .tup [.tup [.tup [.cst (.int 0), .cst (.int 2), .cst (.int 4), .cst (.int 2)], .tup [.cst (.int 1), .cst (.int 3), .cst (.int 3)]], .tup [.cst (.int 2)], .tup [.cst (.int 1)]]]))], false⟩
def d_k74 : Def := ⟨8, 1, [
  .asg 1 (.call "_law_town" [.var 0]),
  .asg 2 (.tup [.cst (.int 0), .cst (.int 1), .cst (.int 2), .cst (.int 3), .cst (.int 4), .cst (.int 3), .cst (.int 2), .cst (.int 1)]),
  .par 3 4 (.tup [.tup [.var 2], .tup [], .tup []]) (.bin .Add (.cst (.int 1)) (.call "_law_draw" [.var 0, .var 1, .cst (.int 4)])),
  .ite (.or [.cmp .NotEq (.call "hours_out" [.var 3, .var 4]) (.blt "tuple" [.lrng [.var 4, .bin .Sub (.cst (.int 9)) (.var 4)]]), .cmp .NotEq (.call "longest_delay" [.var 3, .var 4]) (.bin .Sub (.bin .Mult (.cst (.int 2)) (.var 4)) (.cst (.int 1)))]) [
    .ret (.cst (.bl false))] [],
  .ite (.or [.cmp .NotEq (.call "greatest_draught" [.var 3]) (.cst (.int 4)), .cmp .NotEq (.call "sure_draught" [.var 3]) (.cst (.int 0)), .cmp .NotEq (.call "shortest" [.var 3, .var 4]) (.tup [.var 4])]) [
    .ret (.cst (.bl false))] [],
  .par 5 6 (.tup [.tup [.var 2, .var 2], .tup [.cst (.int 8)], .tup [.cst (.int 0)]]) (.tup [.tup [.var 2, .var 2], .tup [.cst (.int 4)], .tup [.cst (.int 0)]]),
  .ite (.or [.cmp .NotEq (.call "hours_out" [.var 5, .var 4]) (.call "hours_out" [.var 3, .var 4]), .not (.call "are_alike" [.var 5, .var 3])]) [
    .ret (.cst (.bl false))] [],
  .ite (.or [.cmp .NotEq (.call "hours_out" [.var 6, .cst (.int 3)]) (.tup []), .cmp .NotEq (.call "hours_out" [.var 6, .cst (.int 2)]) (.tup [.cst (.int 2), .cst (.int 6)]), .cmp .NotEq (.call "greatest_draught" [.var 6]) (.cst (.int 2))]) [
    .ret (.cst (.bl false))] [],
  .ite (.or [.cmp .NotEq (.call "first_parting" [.var 3, .var 6]) (.tup [.cst (.int 1), .cst (.int 4)]), .cmp .IsNot (.call "is_never_worse" [.var 6, .var 3]) (.cst (.bl false))]) [
    .ret (.cst (.bl false))] [],
  .ite (.or [.cmp .NotEq (.call "needless_bars" [.var 5]) (.tup [.cst (.int 0), .cst (.int 1)]), .cmp .NotEq (.call "needless_bars" [.var 3]) (.tup []), .cmp .IsNot (.call "longest_delay" [.var 6, .cst (.int 3)]) (.cst .non)]) [
    .ret (.cst (.bl false))] [],
  .asg 7 (.tup [.tup [.var 2, .var 2], .tup [.cst (.int 4)], .tup [.cst (.int 3)]]),
  .ite (.or [.cmp .NotEq (.call "passages" [.var 7, .cst (.int 4), .cst (.int 4)]) (.tup []), .cmp .NotEq (.call "passages" [.var 7, .cst (.int 3), .cst (.int 4)]) (.tup [.tup [.cst (.int 4), .cst (.int 11)]])]) [
    .ret (.cst (.bl false))] [],
  .ite (.or [.cmp .NotEq (.call "soonest" [.var 7, .cst (.int 2), .cst (.int 3)]) (.cst (.int 10)), .cmp .NotEq (.call "fewest_waits" [.var 7, .cst (.int 2), .cst (.int 3)]) (.cst (.int 3))]) [
    .ret (.cst (.bl false))] [],
  .ite (.or [.cmp .NotEq (.call "back_again" [.var 3, .cst (.int 4), .cst (.int 4), .cst (.int 1)]) (.cst (.int 12)), .cmp .NotEq (.call "longest_stay" [.var 3, .cst (.int 4), .cst (.int 4), .cst (.int 28)]) (.cst (.int 24)), .cmp .IsNot (.call "longest_stay" [.var 3, .cst (.int 4), .cst (.int 4), .cst (.int 3)]) (.cst .non)]) [
    .ret (.cst (.bl false))] [],
  .ite (.or [.cmp .NotEq (.call "least_digging" [.var 3, .cst (.int 4), .cst (.str (nameOf "always"))]) (.tup [.cst (.int 4)]), .cmp .NotEq (.call "least_digging" [.var 6, .cst (.int 3), .cst (.str (nameOf "once"))]) (.tup [.cst (.int 0), .cst (.int 2)])]) [
    .ret (.cst (.bl false))] [],
  .ite (.or [.cmp .NotEq (.slc (.idx (.idx (.call "dug" [.var 3, .tup [.cst (.int 5)]]) (.cst (.int 0))) (.cst (.int 0))) [] [.cst (.int 3)]) (.tup [.cst (.int 5), .cst (.int 6), .cst (.int 6)]), .cmp .NotEq (.call "least_digging" [.var 3, .cst (.int 4), .cst (.str (nameOf "once"))]) (.tup [.cst (.int 0)])]) [
    .ret (.cst (.bl false))] [],
  .ite (.or [.cmp .NotEq (.call "pair_of_passages" [.var 3, .cst (.int 4), .cst (.int 4), .cst (.int 8), .cst (.int 12)]) (.tup [.tup [.cst (.int 4)], .tup [.cst (.int 12)]]), .cmp .IsNot (.call "pair_of_passages" [.var 3, .cst (.int 4), .cst (.int 4), .cst (.int 9), .cst (.int 12)]) (.cst .non)]) [
    .ret (.cst (.bl false))] [],
  .ite (.or [.cmp .NotEq (.call "draughts_for" [.var 3, .tup [.tup [.cst (.int 3), .cst (.bl true)], .tup [.cst (.int 10), .cst (.bl false)]]]) (.tup [.cst (.int 3)]), .cmp .NotEq (.call "draughts_for" [.var 3, .tup [.tup [.cst (.int 0), .cst (.bl true)], .tup [.cst (.int 1), .cst (.bl false)]]]) (.tup [])]) [
    .ret (.cst (.bl false))] [],
  .ite (.or [.cmp .NotEq (.call "hours_for" [.var 3, .cst (.int 4), .tup [.tup [.cst (.int 7), .cst (.bl true)]]]) (.tup [.cst (.int 3)]), .cmp .NotEq (.idx (.idx (.call "later" [.var 3, .cst (.int 4)]) (.cst (.int 0))) (.cst (.int 0))) (.tup [.cst (.int 4), .cst (.int 3), .cst (.int 2), .cst (.int 1), .cst (.int 0), .cst (.int 1), .cst (.int 2), .cst (.int 3)])]) [
    .ret (.cst (.bl false))] [],
  .ret (.call "_law_flat" [.call "_law_draw" [.var 0, .var 1, .cst (.int 7)]])], false⟩
end TW
/-! TwStep: the evaluator, one step after another, with nothing bound. -/
namespace TW
open PySem (Str Operator CmpOp)
section
variable (T : Tab) (env : Env)
def getV : Env → Nat → Store → R D
  | some d :: _, 0, st => .ok d st
  | none :: _, 0, _ => .stuck
  | _ :: r, n + 1, st => getV r n st
  | [], _, _ => .stuck
def kBin1 (o : Operator) (b : E) (r : R D) : R D := r.bind fun x st => (evE T b env st).bind fun y st => ofO (binop o (der st x) (der st y)) st
def kBin2 (o : Operator) (x : D) (r : R D) : R D := r.bind fun y st => ofO (binop o (der st x) (der st y)) st
def kNeg (r : R D) : R D := r.bind negR
def kNot (r : R D) : R D := r.bind notR
def kAnd (as : List E) (r : R D) : R D := r.bind fun x st => onBl x (evAnd T as env st) (.ok (.bl false) st)
def kOr (as : List E) (r : R D) : R D := r.bind fun x st => onBl x (.ok (.bl true) st) (evOr T as env st)
def kIte (a b : E) (r : R D) : R D := r.bind fun x st => onBl x (evE T a env st) (evE T b env st)
def ofB (o : Option Bool) (st : Store) : R D := (ofO o st).bind fun b st => .ok (.bl b) st
def kCmp1 (o : CmpOp) (b : E) (r : R D) : R D := r.bind fun x st => (evE T b env st).bind fun y st => ofB (cmpop o (rd st x) (rd st y)) st
def kCmp2 (o : CmpOp) (x : D) (r : R D) : R D := r.bind fun y st => ofB (cmpop o (rd st x) (rd st y)) st
def kChn4 (o' : CmpOp) (y : D) (r : R D) : R D := r.bind fun z st => ofB (cmpop o' (rd st y) (rd st z)) st
def kChn3 (o' : CmpOp) (y : D) (c : E) (k : Option Bool) (st : Store) : R D := (ofO k st).bind fun k st => if k then kChn4 o' y (evE T c env st) else .ok (.bl false) st
def kChn2 (o o' : CmpOp) (x : D) (c : E) (r : R D) : R D := r.bind fun y st => kChn3 T env o' y c (cmpop o (rd st x) (rd st y)) st
def kChn1 (o o' : CmpOp) (b c : E) (r : R D) : R D := r.bind fun x st => kChn2 T env o o' x c (evE T b env st)
def kTup (r : R (List D)) : R D := r.bind fun ds st => .ok (.tup ds) st
def kLst (r : R (List D)) : R D := r.bind fun ds st => .ok (.lst ds) st
def kNewl (r : R (List D)) : R D := r.bind fun ds st => .ok (.ref st.length) (st ++ [.lst ds])
def catR (x y : D) (st : Store) : R D := match x, y with
  | .lst xs, .lst ys => if xs.length + ys.length ≤ lim then .ok (.ref st.length) (st ++ [.lst (xs ++ ys)]) else .stuck
  | _, _ => .stuck
def kCat2 (x : D) (r : R D) : R D := r.bind fun y st => catR (der st x) (der st y) st
def kCat1 (b : E) (r : R D) : R D := r.bind fun x st => kCat2 x (evE T b env st)
def kIdx2 (x : D) (r : R D) : R D := r.bind fun y st => ofO (idxop (rd st x) y) st
def kIdx1 (i : E) (r : R D) : R D := r.bind fun x st => kIdx2 x (evE T i env st)
def kSlc5 (x : D) (l : Option Int) (h : Option (Option Int)) (st : Store) : R D := (ofO h st).bind fun h st => ofO (slcop (der st x) l h) st
def kSlc4 (x : D) (l : Option Int) (r : R (List D)) : R D := r.bind fun h st => kSlc5 x l (opt1 h) st
def kSlc3 (hi : List E) (x : D) (l : Option (Option Int)) (st : Store) : R D := (ofO l st).bind fun l st => kSlc4 x l (evEs T hi env st)
def kSlc2 (hi : List E) (x : D) (r : R (List D)) : R D := r.bind fun l st => kSlc3 T env hi x (opt1 l) st
def kSlc1 (lo hi : List E) (r : R D) : R D := r.bind fun x st => kSlc2 T env hi x (evEs T lo env st)
def kRev (r : R D) : R D := r.bind fun x st => ofO (revop (der st x)) st
def kCall (f : String) (r : R (List D)) : R D := r.bind fun ds st => callT T f ds st
def kBlt (f : String) (r : R (List D)) : R D := r.bind fun ds st => ofO (bltin f (ds.map (rd st))) st
def lrngR (ds : List D) (st : Store) : R D := match ds with
  | [.int j] => if -1000000 ≤ j ∧ j ≤ 1000000 then .ok (.lst (rngD 0 j.toNat)) st else .stuck
  | [.int i, .int j] => if -1000000 ≤ i ∧ i ≤ 1000000 ∧ -1000000 ≤ j ∧ j ≤ 1000000 then .ok (.lst (rngD i (j - i).toNat)) st else .stuck
  | _ => .stuck
def kLrng (r : R (List D)) : R D := r.bind lrngR
def kSst (r : R D) : R D := r.bind fun x st => sstR (rd st x) st
def isiR (ts : List String) (d : D) (st : Store) : R D := match ts with
  | [t] => ofB (isTy d t) st
  | [t, u] => (ofO (isTy d t) st).bind fun b st => (ofO (isTy d u) st).bind fun c st => .ok (.bl (b || c)) st
  | _ => .stuck
def kIsi (ts : List String) (r : R D) : R D := r.bind fun x st => isiR ts (der st x) st
def kApp3 (x : D) (r : R D) : R D := r.bind fun d st => appC st x d
def kApp2 (a : E) (x : D) (o : Option (Nat × List D)) (st : Store) : R D := (ofO o st).bind fun _ st => kApp3 x (evE T a env st)
def kApp1 (a : E) (r : R D) : R D := r.bind fun x st => kApp2 T env a x (cellOf st x) st
def kExt3 (x : D) (r : R D) : R D := r.bind fun d st => extC st x d
def kExt2 (a : E) (x : D) (o : Option (Nat × List D)) (st : Store) : R D := (ofO o st).bind fun _ st => kExt3 x (evE T a env st)
def kExt1 (a : E) (r : R D) : R D := r.bind fun x st => kExt2 T env a x (cellOf st x) st
def kOne (r : R D) : R (List D) := r.bind fun y st => .ok [y] st
def kElt (elt : E) (r : R Bool) : R (List D) := r.bind fun b st => if b then kOne (evE T elt env st) else .ok [] st
def lcG (elt : E) (ifs : List E) (o : Option Env) (st : Store) : R (List D) := match o with
  | none => .stuck
  | some env1 => kElt T env1 elt (evIfs T ifs env1 st)
/-- a comprehension's turn -/
def lcT (elt : E) (tg : Tg) (ifs : List E) (x : D) (st : Store) : R (List D) := noexc (lcG T elt ifs (asgT tg env x) st)
def kLc2 (elt : E) (tg : Tg) (ifs : List E) (own : List Nat) (ds : List D) (o : Option (List D)) (st : Store) : R D := match o with
  | none => .stuck
  | some xs => kLst (lcL st ds (lcT T (wipeE env own) elt tg ifs) xs st)
def kLc1 (elt : E) (tg : Tg) (k : IK) (ifs : List E) (own : List Nat) (r : R (List D)) : R D := r.bind fun ds st => kLc2 T env elt tg ifs own ds (iter k (ds.map (rd st))) st
def kIn2 (elt : E) (tg1 : Tg) (ifs1 : List E) (own1 : List Nat) (ds1 : List D) (o : Option (List D)) (st : Store) : R (List D) := match o with
  | none => .stuck
  | some xs1 => lcL st ds1 (lcT T (wipeE env own1) elt tg1 ifs1) xs1 st
def kIn1 (elt : E) (tg1 : Tg) (k1 : IK) (ifs1 : List E) (own1 : List Nat) (r : R (List D)) : R (List D) := r.bind fun ds1 st => kIn2 T env elt tg1 ifs1 own1 ds1 (iter k1 (ds1.map (rd st))) st
def kOut (elt : E) (tg1 : Tg) (k1 : IK) (its1 ifs1 : List E) (own1 : List Nat) (r : R Bool) : R (List D) := r.bind fun b st => if b then kIn1 T env elt tg1 k1 ifs1 own1 (evEs T its1 env st) else .ok [] st
def lcG2 (elt : E) (ifs : List E) (tg1 : Tg) (k1 : IK) (its1 ifs1 : List E) (own1 : List Nat) (o : Option Env) (st : Store) : R (List D) := match o with
  | none => .stuck
  | some env1 => kOut T env1 elt tg1 k1 its1 ifs1 own1 (evIfs T ifs env1 st)
def lcT2 (elt : E) (tg : Tg) (ifs : List E) (tg1 : Tg) (k1 : IK) (its1 ifs1 : List E) (own1 : List Nat) (x : D) (st : Store) : R (List D) := noexc (lcG2 T elt ifs tg1 k1 its1 ifs1 own1 (asgT tg env x) st)
def kLd2 (elt : E) (tg : Tg) (ifs : List E) (tg1 : Tg) (k1 : IK) (its1 ifs1 : List E) (own own1 : List Nat) (ds : List D) (o : Option (List D)) (st : Store) : R D := match o with
  | none => .stuck
  | some xs => limited (lcL st ds (lcT2 T (wipeE env own) elt tg ifs tg1 k1 its1 ifs1 own1) xs st)
def kLd1 (elt : E) (tg : Tg) (k : IK) (ifs : List E) (tg1 : Tg) (k1 : IK) (its1 ifs1 : List E) (own own1 : List Nat) (r : R (List D)) : R D := r.bind fun ds st => kLd2 T env elt tg ifs tg1 k1 its1 ifs1 own own1 ds (iter k (ds.map (rd st))) st
def kEs2 (x : D) (r : R (List D)) : R (List D) := r.bind fun xs st => .ok (x :: xs) st
def kEs1 (as : List E) (r : R D) : R (List D) := r.bind fun x st => kEs2 x (evEs T as env st)
def kTst (r : R D) : R Bool := r.bind fun x st => match x with
  | .bl b => .ok b st
  | _ => .stuck
end
variable {T : Tab} {env : Env} {st : Store}
@[simp] theorem getV_0 (d : D) (r : Env) : getV (some d :: r) 0 st = .ok d st := nrfl rfl
@[simp] theorem getV_n (d : Option D) (r : Env) (n : Nat) : getV (d :: r) (n + 1) st = getV r n st := by cases d <;> rfl
theorem getV_eq : ∀ (env : Env) (i : Nat), (match env[i]? with | some (some d) => R.ok d st | _ => .stuck) = getV env i st
  | [], i => by simp [getV]
  | some d :: r, 0 => rfl
  | none :: r, 0 => rfl
  | d :: r, n + 1 => by
    rw [getV_n, List.getElem?_cons_succ]
    exact getV_eq r n
section
variable (i : Nat) (d : D) (x : String) (o o' : Operator) (c c' : CmpOp) (a b e : E) (as lo hi ifs its ifs1 its1 : List E) (tg tg1 : Tg) (k k1 : IK) (own own1 : List Nat) (ts : List String)
@[simp] theorem e_var : evE T (.var i) env st = getV env i st := by rw [evE]; exact getV_eq env i
@[simp] theorem e_cst : evE T (.cst d) env st = .ok d st := by rw [evE]
@[simp] theorem e_glb : evE T (.glb x) env st = .ok (.glb x) st := by rw [evE]
@[simp] theorem e_bin : evE T (.bin o a b) env st = kBin1 T env o b (evE T a env st) := by rw [evE]; rfl
@[simp] theorem e_neg : evE T (.neg a) env st = kNeg (evE T a env st) := by rw [evE]; rfl
@[simp] theorem e_not : evE T (.not a) env st = kNot (evE T a env st) := by rw [evE]; rfl
@[simp] theorem e_and : evE T (.and as) env st = evAnd T as env st := by rw [evE]
@[simp] theorem e_or : evE T (.or as) env st = evOr T as env st := by rw [evE]
@[simp] theorem e_and1 : evAnd T [a] env st = evE T a env st := by rw [evAnd]
@[simp] theorem e_and2 : evAnd T (a :: b :: as) env st = kAnd T env (b :: as) (evE T a env st) := by rw [evAnd]; rfl
@[simp] theorem e_or1 : evOr T [a] env st = evE T a env st := by rw [evOr]
@[simp] theorem e_or2 : evOr T (a :: b :: as) env st = kOr T env (b :: as) (evE T a env st) := by rw [evOr]; rfl
@[simp] theorem e_ite : evE T (.ite e a b) env st = kIte T env a b (evE T e env st) := by rw [evE]; rfl
@[simp] theorem e_cmp : evE T (.cmp c a b) env st = kCmp1 T env c b (evE T a env st) := by rw [evE]; rfl
@[simp] theorem e_chn : evE T (.chn c c' a b e) env st = kChn1 T env c c' b e (evE T a env st) := by rw [evE]; rfl
@[simp] theorem e_tup : evE T (.tup as) env st = kTup (evEs T as env st) := by rw [evE]; rfl
@[simp] theorem e_lst : evE T (.lst as) env st = kLst (evEs T as env st) := by rw [evE]; rfl
@[simp] theorem e_newl : evE T (.newl as) env st = kNewl (evEs T as env st) := by rw [evE]; rfl
@[simp] theorem e_catc : evE T (.catc a b) env st = kCat1 T env b (evE T a env st) := by rw [evE]; rfl
@[simp] theorem e_idx : evE T (.idx a b) env st = kIdx1 T env b (evE T a env st) := by rw [evE]; rfl
@[simp] theorem e_slc : evE T (.slc a lo hi) env st = kSlc1 T env lo hi (evE T a env st) := by
  rw [evE]
  unfold kSlc1
  congr 1; funext x st
  unfold kSlc2
  cases evEs T lo env st with
  | ok l st =>
    simp only [R.bind_ok]
    unfold kSlc3
    congr 1; funext l st
    unfold kSlc4
    cases evEs T hi env st <;> rfl
  | _ => rfl
@[simp] theorem e_rev : evE T (.rev a) env st = kRev (evE T a env st) := by rw [evE]; rfl
@[simp] theorem e_call : evE T (.call x as) env st = kCall T x (evEs T as env st) := by rw [evE]; rfl
@[simp] theorem e_blt : evE T (.blt x as) env st = kBlt x (evEs T as env st) := by rw [evE]; rfl
@[simp] theorem e_lrng : evE T (.lrng as) env st = kLrng (evEs T as env st) := by rw [evE]; rfl
@[simp] theorem e_sst : evE T (.sst a) env st = kSst (evE T a env st) := by rw [evE]; rfl
@[simp] theorem e_isi : evE T (.isi a ts) env st = kIsi ts (evE T a env st) := by
  rw [evE]
  unfold kIsi isiR
  congr 1; funext x st
  cases ts with
  | nil => rfl
  | cons t r => cases r with
    | nil => rfl
    | cons u r => cases r with
      | nil =>
        show (ofO (isTy (der st x) t) st).bind _ = (ofO (isTy (der st x) t) st).bind _
        cases isTy (der st x) t <;> rfl
      | cons => rfl
@[simp] theorem e_app : evE T (.app a b) env st = kApp1 T env b (evE T a env st) := by rw [evE]; rfl
@[simp] theorem e_ext : evE T (.ext a b) env st = kExt1 T env b (evE T a env st) := by rw [evE]; rfl
theorem lcT_fun (ws : Env) : (fun x st => noexc (match asgT tg ws x with
        | none => .stuck
        | some env1 => (evIfs T ifs env1 st).bind fun b st => if b then (evE T e env1 st).bind fun y st => .ok [y] st else .ok [] st)) = lcT T ws e tg ifs := by
  funext x st
  unfold lcT lcG
  cases asgT tg ws x <;> rfl
@[simp] theorem e_lc : evE T (.lc e tg k its ifs own) env st = kLc1 T env e tg k ifs own (evEs T its env st) := by
  rw [evE]
  unfold kLc1 kLc2
  rw [← lcT_fun]
  first | done | rfl
@[simp] theorem e_lc2 : evE T (.lc2 e tg k its ifs tg1 k1 its1 ifs1 own own1) env st = kLd1 T env e tg k ifs tg1 k1 its1 ifs1 own own1 (evEs T its env st) := by
  rw [evE]
  unfold kLd1 kLd2
  congr 1
@[simp] theorem es_nil : evEs T [] env st = .ok [] st := by rw [evEs]
@[simp] theorem es_cons : evEs T (a :: as) env st = kEs1 T env as (evE T a env st) := by rw [evEs]; rfl
@[simp] theorem if_nil : evIfs T [] env st = .ok true st := by rw [evIfs]
@[simp] theorem if_one : evIfs T [a] env st = kTst (evE T a env st) := by rw [evIfs]; rfl
@[simp] theorem lcT_eq : lcT T env e tg ifs d st = noexc (lcG T e ifs (asgT tg env d) st) := nrfl rfl
@[simp] theorem lcT2_eq : lcT2 T env e tg ifs tg1 k1 its1 ifs1 own1 d st = noexc (lcG2 T e ifs tg1 k1 its1 ifs1 own1 (asgT tg env d) st) := nrfl rfl
@[simp] theorem lcG_some (env1 : Env) : lcG T e ifs (some env1) st = kElt T env1 e (evIfs T ifs env1 st) := nrfl rfl
@[simp] theorem lcG2_some (env1 : Env) : lcG2 T e ifs tg1 k1 its1 ifs1 own1 (some env1) st = kOut T env1 e tg1 k1 its1 ifs1 own1 (evIfs T ifs env1 st) := nrfl rfl
variable (y z : D) (p : Bool) (ys : List D)
@[simp] theorem kBin1_ok : kBin1 T env o b (.ok d st) = kBin2 o d (evE T b env st) := nrfl rfl
@[simp] theorem kBin2_ok : kBin2 o d (.ok y st) = ofO (binop o (der st d) (der st y)) st := nrfl rfl
@[simp] theorem kNeg_ok (i : Int) : kNeg (.ok (.int i) st) = .ok (.int (-i)) st := nrfl rfl
@[simp] theorem kNot_ok : kNot (.ok (.bl p) st) = .ok (.bl (!p)) st := nrfl rfl
@[simp] theorem kAnd_t : kAnd T env as (.ok (.bl true) st) = evAnd T as env st := nrfl rfl
@[simp] theorem kAnd_f : kAnd T env as (.ok (.bl false) st) = .ok (.bl false) st := nrfl rfl
@[simp] theorem kOr_t : kOr T env as (.ok (.bl true) st) = .ok (.bl true) st := nrfl rfl
@[simp] theorem kOr_f : kOr T env as (.ok (.bl false) st) = evOr T as env st := nrfl rfl
@[simp] theorem kIte_t : kIte T env a b (.ok (.bl true) st) = evE T a env st := nrfl rfl
@[simp] theorem kIte_f : kIte T env a b (.ok (.bl false) st) = evE T b env st := nrfl rfl
@[simp] theorem ofB_some : ofB (some p) st = .ok (.bl p) st := nrfl rfl
@[simp] theorem kCmp1_ok : kCmp1 T env c b (.ok d st) = kCmp2 c d (evE T b env st) := nrfl rfl
@[simp] theorem kCmp2_ok : kCmp2 c d (.ok y st) = ofB (cmpop c (rd st d) (rd st y)) st := nrfl rfl
@[simp] theorem kChn1_ok : kChn1 T env c c' b e (.ok d st) = kChn2 T env c c' d e (evE T b env st) := nrfl rfl
@[simp] theorem kChn2_ok : kChn2 T env c c' d e (.ok y st) = kChn3 T env c' y e (cmpop c (rd st d) (rd st y)) st := nrfl rfl
@[simp] theorem kChn3_t : kChn3 T env c' y e (some true) st = kChn4 c' y (evE T e env st) := nrfl rfl
@[simp] theorem kChn3_f : kChn3 T env c' y e (some false) st = .ok (.bl false) st := nrfl rfl
@[simp] theorem kChn4_ok : kChn4 c' y (.ok z st) = ofB (cmpop c' (rd st y) (rd st z)) st := nrfl rfl
@[simp] theorem kTup_ok : kTup (.ok ys st) = .ok (.tup ys) st := nrfl rfl
@[simp] theorem kLst_ok : kLst (.ok ys st) = .ok (.lst ys) st := nrfl rfl
@[simp] theorem kNewl_ok : kNewl (.ok ys st) = .ok (.ref st.length) (st ++ [.lst ys]) := nrfl rfl
@[simp] theorem kCat1_ok : kCat1 T env b (.ok d st) = kCat2 d (evE T b env st) := nrfl rfl
@[simp] theorem kCat2_ok : kCat2 d (.ok y st) = catR (der st d) (der st y) st := nrfl rfl
@[simp] theorem kIdx1_ok : kIdx1 T env b (.ok d st) = kIdx2 d (evE T b env st) := nrfl rfl
@[simp] theorem kIdx2_ok : kIdx2 d (.ok y st) = ofO (idxop (rd st d) y) st := nrfl rfl
@[simp] theorem kSlc1_ok : kSlc1 T env lo hi (.ok d st) = kSlc2 T env hi d (evEs T lo env st) := nrfl rfl
@[simp] theorem kSlc2_ok : kSlc2 T env hi d (.ok ys st) = kSlc3 T env hi d (opt1 ys) st := nrfl rfl
@[simp] theorem kSlc3_ok (l : Option Int) : kSlc3 T env hi d (some l) st = kSlc4 d l (evEs T hi env st) := nrfl rfl
@[simp] theorem kSlc4_ok (l : Option Int) : kSlc4 d l (.ok ys st) = kSlc5 d l (opt1 ys) st := nrfl rfl
@[simp] theorem kSlc5_ok (l h : Option Int) : kSlc5 d l (some h) st = ofO (slcop (der st d) l h) st := nrfl rfl
@[simp] theorem opt1_nil : opt1 [] = some none := nrfl rfl
@[simp] theorem opt1_int (i : Int) : opt1 [.int i] = some (some i) := nrfl rfl
@[simp] theorem kRev_ok : kRev (.ok d st) = ofO (revop (der st d)) st := nrfl rfl
@[simp] theorem kCall_ok : kCall T x (.ok ys st) = callT T x ys st := nrfl rfl
@[simp] theorem kCall_exc (q : String) : kCall T x (.exc q st) = .exc q st := nrfl rfl
@[simp] theorem kBlt_ok : kBlt x (.ok ys st) = ofO (bltin x (ys.map (rd st))) st := nrfl rfl
@[simp] theorem kLrng_ok : kLrng (.ok ys st) = lrngR ys st := nrfl rfl
@[simp] theorem kSst_ok : kSst (.ok d st) = sstR (rd st d) st := nrfl rfl
@[simp] theorem kIsi_ok : kIsi ts (.ok d st) = isiR ts (der st d) st := nrfl rfl
@[simp] theorem isiR_1 (t : String) : isiR [t] d st = ofB (isTy d t) st := nrfl rfl
@[simp] theorem kApp1_ok : kApp1 T env b (.ok d st) = kApp2 T env b d (cellOf st d) st := nrfl rfl
@[simp] theorem kApp2_ok (q : Nat × List D) : kApp2 T env b d (some q) st = kApp3 d (evE T b env st) := nrfl rfl
@[simp] theorem kApp3_ok : kApp3 d (.ok y st) = appC st d y := nrfl rfl
@[simp] theorem kExt1_ok : kExt1 T env b (.ok d st) = kExt2 T env b d (cellOf st d) st := nrfl rfl
@[simp] theorem kExt2_ok (q : Nat × List D) : kExt2 T env b d (some q) st = kExt3 d (evE T b env st) := nrfl rfl
@[simp] theorem kExt3_ok : kExt3 d (.ok y st) = extC st d y := nrfl rfl
@[simp] theorem kOne_ok : kOne (.ok d st) = .ok [d] st := nrfl rfl
@[simp] theorem kElt_t : kElt T env e (.ok true st) = kOne (evE T e env st) := nrfl rfl
@[simp] theorem kElt_f : kElt T env e (.ok false st) = .ok [] st := nrfl rfl
@[simp] theorem kLc1_ok : kLc1 T env e tg k ifs own (.ok ys st) = kLc2 T env e tg ifs own ys (iter k (ys.map (rd st))) st := nrfl rfl
@[simp] theorem kLc2_ok (xs : List D) : kLc2 T env e tg ifs own ys (some xs) st = kLst (lcL st ys (lcT T (wipeE env own) e tg ifs) xs st) := nrfl rfl
@[simp] theorem kIn1_ok : kIn1 T env e tg1 k1 ifs1 own1 (.ok ys st) = kIn2 T env e tg1 ifs1 own1 ys (iter k1 (ys.map (rd st))) st := nrfl rfl
@[simp] theorem kIn2_ok (xs : List D) : kIn2 T env e tg1 ifs1 own1 ys (some xs) st = lcL st ys (lcT T (wipeE env own1) e tg1 ifs1) xs st := nrfl rfl
@[simp] theorem kOut_t : kOut T env e tg1 k1 its1 ifs1 own1 (.ok true st) = kIn1 T env e tg1 k1 ifs1 own1 (evEs T its1 env st) := nrfl rfl
@[simp] theorem kOut_f : kOut T env e tg1 k1 its1 ifs1 own1 (.ok false st) = .ok [] st := nrfl rfl
@[simp] theorem kLd1_ok : kLd1 T env e tg k ifs tg1 k1 its1 ifs1 own own1 (.ok ys st) = kLd2 T env e tg ifs tg1 k1 its1 ifs1 own own1 ys (iter k (ys.map (rd st))) st := nrfl rfl
@[simp] theorem kLd2_ok (xs : List D) : kLd2 T env e tg ifs tg1 k1 its1 ifs1 own own1 ys (some xs) st = limited (lcL st ys (lcT2 T (wipeE env own) e tg ifs tg1 k1 its1 ifs1 own1) xs st) := nrfl rfl
@[simp] theorem kEs1_ok : kEs1 T env as (.ok d st) = kEs2 d (evEs T as env st) := nrfl rfl
@[simp] theorem kEs1_exc (q : String) : kEs1 T env as (.exc q st) = .exc q st := nrfl rfl
@[simp] theorem kEs2_ok : kEs2 d (.ok ys st) = .ok (d :: ys) st := nrfl rfl
@[simp] theorem kTst_ok : kTst (.ok (.bl p) st) = .ok p st := nrfl rfl
end
/-! ### statements -/
section
variable (T : Tab) (env : Env)
def kAsg (i : Nat) (r : R D) : R Out := r.bind fun d st => .ok (.next (env.set i (some d))) st
def kPar2 (i j : Nat) (x : D) (r : R D) : R Out := r.bind fun y st => .ok (.next ((env.set i (some x)).set j (some y))) st
def kPar1 (i j : Nat) (b : E) (r : R D) : R Out := r.bind fun x st => kPar2 env i j x (evE T b env st)
def kUnp3 (o : Option Env) (st : Store) : R Out := match o with
  | some env1 => .ok (.next env1) st
  | none => .stuck
def kUnp2 (is : List Nat) (d : D) (st : Store) : R Out := match d with
  | .tup ds => kUnp3 (asgs is ds env) st
  | .lst ds => kUnp3 (asgs is ds env) st
  | _ => .stuck
def kUnp (is : List Nat) (r : R D) : R Out := r.bind fun d st => kUnp2 env is (der st d) st
def kSet4 (r : R Unit) : R Out := r.bind fun _ st => .ok (.next env) st
def kSet3 (d x : D) (r : R D) : R Out := r.bind fun y st => kSet4 env (setC st x y d)
def kSet2 (i : E) (d : D) (r : R D) : R Out := r.bind fun x st => kSet3 env d x (evE T i env st)
def kSet1 (o i : E) (r : R D) : R Out := r.bind fun d st => kSet2 T env i d (evE T o env st)
def kExpr (r : R D) : R Out := r.bind fun _ st => .ok (.next env) st
def kRet (r : R D) : R Out := r.bind fun d st => .ok (.ret d) st
def kIf (a b : List S) (r : R D) : R Out := r.bind fun x st => onBl x (evSs T a env st) (evSs T b env st)
def forG (body : List S) (o : Option Env) (st : Store) : R Out := match o with
  | none => .stuck
  | some env1 => evSs T body env1 st
def forT (tg : Tg) (body : List S) (x : D) (env : Env) (st : Store) : R Out := forG T body (asgT tg env x) st
def kFor2 (tg : Tg) (body : List S) (ds : List D) (o : Option (List D)) (st : Store) : R Out := match o with
  | none => .stuck
  | some xs => forL st ds (forT T tg body) xs env st
def kFor1 (tg : Tg) (k : IK) (body : List S) (r : R (List D)) : R Out := r.bind fun ds st => kFor2 T env tg body ds (iter k (ds.map (rd st))) st
def whC (c : E) (env : Env) (st : Store) : R D := evE T c env st
def whB (b : List S) (env : Env) (st : Store) : R Out := evSs T b env st
def kSeq (r : List S) (o : R Out) : R Out := o.bind fun o st => match o with
  | .ret d => .ok (.ret d) st
  | .next env1 => evSs T r env1 st
end
section
variable (i j : Nat) (is : List Nat) (a b e : E) (s t : List S) (tg : Tg) (k : IK) (its : List E) (d y : D) (env1 : Env) (ds xs : List D) (q : String) (n : Nat)
@[simp] theorem x_asg : evS T (.asg i a) env st = kAsg env i (evE T a env st) := by rw [evS]; rfl
@[simp] theorem x_par : evS T (.par i j a b) env st = kPar1 T env i j b (evE T a env st) := by rw [evS]; rfl
@[simp] theorem x_unp : evS T (.unp is a) env st = kUnp env is (evE T a env st) := by
  rw [evS]
  unfold kUnp kUnp2 kUnp3
  rfl
@[simp] theorem x_set : evS T (.set a b e) env st = kSet1 T env a b (evE T e env st) := by rw [evS]; rfl
@[simp] theorem x_expr : evS T (.expr a) env st = kExpr env (evE T a env st) := by rw [evS]; rfl
@[simp] theorem x_ret : evS T (.ret a) env st = kRet (evE T a env st) := by rw [evS]; rfl
@[simp] theorem x_pass : evS T .pass env st = .ok (.next env) st := by rw [evS]
@[simp] theorem x_raise : evS T (.raise q) env st = .exc q st := by rw [evS]
@[simp] theorem x_if : evS T (.ite a s t) env st = kIf T env s t (evE T a env st) := by rw [evS]; rfl
@[simp] theorem x_for : evS T (.for_ tg k its s) env st = kFor1 T env tg k s (evEs T its env st) := by
  rw [evS]
  have e : (fun x env st => match asgT tg env x with
        | none => .stuck
        | some env1 => evSs T s env1 st) = forT T tg s := by
    funext x env st
    unfold forT forG
    cases asgT tg env x <;> rfl
  unfold kFor1 kFor2
  rw [← e]
  first | done | rfl
@[simp] theorem x_whl : evS T (.whl n a s) env st = whlL (whC T a) (whB T s) n env st := by rw [evS]; rfl
@[simp] theorem xs_0 : evSs T [] env st = .ok (.next env) st := by rw [evSs]
@[simp] theorem xs_1 (u : S) : evSs T (u :: s) env st = kSeq T s (evS T u env st) := by rw [evSs]; rfl
@[simp] theorem kAsg_ok : kAsg env i (.ok d st) = .ok (.next (env.set i (some d))) st := nrfl rfl
@[simp] theorem kAsg_exc : kAsg env i (.exc q st) = .exc q st := nrfl rfl
@[simp] theorem kPar1_ok : kPar1 T env i j b (.ok d st) = kPar2 env i j d (evE T b env st) := nrfl rfl
@[simp] theorem kPar2_ok : kPar2 env i j d (.ok y st) = .ok (.next ((env.set i (some d)).set j (some y))) st := nrfl rfl
@[simp] theorem kUnp_ok : kUnp env is (.ok d st) = kUnp2 env is (der st d) st := nrfl rfl
@[simp] theorem kUnp2_l : kUnp2 env is (.lst ds) st = kUnp3 (asgs is ds env) st := nrfl rfl
@[simp] theorem kUnp2_ok : kUnp2 env is (.tup ds) st = kUnp3 (asgs is ds env) st := nrfl rfl
@[simp] theorem kUnp3_ok : kUnp3 (some env1) st = .ok (.next env1) st := nrfl rfl
@[simp] theorem kSet1_ok : kSet1 T env a b (.ok d st) = kSet2 T env b d (evE T a env st) := nrfl rfl
@[simp] theorem kSet2_ok : kSet2 T env b d (.ok y st) = kSet3 env d y (evE T b env st) := nrfl rfl
@[simp] theorem kSet3_ok (x : D) : kSet3 env d x (.ok y st) = kSet4 env (setC st x y d) := nrfl rfl
@[simp] theorem kSet4_ok (u : Unit) : kSet4 env (.ok u st) = .ok (.next env) st := nrfl rfl
@[simp] theorem kExpr_ok : kExpr env (.ok d st) = .ok (.next env) st := nrfl rfl
@[simp] theorem kExpr_exc : kExpr env (.exc q st) = .exc q st := nrfl rfl
@[simp] theorem kRet_ok : kRet (.ok d st) = .ok (.ret d) st := nrfl rfl
@[simp] theorem kRet_exc : kRet (.exc q st) = .exc q st := nrfl rfl
@[simp] theorem kIf_t : kIf T env s t (.ok (.bl true) st) = evSs T s env st := nrfl rfl
@[simp] theorem kIf_f : kIf T env s t (.ok (.bl false) st) = evSs T t env st := nrfl rfl
@[simp] theorem kFor1_ok : kFor1 T env tg k s (.ok ds st) = kFor2 T env tg s ds (iter k (ds.map (rd st))) st := nrfl rfl
@[simp] theorem kFor2_ok : kFor2 T env tg s ds (some xs) st = forL st ds (forT T tg s) xs env st := nrfl rfl
@[simp] theorem forT_eq : forT T tg s d env st = forG T s (asgT tg env d) st := nrfl rfl
@[simp] theorem forG_ok : forG T s (some env1) st = evSs T s env1 st := nrfl rfl
@[simp] theorem whC_eq : whC T a env st = evE T a env st := nrfl rfl
@[simp] theorem whB_eq : whB T s env st = evSs T s env st := nrfl rfl
@[simp] theorem kSeq_n : kSeq T s (.ok (.next env1) st) = evSs T s env1 st := nrfl rfl
@[simp] theorem kSeq_r : kSeq T s (.ok (.ret d) st) = .ok (.ret d) st := nrfl rfl
@[simp] theorem kSeq_exc : kSeq T s (.exc q st) = .exc q st := nrfl rfl
@[simp] theorem asgT_nm : asgT (.nm i) env d = some (env.set i (some d)) := nrfl rfl
@[simp] theorem asgT_tp : asgT (.tp is) env (.tup ds) = asgs is ds env := nrfl rfl
@[simp] theorem asgs_nil : asgs [] [] env = some env := nrfl rfl
@[simp] theorem asgs_cons : asgs (i :: is) (d :: ds) env = asgs is ds (env.set i (some d)) := nrfl rfl
@[simp] theorem wipe_nil : wipeE env [] = env := nrfl rfl
@[simp] theorem wipe_cons : wipeE env (i :: is) = (wipeE env is).set i none := nrfl rfl
@[simp] theorem it_t : iter .seq [.tup xs] = some xs := nrfl rfl
@[simp] theorem it_l : iter .seq [.lst xs] = some xs := nrfl rfl
@[simp] theorem it_zt : iter .zip2 [.tup xs, .tup ds] = some (zipD xs ds) := nrfl rfl
@[simp] theorem it_zl : iter .zip2 [.lst xs, .lst ds] = some (zipD xs ds) := nrfl rfl
@[simp] theorem it_et : iter .enum [.tup xs] = some (enumD 0 xs) := nrfl rfl
@[simp] theorem it_el : iter .enum [.lst xs] = some (enumD 0 xs) := nrfl rfl
theorem it_r1 {j : Int} (h : -1000000 ≤ j ∧ j ≤ 1000000) : iter .rng1 [.int j] = some (rngD 0 j.toNat) := if_pos h
theorem it_r2 {i j : Int} (h : -1000000 ≤ i ∧ i ≤ 1000000 ∧ -1000000 ≤ j ∧ j ≤ 1000000) : iter .rng2 [.int i, .int j] = some (rngD i (j - i).toNat) := if_pos h
end
end TW
/-! TwPure: reading runs of the language. -/
namespace TW
open PySem (Str Operator CmpOp)
def Ok {α : Type} (r : R α) (P : α → Store → Prop) : Prop := ∃ a st, r = .ok a st ∧ P a st
theorem Ok.bind {α β : Type} {r : R α} {f : α → Store → R β} {Q : α → Store → Prop} {P : β → Store → Prop} (h : Ok r Q) (k : ∀ a st, Q a st → Ok (f a st) P) : Ok (r.bind f) P := by
  obtain ⟨a, st, rfl, q⟩ := h
  exact k a st q
theorem Ok.mono {α : Type} {r : R α} {Q P : α → Store → Prop} (h : Ok r Q) (k : ∀ a st, Q a st → P a st) : Ok r P := by
  obtain ⟨a, st, e, q⟩ := h
  exact ⟨a, st, e, k a st q⟩
theorem Ok.ok {α : Type} {a : α} {st : Store} {P : α → Store → Prop} (h : P a st) : Ok (.ok a st) P := ⟨a, st, rfl, h⟩
theorem Ok.eq {α : Type} {r : R α} {a : α} {st : Store} {P : α → Store → Prop} (e : r = .ok a st) (h : P a st) : Ok r P := ⟨a, st, e, h⟩
/-! ### builtins -/
@[simp] theorem b_len_t (xs : List D) : bltin "len" [.tup xs] = some (.int xs.length) := nrfl rfl
@[simp] theorem b_len_l (xs : List D) : bltin "len" [.lst xs] = some (.int xs.length) := nrfl rfl
@[simp] theorem b_tup_l (xs : List D) : bltin "tuple" [.lst xs] = some (.tup xs) := nrfl rfl
@[simp] theorem b_tup_t (xs : List D) : bltin "tuple" [.tup xs] = some (.tup xs) := nrfl rfl
@[simp] theorem b_list_l (xs : List D) : bltin "list" [.lst xs] = some (.lst xs) := nrfl rfl
@[simp] theorem b_list_t (xs : List D) : bltin "list" [.tup xs] = some (.lst xs) := nrfl rfl
@[simp] theorem b_abs (i : Int) : bltin "abs" [.int i] = some (.int (if i < 0 then -i else i)) := nrfl rfl
@[simp] theorem b_min2 (i j : Int) : bltin "min" [.int i, .int j] = some (.int (if j < i then j else i)) := nrfl rfl
@[simp] theorem b_max2 (i j : Int) : bltin "max" [.int i, .int j] = some (.int (if j > i then j else i)) := nrfl rfl
@[simp] theorem b_all (xs : List D) : bltin "all" [.lst xs] = (toBls xs).map fun bs => .bl (bs.all id) := nrfl rfl
@[simp] theorem b_any (xs : List D) : bltin "any" [.lst xs] = (toBls xs).map fun bs => .bl (bs.any id) := nrfl rfl
@[simp] theorem b_sum_l (xs : List D) : bltin "sum" [.lst xs] = (toInts xs).map fun ns => .int ns.sum := nrfl rfl
@[simp] theorem b_sum_t (xs : List D) : bltin "sum" [.tup xs] = (toInts xs).map fun ns => .int ns.sum := nrfl rfl
@[simp] theorem b_max_l (xs : List D) : bltin "max" [.lst xs] = (toInts xs).bind fun ns => (maxI ns).map .int := nrfl rfl
/-! ### operators -/
@[simp] theorem o_add (i j : Int) : binop .Add (.int i) (.int j) = some (.int (i + j)) := nrfl rfl
@[simp] theorem o_sub (i j : Int) : binop .Sub (.int i) (.int j) = some (.int (i - j)) := nrfl rfl
theorem o_mul {i j : Int} (h : -(2 ^ 64) < j ∧ j < 2 ^ 64) : binop .Mult (.int i) (.int j) = some (.int (i * j)) := if_pos (.inr h)
theorem o_mul' {i j : Int} (h : -(2 ^ 64) < i ∧ i < 2 ^ 64) : binop .Mult (.int i) (.int j) = some (.int (i * j)) := if_pos (.inl h)
theorem o_div {i j : Int} (h : 0 < j ∧ j < 1073741824) : binop .FloorDiv (.int i) (.int j) = some (.int (i / j)) := if_pos h
theorem o_mod {i j : Int} (h : 0 < j) : binop .Mod (.int i) (.int j) = some (.int (i % j)) := if_pos h
theorem o_pow {i j : Int} (h : 0 ≤ j ∧ j ≤ 1000000 ∧ i.natAbs < 2 ^ 64) : binop .Pow (.int i) (.int j) = some (.int (i ^ j.toNat)) := if_pos h
@[simp] theorem c_lt (i j : Int) : cmpop .Lt (.int i) (.int j) = some (decide (i < j)) := nrfl rfl
@[simp] theorem c_gt (i j : Int) : cmpop .Gt (.int i) (.int j) = some (decide (j < i)) := nrfl rfl
@[simp] theorem c_le (i j : Int) : cmpop .LtE (.int i) (.int j) = some (decide (i ≤ j)) := nrfl rfl
@[simp] theorem c_ge (i j : Int) : cmpop .GtE (.int i) (.int j) = some (decide (j ≤ i)) := nrfl rfl
@[simp] theorem c_eq (i j : Int) : cmpop .Eq (.int i) (.int j) = some (i == j) := nrfl rfl
@[simp] theorem c_ne (i j : Int) : cmpop .NotEq (.int i) (.int j) = some (!(i == j)) := nrfl rfl
@[simp] theorem c_isN (d : D) : cmpop .Is d .non = some (match d with | .non => true | _ => false) := nrfl rfl
@[simp] theorem c_isB (a b : Bool) : cmpop .Is (.bl a) (.bl b) = some (decide (a = b)) := nrfl rfl
@[simp] theorem c_isnN (d : D) : cmpop .IsNot d .non = some (!(match d with | .non => true | _ => false)) := nrfl rfl
@[simp] theorem c_isnB (a b : Bool) : cmpop .IsNot (.bl a) (.bl b) = some (!(decide (a = b))) := nrfl rfl
@[simp] theorem c_eqB (a b : Bool) : cmpop .Eq (.bl a) (.bl b) = some (a == b) := nrfl rfl
@[simp] theorem c_neB (a b : Bool) : cmpop .NotEq (.bl a) (.bl b) = some (!(a == b)) := nrfl rfl
/-! ### typed data -/
def intsD (xs : List Int) : D := .tup (xs.map .int)
structure Chan where
  bars : List (List Int)
  legs : List Int
  waits : List Int
def chD (c : Chan) : D := .tup [.tup (c.bars.map intsD), intsD c.legs, intsD c.waits]
structure WF (c : Chan) : Prop where
  n1 : 1 ≤ c.bars.length
  n3 : c.bars.length ≤ 3
  bar : ∀ b ∈ c.bars, 1 ≤ b.length ∧ b.length ≤ 8 ∧ ∀ x ∈ b, 0 ≤ x ∧ x ≤ 6
  nl : c.legs.length + 1 = c.bars.length
  leg : ∀ x ∈ c.legs, 1 ≤ x ∧ x ≤ 9
  nw : c.waits.length + 1 = c.bars.length
  wait : ∀ x ∈ c.waits, 0 ≤ x ∧ x ≤ 3
theorem under_ints (k : Nat) : ∀ xs : List Int, D.underL k (xs.map .int) = true
  | [] => rfl
  | x :: xs => by simp [D.underL, D.under, under_ints k xs]
@[simp] theorem under_intsD (k : Nat) (xs : List Int) : D.under k (intsD xs) = true := by simp [intsD, D.under, under_ints]
theorem under_map {α : Type} (k : Nat) (f : α → D) (h : ∀ a, D.under k (f a) = true) : ∀ xs : List α, D.underL k (xs.map f) = true
  | [] => rfl
  | x :: xs => by simp [D.underL, h x, under_map k f h xs]
@[simp] theorem under_chD (k : Nat) (c : Chan) : D.under k (chD c) = true := by
  simp [chD, D.under, D.underL, under_map k intsD (fun a => under_intsD k a)]
/-! ### defs -/
@[simp] theorem frz_non (k : Nat) (st : Store) : frz k st .non = some .non := nrfl rfl
@[simp] theorem frz_bl (k : Nat) (st : Store) (b : Bool) : frz k st (.bl b) = some (.bl b) := nrfl rfl
@[simp] theorem frz_int (k : Nat) (st : Store) (i : Int) : frz k st (.int i) = some (.int i) := nrfl rfl
theorem frz_tup (k : Nat) (st : Store) (xs : List D) (h : D.underL k xs = true) : frz k st (.tup xs) = some (.tup xs) := by simp [frz, D.under, h]
theorem frz_lst (k : Nat) (st : Store) (xs : List D) (h : D.underL k xs = true) : frz k st (.lst xs) = some (.lst xs) := by simp [frz, D.under, h]
@[simp] theorem frz_intsD (k : Nat) (st : Store) (xs : List Int) : frz k st (intsD xs) = some (intsD xs) := frz_tup k st _ (under_ints k xs)
@[simp] theorem frz_chD (k : Nat) (st : Store) (c : Chan) : frz k st (chD c) = some (chD c) := frz_tup k st _ (by have := under_chD k c; simpa [chD, D.under] using this)
@[simp] theorem sameOld_refl {α : Type} (st : Store) (r : R α) : sameOld st st r = r := by unfold sameOld; rw [List.take_length, sameSt_refl]; rfl
@[simp] theorem leave_f_ret (st : Store) (d : D) : leave false st (.ok (.ret d) st) = ofO (frz st.length st d) st := by
  show sameOld st st (ofO (frz st.length st d) st) = _
  rw [sameOld_refl]
@[simp] theorem leave_f_next (st : Store) (env : Env) : leave false st (.ok (.next env) st) = .ok .non st := by
  show sameOld st st (ofO (frz st.length st .non) st) = _
  rw [sameOld_refl]
  rfl
@[simp] theorem leave_f_exc (st : Store) (c : String) : leave false st (.exc c st) = .exc c st := by
  show sameOld st st (.exc c st) = _
  rw [sameOld_refl]
@[simp] theorem leave_t_ret (st st' : Store) (d : D) : leave true st (.ok (.ret d) st') = .ok d st' := nrfl rfl
@[simp] theorem pick_nat {α : Type} (xs : List α) (n : Nat) : pick xs (n : Int) = xs[n]? := by simp [pick]
@[simp] theorem pick_0 {α : Type} (xs : List α) : pick xs 0 = xs[0]? := by simp [pick]
@[simp] theorem pick_1 {α : Type} (xs : List α) : pick xs 1 = xs[1]? := by simp [pick]
@[simp] theorem pick_2 {α : Type} (xs : List α) : pick xs 2 = xs[2]? := by simp [pick]
theorem pick_map {α β : Type} (f : α → β) (xs : List α) (k : Int) : pick (xs.map f) k = (pick xs k).map f := by
  simp only [pick, List.length_map, List.getElem?_map]
  split
  · rfl
  · split <;> rfl
theorem mod_idx {h : Int} {n : Nat} (hn : 1 ≤ n) : ∃ j : Nat, j < n ∧ h % (n : Int) = (j : Int) := by
  have h1 := Int.emod_nonneg h (show (n : Int) ≠ 0 by omega)
  have h2 := Int.emod_lt_of_pos h (show (0 : Int) < n by omega)
  exact ⟨(h % (n : Int)).toNat, by omega, by omega⟩
/-- the depth at an hour -/
def depB (b : List Int) (h : Int) : Int := b[(h % (b.length : Int)).toNat]?.getD 0
theorem depB_pick {b : List Int} {h : Int} (hb : 1 ≤ b.length) : pick b (h % (b.length : Int)) = some (depB b h) := by
  obtain ⟨j, h1, h2⟩ := mod_idx (h := h) hb
  rw [h2, pick_nat]
  unfold depB
  rw [h2, Int.toNat_natCast, List.getElem?_eq_getElem h1]
  rfl
variable {T : Tab} {st : Store}
theorem r_depth_of {c : Chan} {b : Nat} {bar : List Int} {h : Int} (hb : c.bars[b]? = some bar) (h1 : 1 ≤ bar.length) : runDef T d_depth_of [chD c, .int b, .int h] st = .ok (.int (depB bar h)) st := by
  have hm : (0 : Int) < (bar.length : Int) := by omega
  simp [runDef, d_depth_of, chD, idxop, hb, o_mod hm, pick_map, depB_pick h1, intsD]
end TW
/-! TwPure2: loops; the channel's defs. -/
namespace TW
open PySem (Str Operator CmpOp)
theorem chk_same {α : Type} (st : Store) (ds : List D) (r : R α) : chk st ds st r = r := by
  unfold chk
  rw [if_pos]
  refine List.all_eq_true.mpr fun d _ => ?_
  cases d <;> first | rfl | exact D.same_refl _
theorem lcL_pure {α : Type} (F : α → D) (g : α → List D) {st : Store} {ds : List D} {f : D → Store → R (List D)} : ∀ {as : List α}, (∀ a ∈ as, f (F a) st = .ok (g a) st) → lcL st ds f (as.map F) st = .ok (as.flatMap g) st
  | [], _ => rfl
  | a :: as, h => by
    rw [List.map_cons, lcL, h a List.mem_cons_self, R.bind_ok, chk_same, lcL_pure F g (as := as) fun b hb => h b (List.mem_cons_of_mem _ hb), R.bind_ok, List.flatMap_cons]
theorem lcL_map {α : Type} (F : α → D) (g : α → D) {st : Store} {ds : List D} {f : D → Store → R (List D)} {as : List α} (h : ∀ a ∈ as, f (F a) st = .ok [g a] st) : lcL st ds f (as.map F) st = .ok (as.map g) st := by
  rw [lcL_pure F (fun a => [g a]) h]
  congr 1
  induction as with
  | nil => rfl
  | cons a as ih => rw [List.flatMap_cons, ih fun b hb => h b (List.mem_cons_of_mem _ hb)]; rfl
/-- a for that goes through -/
theorem forL_all {α : Type} (F : α → D) {st : Store} {ds : List D} {f : D → Env → Store → R Out} (E : List α → Env) : ∀ {as : List α} {pre : List α}, (∀ (l : List α) (a : α) (r : List α), pre ++ as = l ++ a :: r → pre.length ≤ l.length → f (F a) (E l) st = .ok (.next (E (l ++ [a]))) st) → forL st ds f (as.map F) (E pre) st = .ok (.next (E (pre ++ as))) st
  | [], pre, _ => by rw [List.append_nil]; rfl
  | a :: as, pre, h => by
    rw [List.map_cons, forL, h pre a as rfl (Nat.le_refl _), R.bind_ok]
    show chk st ds st _ = _
    rw [chk_same, forL_all F E (as := as) (pre := pre ++ [a]) fun l b r e hl => h l b r (by rw [← e]; simp) (by simp at hl; omega)]
    simp
theorem forL_run {α : Type} (F : α → D) (E : List α → Env) {st : Store} {ds : List D} {f : D → Env → Store → R Out} {env : Env} {as : List α} (hE : E [] = env) (h : ∀ (l : List α) (a : α) (r : List α), as = l ++ a :: r → f (F a) (E l) st = .ok (.next (E (l ++ [a]))) st) : forL st ds f (as.map F) env st = .ok (.next (E as)) st := by
  subst hE
  have := forL_all (st := st) (ds := ds) (f := f) F E (as := as) (pre := []) fun l a r e _ => h l a r e
  simpa using this
theorem toBls_map {α : Type} (p : α → Bool) : ∀ xs : List α, toBls (xs.map fun a => .bl (p a)) = some (xs.map p)
  | [] => rfl
  | x :: xs => by simp [toBls, toBls_map p xs]
theorem toInts_map : ∀ xs : List Int, toInts (xs.map .int) = some xs
  | [] => rfl
  | x :: xs => by simp [toInts, toInts_map xs]
/-! ### between -/
def S_between (f : Fn) : Prop := ∀ (v lo hi : Int) (st : Store), f [.int v, .int lo, .int hi] st = .ok (.bl (decide (lo ≤ v) && decide (v ≤ hi))) st
def S_are (f : Fn) : Prop := ∀ (xs : List Int) (n lo hi : Int) (st : Store), f [intsD xs, .int n, .int lo, .int hi] st = .ok (.bl (decide ((xs.length : Int) = n) && xs.all fun v => decide (lo ≤ v) && decide (v ≤ hi))) st
variable {T : Tab}
theorem r_between : S_between (runDef T d_is_between) := by
  intro v lo hi st
  by_cases h : lo ≤ v <;> simp [runDef, d_is_between, isTy, h]
theorem r_are (h : S_between (callT T "is_between")) : S_are (runDef T d_are_between) := by
  intro xs n lo hi st
  by_cases hl : (xs.length : Int) = n
  · have e : ∀ (f : D → Store → R (List D)) (ds : List D), (∀ v ∈ xs, f (.int v) st = .ok [.bl (decide (lo ≤ v) && decide (v ≤ hi))] st) → lcL st ds f (xs.map .int) st = .ok (xs.map fun v => .bl (decide (lo ≤ v) && decide (v ≤ hi))) st := fun f ds q => lcL_map .int _ q
    simp [runDef, d_are_between, isTy, intsD, hl]
    rw [e _ _ fun v hv => by simp [h v lo hi st]]
    simp [toBls_map, Function.comp_def]
  · have hl' : ((xs.length : Int) == n) = false := by simpa using hl
    simp [runDef, d_are_between, isTy, intsD, hl']
    simp [hl]
/-! ### checks -/
def S_isch (f : Fn) : Prop := ∀ (c : Chan) (st : Store), WF c → f [chD c] st = .ok (.bl true) st
def S_chk (f : Fn) : Prop := ∀ (c : Chan) (st : Store), WF c → f [chD c] st = .ok .non st
def S_chkR (lo hi : Int) (f : Fn) : Prop := ∀ (v : Int) (st : Store), lo ≤ v → v ≤ hi → f [.int v] st = .ok .non st
def S_chkB (f : Fn) : Prop := ∀ (c : Chan) (v : Int) (st : Store), 0 ≤ v → v < c.bars.length → f [chD c, .int v] st = .ok .non st
theorem r_isch (h : S_are (callT T "are_between")) : S_isch (runDef T d_is_channel) := by
  intro c st w
  have h1 := w.n1
  have h3 := w.n3
  have l1 : ((c.legs.length : Int) = (c.bars.length : Int) - 1) := by have := w.nl; omega
  have l2 : ((c.waits.length : Int) = (c.bars.length : Int) - 1) := by have := w.nw; omega
  have a1 : (c.legs.all fun v => decide (1 ≤ v) && decide (v ≤ 9)) = true := by simpa using w.leg
  have a2 : (c.waits.all fun v => decide (0 ≤ v) && decide (v ≤ 3)) = true := by simpa using w.wait
  have n1 : (1 : Int) ≤ (c.bars.length : Int) := by omega
  have n3 : (c.bars.length : Int) ≤ 3 := by omega
  have hl := h c.legs (c.bars.length - 1) 1 9 st
  have hw := h c.waits (c.bars.length - 1) 0 3 st
  rw [a1, decide_eq_true l1] at hl
  rw [a2, decide_eq_true l2] at hw
  simp [runDef, d_is_channel, isTy, chD, n1, n3]
  rw [forL_run intsD (fun l => [some (chD c), some (D.tup (c.bars.map intsD)), some (intsD c.legs), some (intsD c.waits), l.getLast?.map intsD]) ?hE ?h]
  case hE => rfl
  case h =>
    intro l b r e
    have hb : b ∈ c.bars := by rw [e]; simp
    obtain ⟨b1, b2, b3⟩ := w.bar b hb
    have e1 : ((1 : Int) ≤ (b.length : Int)) := by omega
    have e2 : ((b.length : Int) ≤ 8) := by omega
    have e3 : (b.all fun v => decide (0 ≤ v) && decide (v ≤ 6)) = true := by simpa using b3
    have hb := h b b.length 0 6 st
    rw [e3] at hb
    simp only [intsD] at hb
    simp [asgT, isTy, intsD, e1, e2, hb]
  simp [hl, hw]
theorem r_chk (h : S_isch (callT T "is_channel")) : S_chk (runDef T d_check_channel) := by
  intro c st w
  simp [runDef, d_check_channel, h c st w]
theorem r_chkD (h : S_between (callT T "is_between")) : S_chkR 0 6 (runDef T d_check_draught) := by
  intro v st h1 h2
  simp [runDef, d_check_draught, h v 0 6 st, h1, h2]
theorem r_chkH (h : S_between (callT T "is_between")) : S_chkR 0 999 (runDef T d_check_hour) := by
  intro v st h1 h2
  simp [runDef, d_check_hour, h v 0 999 st, h1, h2]
theorem r_chkB (h : S_between (callT T "is_between")) : S_chkB (runDef T d_check_bar) := by
  intro c v st h1 h2
  have e := h v 0 (c.bars.length - 1) st
  rw [decide_eq_true h1, decide_eq_true (by omega)] at e
  simp [runDef, d_check_bar, chD, idxop, e]
/-! ### the period -/
def S_div (f : Fn) : Prop := ∀ (a b : Nat) (st : Store), b < 100000 → f [.int a, .int b] st = .ok (.int (Nat.gcd a b)) st
theorem whl_div {st : Store} : ∀ (n a b : Nat), b < n → whlL (whC T (.cmp .NotEq (.var 1) (.cst (.int 0)))) (whB T [.par 0 1 (.var 1) (.bin .Mod (.var 0) (.var 1))]) n [some (.int a), some (.int b)] st = .ok (.next [some (.int (Nat.gcd a b)), some (.int 0)]) st
  | 0, _, _, h => by omega
  | n + 1, a, b, h => by
    rw [whlL]
    by_cases hb : b = 0
    · subst hb
      simp
    · have hb' : ((b : Int) == 0) = false := by simp; omega
      have hp : (0 : Int) < (b : Int) := by omega
      have ih := whl_div (st := st) n b (a % b) (by have := Nat.mod_lt a (Nat.pos_of_ne_zero hb); omega)
      simp [hb', o_mod hp]
      rw [show ((a : Int) % (b : Int)) = ((a % b : Nat) : Int) from rfl, ih]
      rw [Nat.gcd_comm a b, Nat.gcd_rec b a, Nat.gcd_comm (a % b) b]
theorem r_div : S_div (runDef T d_divisor) := by
  intro a b st h
  simp [runDef, d_divisor]
  rw [whl_div 100000 a b h]
  simp
def perC (c : Chan) : Nat := (c.bars.map List.length).foldl Nat.lcm 1
def S_per (f : Fn) : Prop := ∀ (c : Chan) (st : Store), WF c → f [chD c] st = .ok (.int (perC c)) st
theorem r_perOf (h : S_div (callT T "divisor")) : S_per (runDef T d_period_of) := by
  intro c st w
  simp [runDef, d_period_of, chD, idxop]
  rw [forL_run intsD (fun l => [some (chD c), some (.int ((l.map List.length).foldl Nat.lcm 1 : Nat)), l.getLast?.map intsD]) ?hE ?h]
  case hE => rfl
  case h =>
    intro l b r e
    have hb : b ∈ c.bars := by rw [e]; simp
    obtain ⟨b1, b2, b3⟩ := w.bar b hb
    have hd := h ((l.map List.length).foldl Nat.lcm 1) b.length st (by omega)
    have hm : -(2 ^ 64) < (b.length : Int) ∧ (b.length : Int) < 2 ^ 64 := by omega
    have hg : 0 < Nat.gcd ((l.map List.length).foldl Nat.lcm 1) b.length := Nat.gcd_pos_of_pos_right _ (by omega)
    have hg2 : Nat.gcd ((l.map List.length).foldl Nat.lcm 1) b.length ≤ b.length := Nat.gcd_le_right _ (by omega)
    have hq : 0 < ((Nat.gcd ((l.map List.length).foldl Nat.lcm 1) b.length : Nat) : Int) ∧ ((Nat.gcd ((l.map List.length).foldl Nat.lcm 1) b.length : Nat) : Int) < 1073741824 := by omega
    simp [intsD, o_mul hm, hd, o_div hq]
    unfold Nat.lcm
    rw [Int.natCast_ediv, Int.natCast_mul]
  simp [perC]
end TW
/-! TwPure3: the channel's defs, second part; what a law draws. -/
namespace TW
open PySem (Str Operator CmpOp)
variable {T : Tab}
/-! ### equality of data -/
theorem good_ints (n : Nat) (xs : List Int) : (xs.map D.int).all (D.good n) = true := by
  simp only [List.all_map, List.all_eq_true]
  intro x _
  cases n <;> rfl
theorem good_intsD (n : Nat) (xs : List Int) : D.good (n + 1) (intsD xs) = true := by
  show (xs.map D.int).all (D.good n) = true
  exact good_ints n xs
theorem good_map {α : Type} (n : Nat) (f : α → D) (h : ∀ a, D.good n (f a) = true) (xs : List α) : (xs.map f).all (D.good n) = true := by
  simp only [List.all_map, List.all_eq_true]
  intro x _
  exact h x
theorem good_chD (n : Nat) (c : Chan) : D.good (n + 3) (chD c) = true := by
  show ([D.tup (c.bars.map intsD), intsD c.legs, intsD c.waits]).all (D.good (n + 2)) = true
  simp only [List.all_cons, List.all_nil, Bool.and_true, Bool.and_eq_true]
  exact ⟨good_map (n + 1) intsD (good_intsD n) c.bars, good_intsD _ _, good_intsD _ _⟩
mutual
theorem eqv_refl : ∀ (n : Nat) (d : D), D.good n d = true → D.eqv d d = true
  | _, .non, _ => rfl
  | _, .bl b, _ => by simp [D.eqv]
  | _, .int i, _ => by simp [D.eqv]
  | _, .str x, _ => by simp [D.eqv]
  | n + 1, .tup xs, h => by
    have h' : xs.all (D.good n) = true := h
    simp only [D.eqv]
    exact eqvL_refl n xs h'
  | n + 1, .lst xs, h => by
    have h' : xs.all (D.good n) = true := h
    simp only [D.eqv]
    exact eqvL_refl n xs h'
  | 0, .tup xs, h => by cases h
  | 0, .lst xs, h => by cases h
  | 0, .scr _, h => by cases h
  | 0, .ref _, h => by cases h
  | 0, .glb _, h => by cases h
  | 0, .exn _, h => by cases h
  | _ + 1, .scr _, h => by cases h
  | _ + 1, .ref _, h => by cases h
  | _ + 1, .glb _, h => by cases h
  | _ + 1, .exn _, h => by cases h
theorem eqvL_refl : ∀ (n : Nat) (ds : List D), ds.all (D.good n) = true → D.eqvL ds ds = true
  | _, [], _ => rfl
  | n, d :: ds, h => by
    rw [List.all_cons, Bool.and_eq_true] at h
    simp only [D.eqvL, eqv_refl n d h.1, eqvL_refl n ds h.2, Bool.and_self]
end
theorem eq_same {d : D} (h : D.good 8 d = true) : cmpop .Eq d d = some true := by simp [cmpop, h, eqv_refl 8 d h]
theorem ne_same {d : D} (h : D.good 8 d = true) : cmpop .NotEq d d = some false := by simp [cmpop, h, eqv_refl 8 d h]
@[simp] theorem eq_ch (c : Chan) : cmpop .Eq (chD c) (chD c) = some true := eq_same (good_chD 5 c)
@[simp] theorem ne_ch (c : Chan) : cmpop .NotEq (chD c) (chD c) = some false := ne_same (good_chD 5 c)
theorem eq_nil (xs : List D) (h : xs.all (D.good 7) = true) : cmpop .Eq (.lst xs) (.lst []) = some xs.isEmpty := by
  have h' : D.good 8 (.lst xs) = true := h
  have h2 : D.good 8 (.lst []) = true := rfl
  simp only [cmpop, h', h2]
  cases xs <;> rfl
theorem ne_nil (xs : List D) (h : xs.all (D.good 7) = true) : cmpop .NotEq (.lst xs) (.lst []) = some (!xs.isEmpty) := by
  have h' : D.good 8 (.lst xs) = true := h
  have h2 : D.good 8 (.lst []) = true := rfl
  simp only [cmpop, h', h2]
  cases xs <;> rfl
@[simp] theorem der_chD (st : Store) (c : Chan) : der st (chD c) = chD c := nrfl rfl
@[simp] theorem rd_chD (st : Store) (c : Chan) : rd st (chD c) = chD c := nrfl rfl
@[simp] theorem der_intsD (st : Store) (xs : List Int) : der st (intsD xs) = intsD xs := nrfl rfl
@[simp] theorem rd_intsD (st : Store) (xs : List Int) : rd st (intsD xs) = intsD xs := nrfl rfl
@[simp] theorem ix_ch0 (c : Chan) : idxop (chD c) (.int 0) = some (.tup (c.bars.map intsD)) := nrfl rfl
@[simp] theorem ix_ch1 (c : Chan) : idxop (chD c) (.int 1) = some (intsD c.legs) := nrfl rfl
@[simp] theorem ix_ch2 (c : Chan) : idxop (chD c) (.int 2) = some (intsD c.waits) := nrfl rfl
@[simp] theorem len_ints (xs : List Int) : bltin "len" [intsD xs] = some (.int xs.length) := by simp [intsD]
@[simp] theorem rev_ints (xs : List Int) : revop (intsD xs) = some (intsD xs.reverse) := by simp [intsD, revop]
@[simp] theorem rev_tup (xs : List D) : revop (.tup xs) = some (.tup xs.reverse) := nrfl rfl
theorem ix_ints (xs : List Int) (k : Int) : idxop (intsD xs) (.int k) = (pick xs k).map .int := by
  show pick (xs.map D.int) k = _
  rw [pick_map]
theorem ix_bars (bs : List (List Int)) (k : Int) : idxop (.tup (bs.map intsD)) (.int k) = (pick bs k).map intsD := by
  show pick (bs.map intsD) k = _
  rw [pick_map]
/-! ### defs on channels -/
def backC (c : Chan) : Chan := ⟨c.bars.reverse, c.legs.reverse, c.waits.reverse⟩
def shB (h : Int) (b : List Int) : List Int := (List.range b.length).map fun (k : Nat) => depB b ((k : Int) - h)
def shC (c : Chan) (h : Int) : Chan := ⟨c.bars.map (shB h), c.legs, c.waits⟩
theorem WF.back {c : Chan} (w : WF c) : WF (backC c) := ⟨by simp [backC, w.n1], by simp [backC, w.n3], fun b hb => w.bar b (by simpa [backC] using hb), by simp [backC, w.nl], fun x hx => w.leg x (by simpa [backC] using hx), by simp [backC, w.nw], fun x hx => w.wait x (by simpa [backC] using hx)⟩
theorem depB_mem {b : List Int} {h : Int} (hb : 1 ≤ b.length) : depB b h ∈ b := by
  obtain ⟨j, h1, h2⟩ := mod_idx (h := h) hb
  unfold depB
  rw [h2, Int.toNat_natCast, List.getElem?_eq_getElem h1]
  exact List.getElem_mem h1
theorem WF.sh {c : Chan} (w : WF c) (h : Int) : WF (shC c h) := by
  refine ⟨by simp [shC, w.n1], by simp [shC, w.n3], fun b hb => ?_, by simp [shC, w.nl], w.leg, by simp [shC, w.nw], w.wait⟩
  simp only [shC, List.mem_map] at hb
  obtain ⟨a, ha, rfl⟩ := hb
  obtain ⟨h1, h2, h3⟩ := w.bar a ha
  refine ⟨by simp [shB]; omega, by simp [shB]; omega, fun x hx => ?_⟩
  simp only [shB, List.mem_map] at hx
  obtain ⟨k, _, rfl⟩ := hx
  exact h3 _ (depB_mem h1)
def S_ch (g : Chan → Chan) (f : Fn) : Prop := ∀ (c : Chan) (st : Store), WF c → f [chD c] st = .ok (chD (g c)) st
def S_shift (f : Fn) : Prop := ∀ (c : Chan) (h : Int) (st : Store), WF c → 0 ≤ h → h ≤ 999 → f [chD c, .int h] st = .ok (chD (shC c h)) st
def S_dep (f : Fn) : Prop := ∀ (c : Chan) (i : Nat) (b : List Int) (h : Int) (st : Store), WF c → c.bars[i]? = some b → 0 ≤ h → h ≤ 999 → f [chD c, .int i, .int h] st = .ok (.int (depB b h)) st
def S_can (f : Fn) : Prop := ∀ (c : Chan) (i : Nat) (b : List Int) (d h : Int) (st : Store), WF c → c.bars[i]? = some b → 0 ≤ d → d ≤ 6 → 0 ≤ h → h ≤ 999 → f [chD c, .int i, .int d, .int h] st = .ok (.bl (decide (d ≤ depB b h))) st
theorem WF.at {c : Chan} (w : WF c) {i : Nat} {b : List Int} (h : c.bars[i]? = some b) : 1 ≤ b.length ∧ b.length ≤ 8 ∧ (∀ x ∈ b, 0 ≤ x ∧ x ≤ 6) ∧ i < c.bars.length :=
  ⟨(w.bar b (List.mem_of_getElem? h)).1, (w.bar b (List.mem_of_getElem? h)).2.1, (w.bar b (List.mem_of_getElem? h)).2.2, (List.getElem?_eq_some_iff.mp h).1⟩
theorem r_per (h1 : S_chk (callT T "check_channel")) (h2 : S_per (callT T "period_of")) : S_per (runDef T d_period) := by
  intro c st w
  simp [runDef, d_period, h1 c st w, h2 c st w]
/-- as far as it goes -/
def S_depO (f : Fn) : Prop := ∀ (c : Chan) (i : Nat) (b : List Int) (h : Int) (st : Store), c.bars[i]? = some b → 1 ≤ b.length → f [chD c, .int i, .int h] st = .ok (.int (depB b h)) st
theorem r_depO : S_depO (runDef T d_depth_of) := fun c i b h st hb h1 => r_depth_of hb h1
theorem r_dep (h1 : S_chk (callT T "check_channel")) (h2 : S_chkB (callT T "check_bar")) (h3 : S_chkR 0 999 (callT T "check_hour")) (h4 : S_depO (callT T "depth_of")) : S_dep (runDef T d_depth_at) := by
  intro c i b h st w hb l1 l2
  obtain ⟨b1, _, _, hi⟩ := w.at hb
  simp [runDef, d_depth_at, h1 c st w, h2 c i st (by omega) (by omega), h3 h st l1 l2, h4 c i b h st hb b1]
theorem r_can (h1 : S_chk (callT T "check_channel")) (h2 : S_chkB (callT T "check_bar")) (h3 : S_chkR 0 999 (callT T "check_hour")) (h5 : S_chkR 0 6 (callT T "check_draught")) (h4 : S_depO (callT T "depth_of")) : S_can (runDef T d_can_pass) := by
  intro c i b d h st w hb d1 d2 l1 l2
  obtain ⟨b1, _, _, hi⟩ := w.at hb
  simp [runDef, d_can_pass, h1 c st w, h2 c i st (by omega) (by omega), h3 h st l1 l2, h5 d st d1 d2, h4 c i b h st hb b1]
theorem r_back : S_ch backC (runDef T d_back_of) := by
  intro c st w
  simp [runDef, d_back_of, ← List.map_reverse]
  exact frz_chD st.length st (backC c) ▸ rfl
theorem r_turn (h1 : S_chk (callT T "check_channel")) (h2 : S_ch backC (callT T "back_of")) : S_ch backC (runDef T d_turned_round) := by
  intro c st w
  simp [runDef, d_turned_round, h1 c st w, h2 c st w]
theorem r_shift : S_shift (runDef T d_shifted) := by
  intro c h st w _ _
  simp [runDef, d_shifted]
  rw [lcL_map intsD (fun b => intsD (shB h b)) ?h]
  case h =>
    intro b hb
    obtain ⟨b1, b2, _⟩ := w.bar b hb
    have hr : -1000000 ≤ (b.length : Int) ∧ (b.length : Int) ≤ 1000000 := by omega
    have hp : (0 : Int) < (b.length : Int) := by omega
    simp [it_r1 hr, rngD]
    rw [lcL_map (fun k : Nat => D.int (k : Int)) (fun k => D.int (depB b ((k : Int) - h))) ?g]
    case g =>
      intro k _
      simp [o_mod hp, ix_ints, depB_pick b1]
    simp [intsD, shB, Function.comp_def]
  simp [intsD]
  have := frz_chD st.length st (shC c h)
  simp only [chD, shC, List.map_map, Function.comp_def, intsD] at this ⊢
  rw [this]
  rfl
theorem r_later (h1 : S_chk (callT T "check_channel")) (h2 : S_chkR 0 999 (callT T "check_hour")) (h3 : S_shift (callT T "shifted")) : S_shift (runDef T d_later) := by
  intro c h st w l1 l2
  simp [runDef, d_later, h1 c st w, h2 h st l1 l2, h3 c h st w l1 l2]
/-! ### what a law draws -/
/-- the town: its counter at most b, behind it as many rngD as the script has; tl: the other cells -/
def Tn (ns : List Int) (b : Int) (tl st : Store) : Prop := ∃ (n : Int) (rest : List Int), st = .lst (.int n :: rest.map .int) :: tl ∧ 0 ≤ n ∧ n ≤ b ∧ rest.length = ns.length
def big : Int := 1000000000
theorem Tn.mono {ns : List Int} {b b' : Int} {tl st : Store} (h : Tn ns b tl st) (l : b ≤ b') : Tn ns b' tl st := by
  obtain ⟨n, rest, e, h1, h2, h3⟩ := h
  exact ⟨n, rest, e, h1, Int.le_trans h2 l, h3⟩
def S_draw (f : Fn) : Prop := ∀ (ns : List Int) (b : Int) (tl st : Store) (l : Int), ns.length ≤ 63 → Tn ns b tl st → b < big → 1 ≤ l → l ≤ 1000000 → Ok (f [.scr ns, .ref 0, .int l] st) fun d st' => ∃ r, d = .int r ∧ 0 ≤ r ∧ r < l ∧ Tn ns (b + 1) tl st'
theorem r_draw : S_draw (runDef T d_law_draw) := by
  intro ns b tl st l hns ht hb l1 l2
  obtain ⟨n, rest, rfl, n0, nb, hr⟩ := ht
  have hl : 0 < l := by omega
  have hl2 : 0 < l ∧ l < 1073741824 := by omega
  have hbig : b < 1000000000 := hb
  have m1 : -(2 ^ 64) < (n + 1) ∧ (n + 1) < 2 ^ 64 := by omega
  have m7 : -(2 ^ 64) < (7 : Int) ∧ (7 : Int) < 2 ^ 64 := by omega
  have e3 : (0 : Int) < 3 ∧ (3 : Int) < 1073741824 := by omega
  cases ns with
  | nil =>
    have hr' : rest = [] := List.eq_nil_of_length_eq_zero hr
    subst hr'
    refine ⟨.int ((n + 1) * (n + 1) * 7 / 3 % l), .lst [.int (n + 1)] :: tl, ?_, _, rfl, Int.emod_nonneg _ (by omega), Int.emod_lt_of_pos _ hl, n + 1, [], rfl, by omega, by omega, rfl⟩
    have q : cmpop .Eq (.lst []) (.lst []) = some true := eq_nil [] rfl
    simp [runDef, d_law_draw, rd, der, idxop, setC, cellOf, q, o_mul m1, o_mul m7, o_div e3, o_mod hl]
  | cons s ss =>
    have hlen : 1 ≤ (s :: ss).length := by simp
    generalize hns' : (s :: ss) = ns at *
    have q : cmpop .Eq (.lst (ns.map .int)) (.lst []) = some false := by
      rw [eq_nil _ (good_ints 7 ns), ← hns']
      rfl
    have hp : (0 : Int) < (ns.length : Int) := by omega
    obtain ⟨j, hj, ej⟩ := mod_idx (h := n + 1) hlen
    have gs : ns[j]? = some ns[j] := List.getElem?_eq_getElem hj
    have hj2 : j < rest.length := by omega
    have gr : rest[j]? = some rest[j] := List.getElem?_eq_getElem hj2
    have pw : binop .Pow (.int 10) (.int 18) = some (.int 1000000000000000000) := by rw [o_pow (by decide)]; rfl
    have ps : pick (ns.map D.int) (j : Int) = some (.int ns[j]) := by rw [pick_nat, List.getElem?_map, gs]; rfl
    have pr : ∀ x : D, pick (x :: rest.map D.int) (1 + (j : Int)) = some (.int rest[j]) := fun x => by
      rw [show (1 + (j : Int)) = ((j + 1 : Nat) : Int) by omega, pick_nat, List.getElem?_cons_succ, List.getElem?_map, gr]; rfl
    have m0 : -(2 ^ 64) < (104729 : Int) ∧ (104729 : Int) < 2 ^ 64 := by omega
    have p1 : (0 : Int) < 4294967291 := by omega
    have p2 : (0 : Int) < 4294967279 := by omega
    have p3 : (0 : Int) < 4294967231 := by omega
    have m2 : -(2 ^ 64) < (69621 : Int) ∧ (69621 : Int) < 2 ^ 64 := by omega
    have d64 : (0 : Int) < 64 ∧ (64 : Int) < 1073741824 := by omega
    have d8 : (0 : Int) < 8 ∧ (8 : Int) < 1073741824 := by omega
    by_cases hc : 1000000000000000000 ≤ ns[j] ∧ 0 < rest[j]
    · refine ⟨.int (rest[j] % l), .lst (.int (n + 1) :: (rest.set j (rest[j] / l)).map .int) :: tl, ?_, _, rfl, Int.emod_nonneg _ (by omega), Int.emod_lt_of_pos _ hl, n + 1, rest.set j (rest[j] / l), rfl, by omega, by omega, by rw [List.length_set]; exact hr⟩
      have c1 := decide_eq_true hc.1
      have c2 := decide_eq_true hc.2
      have s1 : (0 : Int) ≤ 1 + (j : Int) := by omega
      have s2 : (1 + (j : Int)) < ((rest.length : Int) + 1) := by omega
      have s3 : (1 + (j : Int)).toNat = j + 1 := by omega
      simp [runDef, d_law_draw, rd, der, idxop, setC, cellOf, q, o_mod hp, ej, ps, pr, pw, c1, c2, hc.1, hc.2, o_div hl2, o_mod hl, s1, s2, s3, List.map_set]
    · have hv : ∀ v : Int, (decide (1000000000000000000 ≤ ns[j]) && decide (0 < rest[j])) = false := fun _ => by
        rw [← Bool.decide_and]; exact decide_eq_false hc
      refine ⟨.int (((((ns[j] + 104729 * (n + 1)) % 4294967291) ^ 5 % 4294967279) / 64 * 69621 + (((ns[j] + 104729 * (n + 1)) % 4294967291) ^ 5 % 4294967279)) % 4294967231 / 8 % l), .lst (.int (n + 1) :: rest.map .int) :: tl, ?_, _, rfl, Int.emod_nonneg _ (by omega), Int.emod_lt_of_pos _ hl, n + 1, rest, rfl, by omega, by omega, hr⟩
      have pq : ∀ x : Int, 0 ≤ x → x < 4294967291 → binop .Pow (.int x) (.int 5) = some (.int (x ^ 5)) := fun x h1 h2 => o_pow ⟨by omega, by omega, by omega⟩
      have pq' := pq _ (Int.emod_nonneg (ns[j] + 104729 * (n + 1)) (by omega)) (Int.emod_lt_of_pos _ p1)
      by_cases h1 : 1000000000000000000 ≤ ns[j]
      · have h2 : ¬ (0 < rest[j]) := fun z => hc ⟨h1, z⟩
        simp [runDef, d_law_draw, rd, der, idxop, setC, cellOf, q, o_mod hp, ej, ps, pr, pw, h1, h2, o_mul' m0, o_mod p1, pq', o_mod p2, o_div d64, o_mul m2, o_mod p3, o_div d8, o_mod hl]
      · simp [runDef, d_law_draw, rd, der, idxop, setC, cellOf, q, o_mod hp, ej, ps, pr, pw, h1, o_mul' m0, o_mod p1, pq', o_mod p2, o_div d64, o_mul m2, o_mod p3, o_div d8, o_mod hl]
def noref (ds : List D) : Bool := ds.all fun d => match d with
  | .ref _ => false
  | _ => true
theorem chk_noref {α : Type} {st0 st : Store} {ds : List D} {r : R α} (h : noref ds = true) : chk st0 ds st r = r := by
  unfold chk
  rw [if_pos]
  refine List.all_eq_true.mpr fun d hd => ?_
  have := List.all_eq_true.mp h d hd
  cases d <;> first | rfl | cases this
theorem lcL_draw {α : Type} (F : α → D) (Φ : D → Prop) {ns : List Int} {tl : Store} {c top : Int} (hc : 0 ≤ c) {st0 : Store} {ds : List D} {f : D → Store → R (List D)} (hn : noref ds = true) : ∀ (as : List α) (st : Store) (b : Int), Tn ns b tl st → b + c * as.length ≤ top →
    (∀ a ∈ as, ∀ (st : Store) (b' : Int), Tn ns b' tl st → b' + c ≤ top → Ok (f (F a) st) fun ys st' => ∃ y, ys = [y] ∧ Φ y ∧ Tn ns (b' + c) tl st') →
    Ok (lcL st0 ds f (as.map F) st) fun ys st' => ys.length = as.length ∧ (∀ y ∈ ys, Φ y) ∧ Tn ns (b + c * as.length) tl st'
  | [], st, b, ht, _, _ => Ok.ok ⟨rfl, fun y h => (by cases h), by simpa using ht⟩
  | a :: as, st, b, ht, hb, h => by
    have hm : c * ((a :: as).length : Int) = c + c * (as.length : Int) := by
      rw [List.length_cons, Int.natCast_add, Int.mul_add]; simp; omega
    have hm0 : 0 ≤ c * (as.length : Int) := Int.mul_nonneg hc (by omega)
    rw [List.map_cons, lcL]
    refine Ok.bind (h a List.mem_cons_self st b ht (by omega)) fun ys st1 ⟨y, e, hy, ht1⟩ => ?_
    subst e
    rw [chk_noref hn]
    refine Ok.bind (lcL_draw F Φ hc hn as st1 (b + c) ht1 (by omega) fun a' ha' => h a' (List.mem_cons_of_mem _ ha')) fun zs st2 ⟨hl, hz, ht2⟩ => Ok.ok ⟨by simp [hl], fun z hz' => ?_, ?_⟩
    · rcases List.mem_cons.mp hz' with rfl | q
      · exact hy
      · exact hz z q
    · rw [hm, ← Int.add_assoc]
      exact ht2
theorem all_ints {p : Int → Prop} : ∀ {ys : List D}, (∀ y ∈ ys, ∃ i, y = .int i ∧ p i) → ∃ is : List Int, ys = is.map .int ∧ ∀ i ∈ is, p i
  | [], _ => ⟨[], rfl, fun _ h => by cases h⟩
  | y :: ys, h => by
    obtain ⟨i, rfl, hi⟩ := h y List.mem_cons_self
    obtain ⟨is, rfl, his⟩ := all_ints fun z hz => h z (List.mem_cons_of_mem _ hz)
    exact ⟨i :: is, rfl, fun j hj => by rcases List.mem_cons.mp hj with rfl | q; exact hi; exact his j q⟩
theorem all_of {α : Type} {F : α → D} {p : α → Prop} : ∀ {ys : List D}, (∀ y ∈ ys, ∃ i, y = F i ∧ p i) → ∃ is : List α, ys = is.map F ∧ ∀ i ∈ is, p i
  | [], _ => ⟨[], rfl, fun _ h => by cases h⟩
  | y :: ys, h => by
    obtain ⟨i, rfl, hi⟩ := h y List.mem_cons_self
    obtain ⟨is, rfl, his⟩ := all_of fun z hz => h z (List.mem_cons_of_mem _ hz)
    exact ⟨i :: is, rfl, fun j hj => by rcases List.mem_cons.mp hj with rfl | q; exact hi; exact his j q⟩
@[simp] theorem noexc_1 (ys : List D) (st : Store) : noexc (.ok ys st) = .ok ys st := nrfl rfl
theorem Ok.noexc {r : R (List D)} {P : List D → Store → Prop} (h : Ok r P) : Ok (TW.noexc r) P := by
  obtain ⟨a, st, rfl, q⟩ := h
  exact ⟨a, st, rfl, q⟩
def S_bar (f : Fn) : Prop := ∀ (ns : List Int) (b : Int) (tl st : Store) (m : Int), ns.length ≤ 63 → Tn ns b tl st → b + 100 < big → 1 ≤ m → m ≤ 8 → Ok (f [.scr ns, .ref 0, .int m] st) fun d st' => ∃ bar : List Int, d = intsD bar ∧ 1 ≤ bar.length ∧ (bar.length : Int) ≤ m ∧ (∀ x ∈ bar, 0 ≤ x ∧ x ≤ 6) ∧ Tn ns (b + 100) tl st'
theorem r_bar (h : S_draw (callT T "_law_draw")) : S_bar (runDef T d_law_bar) := by
  intro ns b tl st m hns ht hb m1 m2
  obtain ⟨_, st1, e1, r1, rfl, l1, u1, t1⟩ := h ns b tl st m hns ht (by omega) m1 (by omega)
  obtain ⟨_, st2, e2, r2, rfl, l2, u2, t2⟩ := h ns (b + 1) tl st1 3 hns t1 (by omega) (by omega) (by omega)
  have hr : -1000000 ≤ 1 + r1 ∧ 1 + r1 ≤ 1000000 := by omega
  generalize hP : (fun d st' => ∃ bar : List Int, d = intsD bar ∧ 1 ≤ bar.length ∧ (bar.length : Int) ≤ m ∧ (∀ x ∈ bar, 0 ≤ x ∧ x ≤ 6) ∧ Tn ns (b + 100) tl st') = P
  by_cases hz : r2 = 0
  · subst hz
    obtain ⟨ys, st3, e3, hl, hy, t3⟩ := lcL_draw (st0 := st2) (ds := [.int (1 + r1)]) (f := lcT T [some (.scr ns), some (.ref 0), some (.int m), some (.int (1 + r1)), none, none, none, none] (.call "_law_draw" [.var 0, .var 1, .cst (.int 7)]) (.nm 4) []) (fun k : Nat => D.int (0 + (k : Int))) (fun d => ∃ i, d = .int i ∧ (0 ≤ i ∧ i ≤ 6)) (c := 1) (top := b + 90) (by omega) rfl (List.range (1 + r1).toNat) st2 (b + 1 + 1) t2 (by simp; omega) (by
      intro k _ st b' t' hb'
      obtain ⟨_, st4, e4, r4, rfl, l4, u4, t4⟩ := h ns b' tl st 7 hns t' (by omega) (by omega) (by omega)
      simp [e4]
      exact Ok.ok ⟨_, rfl, ⟨_, rfl, l4, by omega⟩, t4⟩)
    obtain ⟨is, rfl, hi⟩ := all_ints hy
    simp [runDef, d_law_bar, e1, e2, it_r1 hr]
    unfold rngD
    rw [e3]
    simp
    subst hP
    simp at hl
    exact Ok.ok ⟨is, rfl, by omega, by omega, hi, t3.mono (by simp; omega)⟩
  · obtain ⟨_, st3, e3, r3, rfl, l3, u3, t3⟩ := h ns (b + 1 + 1) tl st2 4 hns t2 (by omega) (by omega) (by omega)
    obtain ⟨_, st4, e4, r4, rfl, l4, u4, t4⟩ := h ns (b + 1 + 1 + 1) tl st3 4 hns t3 (by omega) (by omega) (by omega)
    obtain ⟨_, st5, e5, r5, rfl, l5, u5, t5⟩ := h ns (b + 1 + 1 + 1 + 1) tl st4 (1 + r1) hns t4 (by omega) (by omega) (by omega)
    have hz' : (r2 == 0) = false := by simpa using hz
    have hq : (0 : Int) < 1 + r1 := by omega
    have m2' : -(2 ^ 64) < (2 : Int) ∧ (2 : Int) < 2 ^ 64 := by omega
    simp [runDef, d_law_bar, e1, e2, e3, e4, e5, hz', it_r1 hr]
    unfold rngD
    rw [lcL_map (fun k : Nat => D.int (0 + (k : Int))) (fun k : Nat => D.int (if 3 + r4 - 2 * (if (r5 - (k : Int)) % (1 + r1) < ((k : Int) - r5) % (1 + r1) then (r5 - (k : Int)) % (1 + r1) else ((k : Int) - r5) % (1 + r1)) > r3 then 3 + r4 - 2 * (if (r5 - (k : Int)) % (1 + r1) < ((k : Int) - r5) % (1 + r1) then (r5 - (k : Int)) % (1 + r1) else ((k : Int) - r5) % (1 + r1)) else r3)) ?g]
    case g =>
      intro k _
      simp [o_mod hq, o_mul' m2']
    simp
    subst hP
    refine Ok.ok ⟨(List.range (1 + r1).toNat).map fun k : Nat => (if 3 + r4 - 2 * (if (r5 - (k : Int)) % (1 + r1) < ((k : Int) - r5) % (1 + r1) then (r5 - (k : Int)) % (1 + r1) else ((k : Int) - r5) % (1 + r1)) > r3 then 3 + r4 - 2 * (if (r5 - (k : Int)) % (1 + r1) < ((k : Int) - r5) % (1 + r1) then (r5 - (k : Int)) % (1 + r1) else ((k : Int) - r5) % (1 + r1)) else r3), by simp [intsD, Function.comp_def], by simp; omega, by simp; omega, ?_, t5.mono (by omega)⟩
    intro x hx
    rw [List.mem_map] at hx
    obtain ⟨k, _, rfl⟩ := hx
    have g1 := Int.emod_nonneg (r5 - (k : Int)) (show (1 + r1) ≠ 0 by omega)
    have g2 := Int.emod_nonneg ((k : Int) - r5) (show (1 + r1) ≠ 0 by omega)
    constructor
    · split <;> split <;> omega
    · split <;> split <;> omega
end TW
/-! TwPure4: drawn channels; the period by search. -/
namespace TW
open PySem (Str Operator CmpOp)
variable {T : Tab}
def S_pick (f : Fn) : Prop := ∀ (ns : List Int) (b : Int) (tl st : Store) (xs : List D), ns.length ≤ 63 → Tn ns b tl st → b < big → 1 ≤ xs.length → xs.length ≤ 1000 → Ok (f [.scr ns, .ref 0, .lst xs] st) fun d st' => d ∈ xs ∧ Tn ns (b + 1) tl st'
theorem r_pick (h : S_draw (callT T "_law_draw")) : S_pick (runDef T d_law_pick) := by
  intro ns b tl st xs hns ht hb h1 h2
  obtain ⟨_, st1, e1, r1, rfl, l1, u1, t1⟩ := h ns b tl st xs.length hns ht hb (by omega) (by omega)
  obtain ⟨j, rfl⟩ : ∃ j : Nat, r1 = (j : Int) := ⟨r1.toNat, by omega⟩
  have hj : j < xs.length := by omega
  have hx : xs[j]? = some xs[j] := List.getElem?_eq_getElem hj
  generalize hP : (fun d st' => d ∈ xs ∧ Tn ns (b + 1) tl st') = P
  simp [runDef, d_law_pick, e1, idxop, hx]
  subst hP
  exact Ok.ok ⟨List.getElem_mem hj, t1⟩
def S_chan (f : Fn) : Prop := ∀ (ns : List Int) (b : Int) (tl st : Store) (k m : Int), ns.length ≤ 63 → Tn ns b tl st → b + 1000 < big → 1 ≤ k → k ≤ 3 → 1 ≤ m → m ≤ 8 → Ok (f [.scr ns, .ref 0, .int k, .int m] st) fun d st' => ∃ c, d = chD c ∧ WF c ∧ (c.bars.length : Int) ≤ k ∧ (∀ x ∈ c.bars, (x.length : Int) ≤ m) ∧ Tn ns (b + 1000) tl st'
theorem r_chan (h : S_draw (callT T "_law_draw")) (hp : S_pick (callT T "_law_pick")) (hb : S_bar (callT T "_law_bar")) : S_chan (runDef T d_law_channel) := by
  intro ns b tl st k m hns ht hbb k1 k2 m1 m2
  generalize hP : (fun d st' => ∃ c, d = chD c ∧ WF c ∧ (c.bars.length : Int) ≤ k ∧ (∀ x ∈ c.bars, (x.length : Int) ≤ m) ∧ Tn ns (b + 1000) tl st') = P
  obtain ⟨_, st1, e1, r1, rfl, l1, u1, t1⟩ := h ns b tl st k hns ht (by omega) k1 (by omega)
  have hr : -1000000 ≤ 1 + r1 ∧ 1 + r1 ≤ 1000000 := by omega
  have hr2 : -1000000 ≤ 1 + r1 - 1 ∧ 1 + r1 - 1 ≤ 1000000 := by omega
  obtain ⟨ys, st2, e2, hl, hy, t2⟩ := lcL_draw (st0 := st1) (ds := [.int (1 + r1)]) (f := lcT T [some (.scr ns), some (.ref 0), some (.int k), some (.int m), some (.int (1 + r1)), none, none, none] (.call "_law_bar" [.var 0, .var 1, .var 3]) (.nm 6) []) (fun k : Nat => D.int (0 + (k : Int))) (fun d => ∃ bar : List Int, d = intsD bar ∧ (1 ≤ bar.length ∧ (bar.length : Int) ≤ m ∧ ∀ x ∈ bar, 0 ≤ x ∧ x ≤ 6)) (c := 100) (top := b + 900) (by omega) rfl (List.range (1 + r1).toNat) st1 (b + 1) t1 (by simp; omega) (by
      intro k _ st b' t' hb'
      obtain ⟨_, st4, e4, bar, rfl, q1, q2, q3, t4⟩ := hb ns b' tl st m hns t' (by omega) m1 m2
      simp [e4]
      exact Ok.ok ⟨_, rfl, ⟨_, rfl, q1, q2, q3⟩, t4⟩)
  obtain ⟨bars, rfl, hbar⟩ := all_of hy
  simp at hl t2
  obtain ⟨ys, st3, e3, hl3, hy3, t3⟩ := lcL_draw (st0 := st2) (ds := [.int (1 + r1 - 1)]) (f := lcT T [some (.scr ns), some (.ref 0), some (.int k), some (.int m), some (.int (1 + r1)), some (.tup (bars.map intsD)), none, none] (.bin .Add (.cst (.int 1)) (.call "_law_draw" [.var 0, .var 1, .call "_law_pick" [.var 0, .var 1, .lst [.cst (.int 2), .cst (.int 9)]]])) (.nm 6) []) (fun k : Nat => D.int (0 + (k : Int))) (fun d => ∃ i, d = .int i ∧ (1 ≤ i ∧ i ≤ 9)) (c := 2) (top := b + 990) (by omega) rfl (List.range ((1 + r1).toNat - 1)) st2 (b + 500) (t2.mono (by omega)) (by simp; omega) (by
      intro k _ st b' t' hb'
      obtain ⟨d, st4, e4, hd, t4⟩ := hp ns b' tl st [.int 2, .int 9] hns t' (by omega) (by simp) (by simp)
      obtain ⟨q, rfl, q1, q2⟩ : ∃ q, d = .int q ∧ 2 ≤ q ∧ q ≤ 9 := by
        simp at hd
        rcases hd with rfl | rfl
        · exact ⟨2, rfl, by omega, by omega⟩
        · exact ⟨9, rfl, by omega, by omega⟩
      obtain ⟨_, st5, e5, r5, rfl, l5, u5, t5⟩ := h ns (b' + 1) tl st4 q hns t4 (by omega) (by omega) (by omega)
      simp [e4, e5]
      exact Ok.ok ⟨_, rfl, ⟨_, rfl, by omega, by omega⟩, t5.mono (by omega)⟩)
  obtain ⟨legs, rfl, hleg⟩ := all_ints hy3
  simp at hl3 t3
  obtain ⟨ys, st4, e4, hl4, hy4, t4⟩ := lcL_draw (st0 := st3) (ds := [.int (1 + r1 - 1)]) (f := lcT T [some (.scr ns), some (.ref 0), some (.int k), some (.int m), some (.int (1 + r1)), some (.tup (bars.map intsD)), none, some (intsD legs)] (.call "_law_draw" [.var 0, .var 1, .cst (.int 4)]) (.nm 6) []) (fun k : Nat => D.int (0 + (k : Int))) (fun d => ∃ i, d = .int i ∧ (0 ≤ i ∧ i ≤ 3)) (c := 1) (top := b + 990) (by omega) rfl (List.range ((1 + r1).toNat - 1)) st3 (b + 600) (t3.mono (by omega)) (by simp; omega) (by
      intro k _ st b' t' hb'
      obtain ⟨_, st5, e5, r5, rfl, l5, u5, t5⟩ := h ns b' tl st 4 hns t' (by omega) (by omega) (by omega)
      simp [e5]
      exact Ok.ok ⟨_, rfl, ⟨_, rfl, by omega, by omega⟩, t5.mono (by omega)⟩)
  obtain ⟨waits, rfl, hwait⟩ := all_ints hy4
  simp at hl4 t4
  simp only [intsD] at e2 e3 e4
  simp [runDef, d_law_channel, e1, it_r1 hr]
  unfold rngD
  simp only [intsD] at *
  rw [e2]
  simp [it_r1 hr2]
  unfold rngD
  rw [e3]
  simp [it_r1 hr2]
  unfold rngD
  rw [e4]
  simp
  subst hP
  exact Ok.ok ⟨⟨bars, legs, waits⟩, rfl, ⟨by show 1 ≤ bars.length; omega, by show bars.length ≤ 3; omega, fun x hx => ⟨(hbar x hx).1, by have := (hbar x hx).2.1; omega, (hbar x hx).2.2⟩, by show legs.length + 1 = bars.length; omega, hleg, by show waits.length + 1 = bars.length; omega, hwait⟩, by show (bars.length : Int) ≤ k; omega, fun x hx => (hbar x hx).2.1, t4.mono (by omega)⟩
/-! ### the period by search -/
theorem lcm_dvd_foldl : ∀ (ls : List Nat) (a m : Nat), a ∣ m → (∀ l ∈ ls, l ∣ m) → ls.foldl Nat.lcm a ∣ m
  | [], _, _, h, _ => h
  | l :: ls, a, m, h, hl => lcm_dvd_foldl ls (Nat.lcm a l) m (Nat.lcm_dvd h (hl l List.mem_cons_self)) fun x hx => hl x (List.mem_cons_of_mem _ hx)
theorem dvd_foldl : ∀ (ls : List Nat) (a : Nat), a ∣ ls.foldl Nat.lcm a ∧ ∀ l ∈ ls, l ∣ ls.foldl Nat.lcm a
  | [], a => ⟨Nat.dvd_refl a, fun _ h => (by cases h)⟩
  | l :: ls, a => by
    obtain ⟨h1, h2⟩ := dvd_foldl ls (Nat.lcm a l)
    refine ⟨Nat.dvd_trans (Nat.dvd_lcm_left a l) h1, fun x hx => ?_⟩
    rcases List.mem_cons.mp hx with rfl | q
    · exact Nat.dvd_trans (Nat.dvd_lcm_right a x) h1
    · exact h2 x q
theorem foldl_pos : ∀ (ls : List Nat) (a : Nat), 0 < a → (∀ l ∈ ls, 0 < l) → 0 < ls.foldl Nat.lcm a
  | [], _, h, _ => h
  | l :: ls, a, h, hl => foldl_pos ls (Nat.lcm a l) (Nat.lcm_pos h (hl l List.mem_cons_self)) fun x hx => hl x (List.mem_cons_of_mem _ hx)
theorem foldl_le : ∀ (ls : List Nat) (a : Nat), 0 < a → (∀ l ∈ ls, 0 < l ∧ l ≤ 8) → ls.foldl Nat.lcm a ≤ a * 8 ^ ls.length
  | [], a, _, _ => by simp
  | l :: ls, a, h, hl => by
    obtain ⟨h1, h2⟩ := hl l List.mem_cons_self
    have h3 := foldl_le ls (Nat.lcm a l) (Nat.lcm_pos h h1) fun x hx => hl x (List.mem_cons_of_mem _ hx)
    have h4 : Nat.lcm a l ≤ a * 8 := Nat.le_trans (Nat.le_of_dvd (Nat.mul_pos h h1) (Nat.lcm_dvd (Nat.dvd_mul_right a l) (Nat.dvd_mul_left l a))) (Nat.mul_le_mul_left a h2)
    refine Nat.le_trans h3 (Nat.le_trans (Nat.mul_le_mul_right _ h4) ?_)
    rw [List.length_cons, Nat.pow_succ, Nat.mul_assoc, Nat.mul_comm 8]
    exact Nat.le_refl _
theorem perC_facts {c : Chan} (w : WF c) : 1 ≤ perC c ∧ perC c ≤ 512 ∧ (∀ b ∈ c.bars, b.length ∣ perC c) ∧ ∀ m, 0 < m → (∀ b ∈ c.bars, b.length ∣ m) → perC c ≤ m := by
  have h0 : ∀ l ∈ c.bars.map List.length, 0 < l ∧ l ≤ 8 := fun l hl => by
    obtain ⟨b, hb, rfl⟩ := List.mem_map.mp hl
    exact ⟨(w.bar b hb).1, (w.bar b hb).2.1⟩
  refine ⟨foldl_pos _ 1 (by omega) fun l hl => (h0 l hl).1, ?_, fun b hb => (dvd_foldl (c.bars.map List.length) 1).2 _ (List.mem_map_of_mem hb), fun m hm h => Nat.le_of_dvd hm (lcm_dvd_foldl _ 1 m (Nat.one_dvd m) fun l hl => ?_)⟩
  · refine Nat.le_trans (foldl_le _ 1 (by omega) h0) ?_
    rw [Nat.one_mul, List.length_map]
    exact Nat.le_trans (Nat.pow_le_pow_right (by omega) w.n3) (by decide)
  · obtain ⟨b, hb, rfl⟩ := List.mem_map.mp hl
    exact h b hb
theorem whl_per {c : Chan} (w : WF c) {st : Store} : ∀ (n f : Nat) (o : Option D), 1 ≤ f → f ≤ perC c → perC c - f < n → ∃ o', whlL (whC T (.cmp .NotEq (.lc (.var 2) (.nm 2) .seq [.idx (.var 0) (.cst (.int 0))] [.cmp .NotEq (.bin .Mod (.var 1) (.blt "len" [.var 2])) (.cst (.int 0))] [2]) (.lst []))) (whB T [.asg 1 (.bin .Add (.var 1) (.cst (.int 1)))]) n [some (chD c), some (.int f), o] st = .ok (.next [some (chD c), some (.int (perC c)), o']) st
  | 0, f, o, _, _, h => by omega
  | n + 1, f, o, f1, f2, h => by
    have e : ∀ (ds : List D), lcL st ds (lcT T [some (chD c), some (.int f), none] (.var 2) (.nm 2) [.cmp .NotEq (.bin .Mod (.var 1) (.blt "len" [.var 2])) (.cst (.int 0))]) (c.bars.map intsD) st = .ok ((c.bars.filter fun b => !decide (b.length ∣ f)).map intsD) st := by
      intro ds
      rw [lcL_pure intsD (fun b => if b.length ∣ f then [] else [intsD b]) ?g]
      case g =>
        intro b hb
        have hp : (0 : Int) < (b.length : Int) := by have := (w.bar b hb).1; omega
        by_cases hd : b.length ∣ f
        · have hz : ((f : Int) % (b.length : Int)) = 0 := by rw [← Int.natCast_emod, Nat.mod_eq_zero_of_dvd hd]; rfl
          simp [o_mod hp, hz, hd]
        · have hz : ((f : Int) % (b.length : Int)) ≠ 0 := by
            rw [← Int.natCast_emod]
            intro z
            exact hd (Nat.dvd_of_mod_eq_zero (by omega))
          have hz' : (((f : Int) % (b.length : Int)) == 0) = false := by simpa using hz
          simp [o_mod hp, hz', hd]
      congr 1
      induction c.bars with
      | nil => rfl
      | cons b bs ih =>
        rw [List.flatMap_cons, ih, List.filter_cons]
        by_cases hd : b.length ∣ f <;> simp [hd]
    rw [whlL]
    by_cases hall : ∀ b ∈ c.bars, b.length ∣ f
    · have hf : perC c ≤ f := (perC_facts w).2.2.2 f (by omega) hall
      have hf' : f = perC c := by omega
      have he : (c.bars.filter fun b => !decide (b.length ∣ f)) = [] := by
        rw [List.filter_eq_nil_iff]
        intro b hb
        simp [hall b hb]
      refine ⟨o, ?_⟩
      simp [e, he]
      rw [ne_nil [] rfl]
      simp [hf']
    · have he : (c.bars.filter fun b => !decide (b.length ∣ f)).isEmpty = false := by
        rw [Bool.eq_false_iff]
        intro z
        rw [List.isEmpty_iff, List.filter_eq_nil_iff] at z
        exact hall fun b hb => by simpa using z b hb
      have hne : f ≠ perC c := fun z => hall fun b hb => by rw [z]; exact (perC_facts w).2.2.1 b hb
      obtain ⟨o', ho⟩ := whl_per w (st := st) n (f + 1) o (by omega) (by omega) (by omega)
      refine ⟨o', ?_⟩
      simp [e]
      rw [ne_nil _ (good_map 7 intsD (good_intsD 6) _)]
      have he' : (List.map intsD (c.bars.filter fun b => !decide (b.length ∣ f))).isEmpty = false := by
        rw [List.isEmpty_map]; exact he
      rw [he']
      simp
      exact ho
theorem r_lawPer : S_per (runDef T d_law_period) := by
  intro c st w
  have hf := perC_facts w
  obtain ⟨o', ho⟩ := whl_per (T := T) w (st := st) 100000 1 none (by omega) hf.1 (by omega)
  simp [runDef, d_law_period]
  have ho' : whlL _ _ 100000 [some (chD c), some (.int 1), none] st = _ := ho
  rw [ho']
  simp
end TW
/-! L02: the law of whole channels, plainly. -/
namespace TW
open PySem (Str Operator CmpOp)
variable {T : Tab}
theorem depB_congr {b : List Int} {x y : Int} (h : x % (b.length : Int) = y % (b.length : Int)) : depB b x = depB b y := by
  unfold depB
  rw [h]
theorem depB_nat {b : List Int} {k : Nat} (h : k < b.length) : depB b (k : Int) = b[k] := by
  unfold depB
  rw [Int.emod_eq_of_lt (by omega) (by omega), Int.toNat_natCast, List.getElem?_eq_getElem h]
  rfl
theorem shB_len (h : Int) (b : List Int) : (shB h b).length = b.length := by simp [shB]
theorem depB_sh {b : List Int} {h t : Int} (hb : 1 ≤ b.length) : depB (shB h b) t = depB b (t - h) := by
  obtain ⟨j, hj, ej⟩ := mod_idx (h := t) hb
  have e : depB (shB h b) t = depB (shB h b) (j : Int) := depB_congr (by rw [shB_len, ej, Int.emod_eq_of_lt (by omega) (by omega)])
  rw [e, depB_nat (by rw [shB_len]; exact hj)]
  simp only [shB, List.getElem_map, List.getElem_range]
  refine depB_congr ?_
  rw [← ej, Int.sub_emod, Int.emod_emod_of_dvd _ (Int.dvd_refl _), ← Int.sub_emod]
theorem shB_shB {b : List Int} {h g : Int} (hb : 1 ≤ b.length) : shB g (shB h b) = shB (h + g) b := by
  unfold shB
  rw [List.length_map, List.length_range]
  refine List.map_congr_left fun k _ => ?_
  have := depB_sh (b := b) (h := h) (t := (k : Int) - g) hb
  unfold shB at this
  rw [this]
  congr 1
  omega
theorem shB_id {b : List Int} {h : Int} (hb : 1 ≤ b.length) (hd : (b.length : Int) ∣ h) : shB h b = b := by
  apply List.ext_getElem
  · rw [shB_len]
  · intro k h1 h2
    simp only [shB, List.getElem_map, List.getElem_range]
    rw [← depB_nat h2]
    exact depB_congr (by rw [Int.sub_emod, Int.emod_eq_zero_of_dvd hd]; simp)
theorem map_id_of {f : List Int → List Int} {l : List (List Int)} (h : ∀ b ∈ l, f b = b) : l.map f = l := by
  rw [List.map_congr_left h]
  simp
theorem shC_id {c : Chan} (w : WF c) {h : Int} (hd : ∀ b ∈ c.bars, (b.length : Int) ∣ h) : shC c h = c := by
  unfold shC
  rw [map_id_of fun b hb => shB_id (w.bar b hb).1 (hd b hb)]
theorem shC_shC {c : Chan} (w : WF c) {h g : Int} : shC (shC c h) g = shC c (h + g) := by
  unfold shC
  simp only [List.map_map]
  congr 1
  exact List.map_congr_left fun b hb => shB_shB (w.bar b hb).1
theorem back_back (c : Chan) : backC (backC c) = c := by simp [backC]
theorem per_back {c : Chan} (w : WF c) : perC (backC c) = perC c := by
  have h1 := perC_facts w
  have h2 := perC_facts w.back
  refine Nat.le_antisymm (h2.2.2.2 _ (by omega) fun b hb => h1.2.2.1 b (by simpa [backC] using hb)) (h1.2.2.2 _ (by omega) fun b hb => h2.2.2.1 b (by simpa [backC] using hb))
theorem forL_inv {α : Type} (F : α → D) {st0 : Store} {ds : List D} {f : D → Env → Store → R Out} (hn : noref ds = true) (I : List α → Env → Store → Prop) : ∀ (as pre : List α) (env : Env) (st : Store), I pre env st →
    (∀ (l : List α) (a : α) (r : List α) (env : Env) (st : Store), pre ++ as = l ++ a :: r → I l env st → Ok (f (F a) env st) fun o st' => ∃ env', o = .next env' ∧ I (l ++ [a]) env' st') →
    Ok (forL st0 ds f (as.map F) env st) fun o st' => ∃ env', o = .next env' ∧ I (pre ++ as) env' st'
  | [], pre, env, st, h, _ => Ok.ok ⟨env, rfl, by simpa using h⟩
  | a :: as, pre, env, st, h, hs => by
    rw [List.map_cons, forL]
    refine Ok.bind (hs pre a as env st rfl h) fun o st1 ⟨env1, e, h1⟩ => ?_
    subst e
    show Ok (chk _ _ _ _) _
    rw [chk_noref hn]
    have := forL_inv F (st0 := st0) hn I as (pre ++ [a]) env1 st1 h1 fun l b r env st e q => hs l b r env st (by rw [← e]; simp) q
    simpa using this
theorem r_town (ns : List Int) (hns : ns.length ≤ 63) : runDef T d_law_town [.scr ns] [] = .ok (.ref 0) [.lst (.int 0 :: ns.map .int)] := by
  have h : (1 + ns.length) ≤ lim := by unfold lim; omega
  have h' : (1 + (ns.map D.int).length) ≤ lim := by rw [List.length_map]; exact h
  simp [runDef, d_law_town, catR]
  rw [if_pos (by simpa [Nat.add_comm] using h)]
  simp
def S_town (f : Fn) : Prop := ∀ ns : List Int, ns.length ≤ 63 → f [.scr ns] [] = .ok (.ref 0) [.lst (.int 0 :: ns.map .int)]
theorem leave_law (st : Store) (b : Bool) : leave false [] (.ok (.ret (.bl b)) st) = .ok (.bl b) [] := rfl
theorem seq_next {s : List S} {r : R Out} {Q : Env → Store → Prop} {st0 : Store} {k : Bool} {X : R D} (h : Ok r fun o st' => ∃ env', o = .next env' ∧ Q env' st') (q : ∀ env' st', Q env' st' → leave k st0 (evSs T s env' st') = X) : leave k st0 (kSeq T s r) = X := by
  obtain ⟨_, st', rfl, env', rfl, hq⟩ := h
  exact q env' st' hq
theorem law_k02 (hTown : S_town (callT T "_law_town")) (hDraw : S_draw (callT T "_law_draw")) (hPick : S_pick (callT T "_law_pick")) (hChan : S_chan (callT T "_law_channel")) (hLP : S_per (callT T "_law_period")) (hPer : S_per (callT T "period"))
    (hTurn : S_ch backC (callT T "turned_round")) (hLater : S_shift (callT T "later")) (hIs : S_isch (callT T "is_channel")) (hDep : S_dep (callT T "depth_at")) (hCan : S_can (callT T "can_pass")) (ns : List Int) (hns : ns.length ≤ 63) :
    runDef T d_k02 [.scr ns] [] = .ok (.bl true) [] := by
  have t0 : Tn ns 0 [] [.lst (.int 0 :: ns.map .int)] := ⟨0, ns, rfl, by omega, by omega, rfl⟩
  obtain ⟨_, st1, e1, c, rfl, w, hk, hm, t1⟩ := hChan ns 0 [] _ 3 8 hns t0 (by unfold big; omega) (by omega) (by omega) (by omega) (by omega)
  have pf := perC_facts w
  obtain ⟨_, st2, e2, r2, rfl, l2, u2, t2⟩ := hDraw ns _ [] st1 1000 hns t1 (by unfold big; omega) (by omega) (by omega)
  obtain ⟨d, st3, e3, hd, t3⟩ := hPick ns _ [] st2 [.int 0, .int 1, .int r2, .int (perC c)] hns t2 (by unfold big; omega) (by simp) (by simp)
  obtain ⟨h, rfl, h0, h9⟩ : ∃ h, d = .int h ∧ 0 ≤ h ∧ h ≤ 999 := by
    simp at hd
    rcases hd with rfl | rfl | rfl | rfl
    · exact ⟨_, rfl, by omega, by omega⟩
    · exact ⟨_, rfl, by omega, by omega⟩
    · exact ⟨_, rfl, by omega, by omega⟩
    · exact ⟨_, rfl, by omega, by omega⟩
  have q1 : ∀ st, callT T "_law_period" [chD c] st = .ok (.int (perC c)) st := fun st => hLP c st w
  have q2 : ∀ st, callT T "period" [chD c] st = .ok (.int (perC c)) st := fun st => hPer c st w
  have q3 : ∀ st, callT T "turned_round" [chD c] st = .ok (chD (backC c)) st := fun st => hTurn c st w
  have q4 : ∀ st, callT T "turned_round" [chD (backC c)] st = .ok (chD c) st := fun st => by rw [hTurn _ st w.back, back_back]
  have q5 : ∀ st, callT T "period" [chD (backC c)] st = .ok (.int (perC c)) st := fun st => by rw [hPer _ st w.back, per_back w]
  have q6 : ∀ st, callT T "later" [chD c, .int h] st = .ok (chD (shC c h)) st := fun st => hLater c h st w h0 h9
  have q7 : ∀ st, callT T "is_channel" [chD (shC c h)] st = .ok (.bl true) st := fun st => hIs _ st (w.sh h)
  have q8 : ∀ st, callT T "later" [chD c, .int (perC c)] st = .ok (chD c) st := fun st => by rw [hLater c _ st w (by omega) (by omega), shC_id w fun b hb => Int.natCast_dvd_natCast.mpr (pf.2.2.1 b hb)]
  have q9 : ∀ st, callT T "later" [chD c, .int 3] st = .ok (chD (shC c 3)) st := fun st => hLater c 3 st w (by omega) (by omega)
  have qa : ∀ st, callT T "later" [chD (shC c 3), .int 4] st = .ok (chD (shC c 7)) st := fun st => by rw [hLater _ 4 st (w.sh 3) (by omega) (by omega), shC_shC w]; rfl
  have qb : ∀ st, callT T "later" [chD c, .int 7] st = .ok (chD (shC c 7)) st := fun st => hLater c 7 st w (by omega) (by omega)
  have qc : ∀ st, callT T "later" [chD c, .int 0] st = .ok (chD c) st := fun st => by rw [hLater c 0 st w (by omega) (by omega), shC_id w fun b hb => Int.dvd_zero _]
  have s1 : ∀ c : Chan, slcop (chD c) (some 1) none = some (.tup [intsD c.legs, intsD c.waits]) := fun c => rfl
  have s2 : cmpop .NotEq (.tup [intsD c.legs, intsD c.waits]) (.tup [intsD c.legs, intsD c.waits]) = some false := ne_same (by
    show ([intsD c.legs, intsD c.waits]).all (D.good 7) = true
    simp [good_intsD])
  have g1 : (shC c h).legs = c.legs := rfl
  have g2 : (shC c h).waits = c.waits := rfl
  have u1 : ∀ env : Env, kUnp2 env [3, 4, 5] (chD c) = fun st => .ok (.next (((env.set 3 (some (.tup (c.bars.map intsD)))).set 4 (some (intsD c.legs))).set 5 (some (intsD c.waits)))) st := fun env => rfl
  have s3 : cmpop .NotEq (chD (backC c)) (.tup [.tup (c.bars.map intsD).reverse, intsD c.legs.reverse, intsD c.waits.reverse]) = some false := by
    rw [← List.map_reverse]
    exact ne_ch (backC c)
  have r6 : (-1000000 : Int) ≤ 6 ∧ (6 : Int) ≤ 1000000 := by omega
  simp [runDef, d_k02, hTown ns hns, e1, u1, q1, q2, q3, q4, q5, s3, e2, e3, q6, q7, q8, s1, g1, g2, s2, it_r1 r6]
  unfold rngD
  refine seq_next (forL_inv (fun k : Nat => D.int (0 + (k : Int))) rfl (fun l env st => ∃ o9 o10 o11 o12 o13, env = [some (.scr ns), some (.ref 0), some (chD c), some (.tup (c.bars.map intsD)), some (intsD c.legs), some (intsD c.waits), some (.int (perC c)), some (.int h), some (chD (shC c h)), o9, o10, o11, o12, o13] ∧ Tn ns (2000 + 3 * (l.length : Int)) [] st) (List.range 6) [] _ _ ⟨none, none, none, none, none, rfl, t3.mono (by simp)⟩ ?step) ?rest
  case rest =>
    rintro env' st' ⟨o9, o10, o11, o12, o13, rfl, _⟩
    simp [q9, qa, qb, qc, leave_law]
  case step =>
    rintro l k r env st el ⟨o9, o10, o11, o12, o13, rfl, t⟩
    have hlen : l.length < 6 := by
      have := congrArg List.length el
      simp at this
      omega
    obtain ⟨_, st4, e4, r4, rfl, l4, u4, t4⟩ := hDraw ns _ [] st c.bars.length hns t (by unfold big; omega) (by have := w.n1; omega) (by have := w.n3; omega)
    obtain ⟨_, st5, e5, r5, rfl, l5, u5, t5⟩ := hDraw ns _ [] st4 900 hns t4 (by unfold big; omega) (by omega) (by omega)
    obtain ⟨_, st6, e6, r6, rfl, l6, u6, t6⟩ := hDraw ns _ [] st5 7 hns t5 (by unfold big; omega) (by omega) (by omega)
    obtain ⟨i, rfl⟩ : ∃ i : Nat, r4 = (i : Int) := ⟨r4.toNat, by omega⟩
    have hi : i < c.bars.length := by omega
    have gi : c.bars[i]? = some c.bars[i] := List.getElem?_eq_getElem hi
    generalize c.bars[i] = b at gi
    obtain ⟨b1, b2, b3, _⟩ := w.at gi
    have hp : (0 : Int) < (b.length : Int) := by omega
    have a1 : ∀ st, callT T "depth_at" [chD c, .int i, .int r5] st = .ok (.int (depB b r5)) st := fun st => hDep c i b r5 st w gi l5 (by omega)
    have a2 : ∀ st, callT T "can_pass" [chD c, .int i, .int r6, .int r5] st = .ok (.bl (decide (r6 ≤ depB b r5))) st := fun st => hCan c i b r6 r5 st w gi l6 (by omega) l5 (by omega)
    have gs : (shC c h).bars[i]? = some (shB h b) := by simp [shC, gi]
    have a3 : ∀ st, r5 + h ≤ 999 → callT T "depth_at" [chD (shC c h), .int i, .int (r5 + h)] st = .ok (.int (depB b r5)) st := fun st q => by
      rw [hDep (shC c h) i (shB h b) (r5 + h) st (w.sh h) gs (by omega) q, depB_sh b1]
      congr 3
      omega
    have a4 : ∀ st, r5 + (perC c : Int) ≤ 999 → callT T "depth_at" [chD c, .int i, .int (r5 + (perC c : Int))] st = .ok (.int (depB b r5)) st := fun st q => by
      rw [hDep c i b (r5 + (perC c : Int)) st w gi (by omega) q]
      congr 2
      refine depB_congr ?_
      rw [Int.add_emod, Int.emod_eq_zero_of_dvd (Int.natCast_dvd_natCast.mpr (pf.2.2.1 b (List.mem_of_getElem? gi)))]
      simp
    have gb : (backC c).bars[c.bars.length - 1 - i]? = some b := by
      simp only [backC]
      rw [List.getElem?_reverse (by omega), show c.bars.length - 1 - (c.bars.length - 1 - i) = i by omega]
      exact gi
    have a5 : ∀ st, callT T "depth_at" [chD (backC c), .int ((c.bars.length : Int) - 1 - (i : Int)), .int r5] st = .ok (.int (depB b r5)) st := fun st => by
      rw [show ((c.bars.length : Int) - 1 - (i : Int)) = ((c.bars.length - 1 - i : Nat) : Int) by omega]
      exact hDep (backC c) _ b r5 st w.back gb l5 (by omega)
    have bp : ∀ x : Bool, (x == x) = true := fun x => by cases x <;> rfl
    refine ⟨.next [some (.scr ns), some (.ref 0), some (chD c), some (.tup (c.bars.map intsD)), some (intsD c.legs), some (intsD c.waits), some (.int (perC c)), some (.int h), some (chD (shC c h)), some (.int (0 + (k : Int))), some (.int i), some (.int r5), some (.int r6), some (.int (depB b r5))], st6, ?_, _, rfl, _, _, _, _, _, rfl, t6.mono (by simp; omega)⟩
    by_cases y1 : r5 + h ≤ 999 <;> by_cases y2 : r5 + (perC c : Int) ≤ 999
    · simp [e4, e5, e6, ix_bars, gi, o_mod hp, ix_ints, depB_pick b1, a1, a2, y1, y2, a3 _ y1, a4 _ y2, q3, a5]
    · simp [e4, e5, e6, ix_bars, gi, o_mod hp, ix_ints, depB_pick b1, a1, a2, y1, y2, a3 _ y1, q3, a5]
    · simp [e4, e5, e6, ix_bars, gi, o_mod hp, ix_ints, depB_pick b1, a1, a2, y1, y2, a4 _ y2, q3, a5]
    · simp [e4, e5, e6, ix_bars, gi, o_mod hp, ix_ints, depB_pick b1, a1, a2, y1, y2, q3, a5]
end TW
/-! TwPass: passages. -/
namespace TW
open PySem (Str Operator CmpOp)
variable {T : Tab}
def lastI (row : List Int) : Int := row.getLast?.getD 0
theorem pick_neg1 {row : List Int} (h : row ≠ []) : pick row (-1) = some (lastI row) := by
  have hl : 1 ≤ row.length := by cases row with | nil => exact absurd rfl h | cons => simp
  unfold pick lastI
  rw [if_neg (by omega), if_pos (by omega), List.getLast?_eq_getElem?, show (-1 + (row.length : Int)).toNat = row.length - 1 by omega, List.getElem?_eq_getElem (by omega)]
  rfl
def barC (c : Chan) (k : Nat) : List Int := c.bars[k]?.getD []
def legC (c : Chan) (k : Nat) : Int := c.legs[k]?.getD 0
def waitC (c : Chan) (k : Nat) : Int := c.waits[k]?.getD 0
/-- one bar more -/
def more1 (leg w : Int) (row : List Int) : List (List Int) := (List.range (w + 1).toNat).map fun (m : Nat) => row ++ [lastI row + leg + (m : Int)]
def ext1 (c : Chan) (d : Int) (k : Nat) (rows : List (List Int)) : List (List Int) := (rows.flatMap (more1 (legC c k) (waitC c k))).filter fun r => decide (d ≤ depB (barC c (k + 1)) (lastI r))
def rowsTo (c : Chan) (d h : Int) : Nat → List (List Int)
  | 0 => if d ≤ depB (barC c 0) h then [[h]] else []
  | k + 1 => ext1 c d k (rowsTo c d h k)
def allFrom (c : Chan) (d h : Int) : List (List Int) := rowsTo c d h (c.bars.length - 1)
def rowsD (rows : List (List Int)) : D := .lst (rows.map intsD)
theorem barC_some {c : Chan} {k : Nat} (h : k < c.bars.length) : c.bars[k]? = some (barC c k) := by
  unfold barC
  rw [List.getElem?_eq_getElem h]; rfl
theorem legC_some {c : Chan} {k : Nat} (h : k < c.legs.length) : c.legs[k]? = some (legC c k) := by
  unfold legC
  rw [List.getElem?_eq_getElem h]; rfl
theorem waitC_some {c : Chan} {k : Nat} (h : k < c.waits.length) : c.waits[k]? = some (waitC c k) := by
  unfold waitC
  rw [List.getElem?_eq_getElem h]; rfl
theorem rows_len (c : Chan) (d h : Int) : ∀ k, ∀ r ∈ rowsTo c d h k, r.length = k + 1
  | 0, r, hr => by
    unfold rowsTo at hr
    split at hr
    · simp at hr; subst hr; rfl
    · cases hr
  | k + 1, r, hr => by
    unfold rowsTo ext1 at hr
    rw [List.mem_filter, List.mem_flatMap] at hr
    obtain ⟨⟨row, h1, h2⟩, _⟩ := hr
    unfold more1 at h2
    obtain ⟨m, _, rfl⟩ := List.mem_map.mp h2
    rw [List.length_append, rows_len c d h k row h1]; rfl
theorem flat_cnt (leg : Int) {w : Int} (hw : w ≤ 3) (rows : List (List Int)) : (rows.flatMap (more1 leg w)).length ≤ rows.length * 4 := by
  induction rows with
  | nil => simp
  | cons r rs ihr =>
    rw [List.flatMap_cons, List.length_append, List.length_cons]
    have : (more1 leg w r).length ≤ 4 := by unfold more1; simp; omega
    omega
theorem rows_cnt {c : Chan} (w : WF c) (d h : Int) : ∀ k, k < c.bars.length → (rowsTo c d h k).length ≤ 4 ^ k
  | 0, _ => by
    unfold rowsTo
    split <;> simp
  | k + 1, hk => by
    have ih := rows_cnt w d h k (by omega)
    have hw := w.wait (waitC c k) (List.mem_of_getElem? (waitC_some (by have := w.nw; omega)))
    unfold rowsTo ext1
    refine Nat.le_trans (List.length_filter_le _ _) ?_
    have : ∀ rows : List (List Int), (rows.flatMap (more1 (legC c k) (waitC c k))).length ≤ rows.length * 4 := by
      intro rows
      induction rows with
      | nil => simp
      | cons r rs ihr =>
        rw [List.flatMap_cons, List.length_append, List.length_cons]
        have : (more1 (legC c k) (waitC c k) r).length ≤ 4 := by unfold more1; simp; omega
        omega
    refine Nat.le_trans (this _) ?_
    rw [Nat.pow_succ]
    omega
@[simp] theorem under_rows (k : Nat) (rows : List (List Int)) : D.underL k (rows.map intsD) = true := under_map k intsD (fun a => under_intsD k a) rows
@[simp] theorem der_rowsD (st : Store) (rows : List (List Int)) : der st (rowsD rows) = rowsD rows := nrfl rfl
@[simp] theorem rd_rowsD (st : Store) (rows : List (List Int)) : rd st (rowsD rows) = rowsD rows := nrfl rfl
@[simp] theorem frz_rowsD (k : Nat) (st : Store) (rows : List (List Int)) : frz k st (rowsD rows) = some (rowsD rows) := frz_lst k st _ (under_rows k rows)
@[simp] theorem it_rowsD (rows : List (List Int)) : iter .seq [rowsD rows] = some (rows.map intsD) := nrfl rfl
theorem add_ints {xs : List Int} {y : Int} (h : xs.length ≤ 100) : binop .Add (intsD xs) (.tup [.int y]) = some (intsD (xs ++ [y])) := by
  have : (xs.map D.int).length + [D.int y].length ≤ lim := by simp [lim]; omega
  show (if (xs.map D.int).length + [D.int y].length ≤ lim then _ else _) = _
  rw [if_pos this]
  simp [intsD]
def S_all (f : Fn) : Prop := ∀ (c : Chan) (d h : Int) (st : Store), WF c → f [chD c, .int d, .int h] st = .ok (rowsD (allFrom c d h)) st
/-- the nested rows -/
theorem lc2_rows {st : Store} {ds : List D} {f : D → Store → R (List D)} {rows : List (List Int)} {g : List Int → List (List Int)} (h : ∀ r ∈ rows, f (intsD r) st = .ok ((g r).map intsD) st) : lcL st ds f (rows.map intsD) st = .ok ((rows.flatMap g).map intsD) st := by
  rw [lcL_pure intsD (fun r => (g r).map intsD) h]
  congr 1
  induction rows with
  | nil => rfl
  | cons r rs ih => rw [List.flatMap_cons, List.flatMap_cons, List.map_append, ih fun x hx => h x (List.mem_cons_of_mem _ hx)]
theorem lc_filter {α : Type} {F : α → D} {st : Store} {ds : List D} {f : D → Store → R (List D)} {p : α → Bool} {as : List α} (h : ∀ a ∈ as, f (F a) st = .ok (if p a then [F a] else []) st) : lcL st ds f (as.map F) st = .ok ((as.filter p).map F) st := by
  rw [lcL_pure F (fun a => if p a then [F a] else []) h]
  congr 1
  induction as with
  | nil => rfl
  | cons a as ih =>
    rw [List.flatMap_cons, ih fun x hx => h x (List.mem_cons_of_mem _ hx), List.filter_cons]
    cases p a <;> rfl
theorem range_split {m a : Nat} {l r : List Nat} (e : List.range m = l ++ a :: r) : a = l.length ∧ a < m := by
  have h1 : (List.range m)[l.length]? = some a := by rw [e]; simp
  obtain ⟨h2, h3⟩ := List.getElem?_eq_some_iff.mp h1
  rw [List.getElem_range] at h3
  rw [List.length_range] at h2
  exact ⟨h3.symm, by omega⟩
def envAll (c : Chan) (d h : Int) : Nat → Env
  | 0 => [some (chD c), some (.int d), some (.int h), some (rowsD (rowsTo c d h 0)), none, none, none, none, none]
  | k + 1 => [some (chD c), some (.int d), some (.int h), some (rowsD (rowsTo c d h (k + 1))), some (.int (1 + (k : Int))), some (.int (legC c k)), some (.int (waitC c k)), none, none]
def bodyAll : List S := [.unp [5, 6] (.tup [.idx (.idx (.var 0) (.cst (.int 1))) (.bin .Sub (.var 4) (.cst (.int 1))), .idx (.idx (.var 0) (.cst (.int 2))) (.bin .Sub (.var 4) (.cst (.int 1)))]),
    .asg 3 (.lc2 (.bin .Add (.var 7) (.tup [.bin .Add (.bin .Add (.idx (.var 7) (.neg (.cst (.int 1)))) (.var 5)) (.var 8)])) (.nm 7) .seq [.var 3] [] (.nm 8) .rng1 [.bin .Add (.var 6) (.cst (.int 1))] [] [7, 8] [8]),
    .asg 3 (.lc (.var 7) (.nm 7) .seq [.var 3] [.cmp .GtE (.call "depth_of" [.var 0, .var 4, .idx (.var 7) (.neg (.cst (.int 1)))]) (.var 1)] [7])]
theorem r_all (hd : S_depO (callT T "depth_of")) : S_all (runDef T d_all_from) := by
  intro c d h st w
  have n1 := w.n1
  have n3 := w.n3
  have b0 := barC_some (c := c) (k := 0) (by omega)
  have hb0 := (w.at b0).1
  have e0 : ∀ st, callT T "depth_of" [chD c, .int 0, .int h] st = .ok (.int (depB (barC c 0) h)) st := fun st => hd c 0 _ h st b0 hb0
  have hrng : -1000000 ≤ (1 : Int) ∧ (1 : Int) ≤ 1000000 ∧ -1000000 ≤ (c.bars.length : Int) ∧ (c.bars.length : Int) ≤ 1000000 := by omega
  have ebody : ∀ (r0 : List (List Int)), r0 = rowsTo c d h 0 → leave false st (kSeq T [.ret (.var 3)] (forL st [.int 1, .int (c.bars.length : Int)] (forT T (.nm 4) bodyAll) (rngD 1 (c.bars.length - 1)) [some (chD c), some (.int d), some (.int h), some (rowsD r0), none, none, none, none, none] st)) = .ok (rowsD (allFrom c d h)) st := by
    intro r0 hr0
    unfold rngD
    rw [forL_run (fun k : Nat => D.int (1 + (k : Int))) (fun l => envAll c d h l.length) ?hE ?h]
    case hE => rw [hr0]; rfl
    case h =>
      intro l k r e
      obtain ⟨hk1, hk2⟩ := range_split e
      subst hk1
      have hk : l.length + 1 < c.bars.length := by omega
      have gl := legC_some (c := c) (k := l.length) (by have := w.nl; omega)
      have gw := waitC_some (c := c) (k := l.length) (by have := w.nw; omega)
      have gb := barC_some (c := c) (k := l.length + 1) hk
      have hb1 := (w.at gb).1
      have hw := w.wait _ (List.mem_of_getElem? gw)
      have ed : ∀ x st, callT T "depth_of" [chD c, .int (1 + (l.length : Int)), .int x] st = .ok (.int (depB (barC c (l.length + 1)) x)) st := fun x st => by
        rw [show (1 + (l.length : Int)) = ((l.length + 1 : Nat) : Int) by omega]
        exact hd c _ _ x st gb hb1
      have hne : ∀ r ∈ rowsTo c d h l.length, r ≠ [] ∧ r.length ≤ 100 := fun r hr => by
        have := rows_len c d h _ r hr
        exact ⟨fun z => by rw [z] at this; simp at this, by omega⟩
      have hwr : -1000000 ≤ waitC c l.length + 1 ∧ waitC c l.length + 1 ≤ 1000000 := by omega
      have fin : ∀ env : Env, env = envAll c d h l.length → forT T (.nm 4) bodyAll (.int (1 + (l.length : Int))) env st = .ok (.next (envAll c d h (l.length + 1))) st := by
        intro env he
        obtain ⟨o4, o5, o6, rfl⟩ : ∃ o4 o5 o6, env = [some (chD c), some (.int d), some (.int h), some (rowsD (rowsTo c d h l.length)), o4, o5, o6, none, none] := by
          rw [he]
          cases l.length with
          | zero => exact ⟨_, _, _, rfl⟩
          | succ k => exact ⟨_, _, _, rfl⟩
        clear he
        have p1 : pick c.legs (1 + (l.length : Int) - 1) = some (legC c l.length) := by
          rw [show (1 + (l.length : Int) - 1) = (l.length : Int) by omega, pick_nat]; exact gl
        have p2 : pick c.waits (1 + (l.length : Int) - 1) = some (waitC c l.length) := by
          rw [show (1 + (l.length : Int) - 1) = (l.length : Int) by omega, pick_nat]; exact gw
        simp only [bodyAll, forT_eq, asgT_nm, forG_ok, List.set_cons_succ, List.set_cons_zero, xs_1, x_unp, e_tup, es_cons, e_idx, e_var, getV_n, getV_0, kIdx1_ok, e_cst, kIdx2_ok, rd_chD, ix_ch1, ix_ch2, ofO_some, e_bin, kBin1_ok, kBin2_ok, der_int, o_sub, rd_intsD, ix_ints, p1, p2, Option.map_some, kEs1_ok, es_nil, kEs2_ok, kTup_ok, kUnp_ok, der_tup, kUnp2_ok, asgs_cons, asgs_nil, kUnp3_ok, kSeq_n, x_asg, e_lc2, kLd1_ok, List.map_cons, List.map_nil, rd_rowsD, it_rowsD, kLd2_ok, wipe_cons, wipe_nil]
        rw [lc2_rows (g := more1 (legC c l.length) (waitC c l.length)) ?g]
        case g =>
          intro r hr
          obtain ⟨r1, r2⟩ := hne r hr
          simp [it_r1 hwr]
          unfold rngD
          rw [lcL_map (fun k : Nat => D.int (0 + (k : Int))) (fun k : Nat => intsD (r ++ [lastI r + legC c l.length + (k : Int)])) ?gg]
          case gg =>
            intro m _
            simp [ix_ints, pick_neg1 r1, add_ints r2]
          simp [more1, Function.comp_def]
        have hlim : (((rowsTo c d h l.length).flatMap (more1 (legC c l.length) (waitC c l.length))).map intsD).length ≤ lim := by
          rw [List.length_map]
          have hc := rows_cnt w d h l.length (by omega)
          have h4 : 4 ^ l.length ≤ 16 := Nat.le_trans (Nat.pow_le_pow_right (by omega) (show l.length ≤ 2 by omega)) (by decide)
          have := flat_cnt (legC c l.length) (w := waitC c l.length) (by omega) (rowsTo c d h l.length)
          unfold lim
          omega
        have hne2 : ∀ r ∈ (rowsTo c d h l.length).flatMap (more1 (legC c l.length) (waitC c l.length)), r ≠ [] := by
          intro r hr
          obtain ⟨row, _, h2⟩ := List.mem_flatMap.mp hr
          obtain ⟨m, _, rfl⟩ := List.mem_map.mp h2
          simp
        unfold limited
        rw [R.bind_ok, if_pos hlim]
        simp
        rw [lc_filter (F := intsD) (p := fun r => decide (d ≤ depB (barC c (l.length + 1)) (lastI r))) ?k]
        case k =>
          intro r hr
          have r1 := hne2 r hr
          by_cases hp : d ≤ depB (barC c (l.length + 1)) (lastI r)
          · simp [ix_ints, pick_neg1 r1, ed, hp]
          · simp [ix_ints, pick_neg1 r1, ed, hp]
        simp [envAll, rowsTo, ext1, rowsD]
      rw [List.length_append]
      exact fin _ rfl
    simp only [List.length_range]
    obtain ⟨o4, o5, o6, he⟩ : ∃ o4 o5 o6, envAll c d h (c.bars.length - 1) = [some (chD c), some (.int d), some (.int h), some (rowsD (rowsTo c d h (c.bars.length - 1))), o4, o5, o6, none, none] := by
      cases c.bars.length - 1 with
      | zero => exact ⟨_, _, _, rfl⟩
      | succ k => exact ⟨_, _, _, rfl⟩
    rw [he]
    simp [allFrom]
  by_cases hd0 : d ≤ depB (barC c 0) h
  · have := ebody [[h]] (by simp [rowsTo, hd0])
    simp [runDef, d_all_from, e0, hd0, it_r2 hrng]
    exact this
  · have := ebody [] (by simp [rowsTo, hd0])
    simp [runDef, d_all_from, e0, hd0, it_r2 hrng]
    exact this
/-! ### passages and what hangs on them -/
def S_chk3 (f : Fn) : Prop := ∀ (c : Chan) (d h : Int) (st : Store), WF c → 0 ≤ d → d ≤ 6 → 0 ≤ h → h ≤ 999 → f [chD c, .int d, .int h] st = .ok .non st
theorem r_chk3 (h1 : S_chk (callT T "check_channel")) (h2 : S_chkR 0 6 (callT T "check_draught")) (h3 : S_chkR 0 999 (callT T "check_hour")) : S_chk3 (runDef T d_check_three) := by
  intro c d h st w d0 d6 a b
  simp [runDef, d_check_three, h1 c st w, h2 d st d0 d6, h3 h st a b]
def rowsT (rows : List (List Int)) : D := .tup (rows.map intsD)
@[simp] theorem der_rowsT (st : Store) (rows : List (List Int)) : der st (rowsT rows) = rowsT rows := nrfl rfl
@[simp] theorem rd_rowsT (st : Store) (rows : List (List Int)) : rd st (rowsT rows) = rowsT rows := nrfl rfl
@[simp] theorem frz_rowsT (k : Nat) (st : Store) (rows : List (List Int)) : frz k st (rowsT rows) = some (rowsT rows) := frz_tup k st _ (under_rows k rows)
@[simp] theorem it_rowsT (rows : List (List Int)) : iter .seq [rowsT rows] = some (rows.map intsD) := nrfl rfl
@[simp] theorem b_tupR (rows : List (List Int)) : bltin "tuple" [rowsD rows] = some (rowsT rows) := nrfl rfl
def S_passes (f : Fn) : Prop := ∀ (c : Chan) (d h : Int) (st : Store), WF c → 0 ≤ d → d ≤ 6 → 0 ≤ h → h ≤ 999 → f [chD c, .int d, .int h] st = .ok (rowsT (allFrom c d h)) st
theorem r_passes (h1 : S_chk3 (callT T "check_three")) (h2 : S_all (callT T "all_from")) : S_passes (runDef T d_passages) := by
  intro c d h st w d0 d6 a b
  simp [runDef, d_passages, h1 c d h st w d0 d6 a b, h2 c d h st w]
def optI : Option Int → D
  | some i => .int i
  | none => .non
@[simp] theorem der_optI (st : Store) (o : Option Int) : der st (optI o) = optI o := by cases o <;> rfl
@[simp] theorem rd_optI (st : Store) (o : Option Int) : rd st (optI o) = optI o := by cases o <;> rfl
@[simp] theorem frz_optI (k : Nat) (st : Store) (o : Option Int) : frz k st (optI o) = some (optI o) := by cases o <;> rfl
theorem eq_optI (o : Option Int) : cmpop .NotEq (optI o) (optI o) = some false := by cases o <;> exact ne_same rfl
theorem b_minI (ns : List Int) : bltin "min" [.lst (ns.map .int)] = (minI ns).map .int := by
  show (match toInts (ns.map D.int) with | some ns => (minI ns).map D.int | none => if likeAll (ns.map D.int) then minD (ns.map D.int) else none) = _
  rw [toInts_map]
theorem b_maxI (ns : List Int) : bltin "max" [.lst (ns.map .int)] = (maxI ns).map .int := by
  rw [b_max_l, toInts_map]; rfl
theorem b_sumT (ns : List Int) : bltin "sum" [intsD ns] = some (.int ns.sum) := by
  show (toInts (ns.map D.int)).map _ = _
  rw [toInts_map]; rfl
theorem b_minT (ns : List Int) : bltin "min" [intsD ns] = (minI ns).map .int := by
  show (toInts (ns.map D.int)).bind _ = _
  rw [toInts_map]; rfl
theorem b_maxT (ns : List Int) : bltin "max" [intsD ns] = (maxI ns).map .int := by
  show (toInts (ns.map D.int)).bind _ = _
  rw [toInts_map]; rfl
/-- min(some) if some != [] else None -/
theorem min_or {env : Env} {st : Store} {i : Nat} {ns : List Int} (h : getV env i st = .ok (.lst (ns.map .int)) st) : evE T (.ite (.cmp .NotEq (.var i) (.lst [])) (.blt "min" [.var i]) (.cst .non)) env st = .ok (optI (minI ns)) st := by
  simp [h, ne_nil _ (good_ints 7 ns)]
  cases ns with
  | nil => simp [optI, minI]
  | cons n ns =>
    simp [h]
    have := b_minI (n :: ns)
    simp only [List.map_cons] at this
    rw [this]
    simp [minI, optI]
def S_soonF (f : Fn) : Prop := ∀ (c : Chan) (d h : Int) (st : Store), WF c → f [chD c, .int d, .int h] st = .ok (optI (minI ((allFrom c d h).map lastI))) st
def S_soon (f : Fn) : Prop := ∀ (c : Chan) (d h : Int) (st : Store), WF c → 0 ≤ d → d ≤ 6 → 0 ≤ h → h ≤ 999 → f [chD c, .int d, .int h] st = .ok (optI (minI ((allFrom c d h).map lastI))) st
theorem all_ne {c : Chan} {d h : Int} {r : List Int} (hr : r ∈ allFrom c d h) : r ≠ [] := fun z => by
  have := rows_len c d h _ r hr
  rw [z] at this
  simp at this
theorem r_soonF (h2 : S_all (callT T "all_from")) : S_soonF (runDef T d_soonest_from) := by
  intro c d h st w
  simp [runDef, d_soonest_from, h2 c d h st w, -e_ite]
  rw [lcL_map intsD (fun r => D.int (lastI r)) ?g]
  case g =>
    intro r hr
    simp [ix_ints, pick_neg1 (all_ne hr)]
  have e : (allFrom c d h).map (fun r => D.int (lastI r)) = ((allFrom c d h).map lastI).map D.int := by rw [List.map_map]; rfl
  simp only [kLst_ok, kAsg_ok, kSeq_n, xs_1, x_ret, List.set_cons_succ, List.set_cons_zero]
  rw [min_or (ns := (allFrom c d h).map lastI) (by rw [e]; rfl)]
  simp
theorem r_soon (h1 : S_chk3 (callT T "check_three")) (h2 : S_soonF (callT T "soonest_from")) : S_soon (runDef T d_soonest) := by
  intro c d h st w d0 d6 a b
  simp [runDef, d_soonest, h1 c d h st w d0 d6 a b, h2 c d h st w]
/-- the hours that a row waits -/
def idleI (c : Chan) (r : List Int) : Int := lastI r - r.head?.getD 0 - c.legs.sum
theorem pick_head {r : List Int} (h : r ≠ []) : pick r 0 = some (r.head?.getD 0) := by
  cases r with
  | nil => exact absurd rfl h
  | cons x r => rfl
def S_fewest (f : Fn) : Prop := ∀ (c : Chan) (d h : Int) (st : Store), WF c → 0 ≤ d → d ≤ 6 → 0 ≤ h → h ≤ 999 → f [chD c, .int d, .int h] st = .ok (optI (minI ((allFrom c d h).map (idleI c)))) st
theorem r_fewest (h1 : S_chk3 (callT T "check_three")) (h2 : S_all (callT T "all_from")) : S_fewest (runDef T d_fewest_waits) := by
  intro c d h st w d0 d6 a b
  simp [runDef, d_fewest_waits, h1 c d h st w d0 d6 a b, h2 c d h st w, -e_ite]
  rw [lcL_map intsD (fun r => D.int (idleI c r)) ?g]
  case g =>
    intro r hr
    have hn := all_ne hr
    have := pick_head hn
    rw [pick_0] at this
    simp [ix_ints, pick_neg1 hn, this, b_sumT, idleI]
  have e : (allFrom c d h).map (fun r => D.int (idleI c r)) = ((allFrom c d h).map (idleI c)).map D.int := by rw [List.map_map]; rfl
  simp only [kLst_ok, kAsg_ok, kSeq_n, xs_1, x_ret, List.set_cons_succ, List.set_cons_zero]
  rw [min_or (ns := (allFrom c d h).map (idleI c)) (by rw [e]; rfl)]
  simp
/-! ### is it a passage -/
theorem forL_test0 {α : Type} (F : α → D) (E : List α → Env) (p : α → Bool) (d : D) {st : Store} {ds : List D} {f : D → Env → Store → R Out} : ∀ {as pre : List α}, (∀ (l : List α) (a : α) (r : List α), pre ++ as = l ++ a :: r → pre.length ≤ l.length → f (F a) (E l) st = if p a = true then .ok (.next (E (l ++ [a]))) st else .ok (.ret d) st) →
    forL st ds f (as.map F) (E pre) st = if as.all p = true then .ok (.next (E (pre ++ as))) st else .ok (.ret d) st
  | [], pre, _ => by rw [List.append_nil]; rfl
  | a :: as, pre, h => by
    rw [List.map_cons, forL, h pre a as rfl (Nat.le_refl _), List.all_cons]
    cases hp : p a with
    | false => rfl
    | true =>
      rw [if_pos rfl, R.bind_ok, Bool.true_and]
      show chk st ds st _ = _
      rw [chk_same, forL_test0 F E p d (as := as) (pre := pre ++ [a]) fun l b r e hl => h l b r (by rw [← e]; simp) (by simp at hl; omega)]
      simp
theorem forL_test {α : Type} (F : α → D) (E : List α → Env) (p : α → Bool) (d : D) {st : Store} {ds : List D} {f : D → Env → Store → R Out} {env : Env} {as : List α} (hE : E [] = env) (h : ∀ (l : List α) (a : α) (r : List α), as = l ++ a :: r → f (F a) (E l) st = if p a = true then .ok (.next (E (l ++ [a]))) st else .ok (.ret d) st) :
    forL st ds f (as.map F) env st = if as.all p = true then .ok (.next (E as)) st else .ok (.ret d) st := by
  subst hE
  have := forL_test0 (st := st) (ds := ds) (f := f) F E p d (as := as) (pre := []) fun l a r e _ => h l a r e
  simpa using this
def atI (row : List Int) (k : Nat) : Int := row[k]?.getD 0
theorem enumD_eq0 : ∀ (row : List Int) (i : Nat), enumD i (row.map .int) = (List.range row.length).map fun (k : Nat) => .tup [.int ((i + k : Nat) : Int), .int (atI row k)]
  | [], i => rfl
  | x :: row, i => by
    rw [List.map_cons, enumD, enumD_eq0 row (i + 1), List.length_cons, List.range_succ_eq_map, List.map_cons, List.map_map]
    congr 1
    refine List.map_congr_left fun k _ => ?_
    simp only [Function.comp_def, atI, List.getElem?_cons_succ]
    congr 4
    omega
theorem enumD_eq (row : List Int) : enumD 0 (row.map .int) = (List.range row.length).map fun (k : Nat) => .tup [.int (k : Int), .int (atI row k)] := by
  rw [enumD_eq0]
  refine List.map_congr_left fun k _ => ?_
  rw [Nat.zero_add]
def okAt (c : Chan) (d : Int) (row : List Int) (k : Nat) : Bool :=
  decide (d ≤ depB (barC c k) (atI row k)) && (k == 0 || (decide (0 ≤ atI row k - atI row (k - 1) - legC c (k - 1)) && decide (atI row k - atI row (k - 1) - legC c (k - 1) ≤ waitC c (k - 1))))
def okRow (c : Chan) (d : Int) (row : List Int) : Bool := (List.range row.length).all (okAt c d row)
def S_found (f : Fn) : Prop := ∀ (c : Chan) (d : Int) (row : List Int) (st : Store), WF c → row.length = c.bars.length → f [chD c, .int d, intsD row] st = .ok (.bl (okRow c d row)) st
theorem r_found (hd : S_depO (callT T "depth_of")) : S_found (runDef T d_is_found) := by
  intro c d row st w hl
  simp [runDef, d_is_found, intsD]
  rw [enumD_eq, forL_test (fun k : Nat => D.tup [.int (k : Int), .int (atI row k)]) (fun l => [some (chD c), some (.int d), some (intsD row), l.getLast?.map fun k => .int (k : Int), l.getLast?.map fun k => .int (atI row k)]) (okAt c d row) (.bl false) ?hE ?h]
  case hE => rfl
  case h =>
    intro l k r e
    obtain ⟨_, hk⟩ := range_split e
    have gb := barC_some (c := c) (k := k) (by omega)
    have hb1 := (w.at gb).1
    have ed : ∀ x st, callT T "depth_of" [chD c, .int (k : Int), .int x] st = .ok (.int (depB (barC c k) x)) st := fun x st => hd c _ _ x st gb hb1
    by_cases h1 : d ≤ depB (barC c k) (atI row k)
    · have h1' : ¬ depB (barC c k) (atI row k) < d := by omega
      cases k with
      | zero =>
        have ed0 : ∀ st, callT T "depth_of" [chD c, .int 0, .int (atI row 0)] st = .ok (.int (depB (barC c 0) (atI row 0))) st := fun st => ed (atI row 0) st
        simp [ed0, h1', okAt, h1]
      | succ k =>
        have gl := legC_some (c := c) (k := k) (by have := w.nl; omega)
        have gw := waitC_some (c := c) (k := k) (by have := w.nw; omega)
        have gr : row[k]? = some (atI row k) := by unfold atI; rw [List.getElem?_eq_getElem (by omega)]; rfl
        have p0 : (((k + 1 : Nat) : Int) - 1) = (k : Int) := by omega
        have q0 : (0 : Int) < ((k + 1 : Nat) : Int) := by omega
        have ed' := ed (atI row (k + 1)) st
        by_cases a1 : 0 ≤ atI row (k + 1) - atI row k - legC c k
        · have a1' : legC c k ≤ atI row (k + 1) - atI row k := by omega
          by_cases a2 : atI row (k + 1) - atI row k - legC c k ≤ waitC c k
          · simp [-Int.natCast_add, ed', h1', okAt, h1, p0, q0, ix_ints, gl, gw, gr, a1', a2]
          · simp [-Int.natCast_add, ed', h1', okAt, h1, p0, q0, ix_ints, gl, gw, gr, a1', a2]
        · have a1' : ¬ legC c k ≤ atI row (k + 1) - atI row k := by omega
          simp [-Int.natCast_add, ed', h1', okAt, h1, p0, q0, ix_ints, gl, gw, gr, a1']
    · have h1' : depB (barC c k) (atI row k) < d := by omega
      simp [ed, h1', okAt, h1]
  unfold okRow
  cases (List.range row.length).all (okAt c d row) <;> simp
end TW
/-! TwPass2: passages in order, their members, their moves. -/
namespace TW
open PySem (Str Operator CmpOp)
variable {T : Tab}
/-! ### order -/
def ltR : List Int → List Int → Bool
  | _, [] => false
  | [], _ :: _ => true
  | x :: xs, y :: ys => if x == y then ltR xs ys else decide (x < y)
theorem ltL_ints : ∀ a b : List Int, D.ltL (a.map .int) (b.map .int) = ltR a b
  | [], [] => by simp [D.ltL, ltR]
  | x :: a, [] => by simp [D.ltL, ltR]
  | [], y :: b => by simp [D.ltL, ltR]
  | x :: a, y :: b => by simp [D.ltL, ltR, D.eqv, D.lt, ltL_ints a b]
theorem lt_intsD (a b : List Int) : D.lt (intsD a) (intsD b) = ltR a b := by
  show D.ltL (a.map .int) (b.map .int) = _
  exact ltL_ints a b
theorem ltR_append : ∀ {a b : List Int} (x y : List Int), a.length = b.length → ltR a b = true → ltR (a ++ x) (b ++ y) = true
  | [], [], _, _, _, h => by simp [ltR] at h
  | [], _ :: _, _, _, e, _ => by simp at e
  | _ :: _, [], _, _, e, _ => by simp at e
  | p :: a, q :: b, x, y, e, h => by
    simp only [ltR, List.cons_append] at h ⊢
    split at h
    · rename_i hpq
      rw [if_pos hpq]
      exact ltR_append x y (by simpa using e) h
    · rename_i hpq
      rw [if_neg hpq]
      exact h
theorem ltR_same : ∀ (a x y : List Int), ltR (a ++ x) (a ++ y) = ltR x y
  | [], _, _ => rfl
  | p :: a, x, y => by simp [ltR, ltR_same a x y]
theorem ltR_asymm : ∀ {a b : List Int}, ltR a b = true → ltR b a = false
  | _, [], h => by simp [ltR] at h
  | [], _ :: _, _ => by simp [ltR]
  | x :: a, y :: b, h => by
    simp only [ltR] at h ⊢
    by_cases e : x = y
    · subst e
      simp at h ⊢
      exact ltR_asymm h
    · have e1 : (x == y) = false := by simpa using e
      have e2 : (y == x) = false := by simpa using fun z : y = x => e z.symm
      rw [e1] at h
      rw [e2]
      simp at h ⊢
      omega
theorem rows_lt (c : Chan) (d h : Int) : ∀ k, (rowsTo c d h k).Pairwise fun a b => ltR a b = true
  | 0 => by
    unfold rowsTo
    split <;> simp
  | k + 1 => by
    have ih := rows_lt c d h k
    unfold rowsTo ext1
    refine List.Pairwise.filter _ ?_
    rw [List.pairwise_flatMap]
    constructor
    · intro r hr
      unfold more1
      rw [List.pairwise_map]
      have : (List.range (waitC c k + 1).toNat).Pairwise fun a b => a < b := List.pairwise_lt_range
      refine this.imp fun {a b} hab => ?_
      rw [ltR_same]
      simp only [ltR]
      have e : ((lastI r + legC c k + (a : Int)) == (lastI r + legC c k + (b : Int))) = false := by
        simp only [beq_eq_false_iff_ne, ne_eq]; omega
      rw [e]
      simp
      omega
    · refine List.Pairwise.imp_of_mem ?_ ih
      intro a b ha hb hab x hx y hy
      unfold more1 at hx hy
      obtain ⟨m, _, rfl⟩ := List.mem_map.mp hx
      obtain ⟨n, _, rfl⟩ := List.mem_map.mp hy
      exact ltR_append _ _ (by rw [rows_len c d h k a ha, rows_len c d h k b hb]) hab
theorem sort_rows {rows : List (List Int)} (h : rows.Pairwise fun a b => ltR a b = true) : sortD (rows.map intsD) = rows.map intsD := by
  unfold sortD
  refine List.mergeSort_of_pairwise ?_
  rw [List.pairwise_map]
  refine h.imp fun {a b} hab => ?_
  unfold leD
  rw [lt_intsD, ltR_asymm hab]
  rfl
theorem like_ints : ∀ a b : List Int, D.likeL (a.map .int) (b.map .int) = true
  | [], _ => by simp [D.likeL]
  | _ :: _, [] => by simp [D.likeL]
  | x :: a, y :: b => by simp [D.likeL, D.like, like_ints a b]
theorem ord_ints (n : Nat) (xs : List Int) : (xs.map D.int).all (D.ord n) = true := by
  simp only [List.all_map, List.all_eq_true]
  intro x _
  cases n <;> rfl
theorem like_rows (rows : List (List Int)) : likeAll (rows.map intsD) = true := by
  unfold likeAll
  simp only [Bool.and_eq_true, List.all_map, List.all_eq_true, Function.comp_def]
  refine ⟨fun r _ => ?_, fun r _ s _ => ?_⟩
  · show (r.map D.int).all (D.ord 3) = true
    exact ord_ints 3 r
  · show D.likeL (r.map .int) (s.map .int) = true
    exact like_ints r s
theorem sorted_rows {rows : List (List Int)} (h : rows.Pairwise fun a b => ltR a b = true) (hn : ∀ r ∈ rows, r ≠ []) : bltin "sorted" [rowsD rows] = some (rowsD rows) := by
  have h2 : sortOk (rows.map intsD) = true := by
    unfold sortOk
    rw [Bool.or_eq_true]
    left
    simp only [List.all_map, List.all_eq_true]
    intro r hr
    cases r with
    | nil => exact absurd rfl (hn _ hr)
    | cons x r => rfl
  show (if likeAll (rows.map intsD) && sortOk (rows.map intsD) then some (D.lst (sortD (rows.map intsD))) else none) = _
  rw [like_rows, h2, sort_rows h]
  rfl
/-! ### members -/
theorem atI_append_lt {pre : List Int} {x : List Int} {j : Nat} (h : j < pre.length) : atI (pre ++ x) j = atI pre j := by
  unfold atI
  rw [List.getElem?_append_left h]
theorem atI_append_eq (pre : List Int) (x : Int) : atI (pre ++ [x]) pre.length = x := by
  unfold atI
  simp
theorem lastI_append (pre : List Int) (x : Int) : lastI (pre ++ [x]) = x := by
  unfold lastI; simp
theorem lastI_at {row : List Int} {k : Nat} (h : row.length = k + 1) : lastI row = atI row k := by
  unfold lastI atI
  rw [List.getLast?_eq_getElem?, h]; rfl
theorem split_last {row : List Int} {k : Nat} (h : row.length = k + 1) : ∃ pre x, row = pre ++ [x] ∧ pre.length = k := by
  have hn : row ≠ [] := fun z => by rw [z] at h; simp at h
  refine ⟨row.dropLast, row.getLast hn, (List.dropLast_concat_getLast hn).symm, by simp [h]⟩
theorem okAt_append {c : Chan} {d : Int} {pre x : List Int} {j : Nat} (h : j < pre.length) : okAt c d (pre ++ x) j = okAt c d pre j := by
  unfold okAt
  rw [atI_append_lt h, atI_append_lt (show j - 1 < pre.length by omega)]
theorem mem_rows (c : Chan) (d h : Int) : ∀ (k : Nat) (row : List Int), row ∈ rowsTo c d h k ↔ row.length = k + 1 ∧ atI row 0 = h ∧ ∀ j, j ≤ k → okAt c d row j = true
  | 0, row => by
    unfold rowsTo
    constructor
    · intro hm
      split at hm
      · rename_i hd
        simp at hm
        subst hm
        refine ⟨rfl, rfl, fun j hj => ?_⟩
        obtain rfl : j = 0 := by omega
        simp [okAt, atI, hd]
      · cases hm
    · rintro ⟨h1, h2, h3⟩
      match row, h1 with
      | [x], _ =>
        have h0 := h3 0 (by omega)
        simp [okAt] at h0
        have hx : x = h := h2
        subst hx
        rw [if_pos (by simpa [atI] using h0)]
        simp
  | k + 1, row => by
    have ih := mem_rows c d h k
    unfold rowsTo ext1
    rw [List.mem_filter, List.mem_flatMap]
    constructor
    · rintro ⟨⟨pre, hp, hm⟩, hd⟩
      obtain ⟨m, hm1, rfl⟩ := List.mem_map.mp hm
      obtain ⟨l1, l2, l3⟩ := (ih pre).mp hp
      rw [lastI_append] at hd
      rw [List.mem_range] at hm1
      refine ⟨by simp [l1], by rw [atI_append_lt (by omega)]; exact l2, fun j hj => ?_⟩
      by_cases hjk : j ≤ k
      · rw [okAt_append (by omega)]
        exact l3 j hjk
      · obtain rfl : j = k + 1 := by omega
        unfold okAt
        have e1 : atI (pre ++ [lastI pre + legC c k + (m : Int)]) (k + 1) = lastI pre + legC c k + (m : Int) := by
          have := atI_append_eq pre (lastI pre + legC c k + (m : Int))
          rwa [l1] at this
        have e2 : atI (pre ++ [lastI pre + legC c k + (m : Int)]) (k + 1 - 1) = lastI pre := by
          rw [lastI_at l1]
          exact atI_append_lt (by omega)
        rw [e1, e2]
        simp at hd ⊢
        refine ⟨hd, ?_⟩
        omega
    · rintro ⟨h1, h2, h3⟩
      obtain ⟨pre, x, rfl, hl⟩ := split_last h1
      have hk := h3 (k + 1) (by omega)
      have e1 : atI (pre ++ [x]) (k + 1) = x := by
        have := atI_append_eq pre x
        rwa [hl] at this
      have e2 : atI (pre ++ [x]) (k + 1 - 1) = lastI pre := by
        rw [lastI_at hl]
        exact atI_append_lt (by omega)
      unfold okAt at hk
      rw [e1, e2] at hk
      simp at hk
      refine ⟨⟨pre, (ih pre).mpr ⟨hl, ?_, fun j hj => ?_⟩, ?_⟩, ?_⟩
      · rw [← h2]; exact (atI_append_lt (by omega)).symm
      · rw [← okAt_append (x := [x]) (by omega)]
        exact h3 j (by omega)
      · unfold more1
        refine List.mem_map.mpr ⟨(x - lastI pre - legC c k).toNat, List.mem_range.mpr (by omega), ?_⟩
        congr 2
        omega
      · rw [lastI_append]
        exact decide_eq_true hk.1
theorem okRow_iff {c : Chan} {d : Int} {row : List Int} : okRow c d row = true ↔ ∀ j, j < row.length → okAt c d row j = true := by
  unfold okRow
  simp
theorem mem_all {c : Chan} (w : WF c) {d h : Int} {row : List Int} : row ∈ allFrom c d h ↔ row.length = c.bars.length ∧ atI row 0 = h ∧ okRow c d row = true := by
  unfold allFrom
  have := w.n1
  rw [mem_rows, okRow_iff]
  constructor
  · rintro ⟨a, b, e⟩
    exact ⟨by omega, b, fun j hj => e j (by omega)⟩
  · rintro ⟨a, b, e⟩
    exact ⟨by omega, b, fun j hj => e j (by omega)⟩
/-- within so many hours -/
theorem row_bounds {c : Chan} (w : WF c) {d h : Int} : ∀ (k : Nat), k < c.bars.length → ∀ row ∈ rowsTo c d h k, ∀ x ∈ row, h ≤ x ∧ x ≤ h + 12 * (k : Int)
  | 0, _, row, hr, x, hx => by
    unfold rowsTo at hr
    split at hr
    · simp at hr; subst hr; simp at hx; omega
    · cases hr
  | k + 1, hk, row, hr, x, hx => by
    have ih := row_bounds w (d := d) (h := h) k (by omega)
    unfold rowsTo ext1 at hr
    rw [List.mem_filter, List.mem_flatMap] at hr
    obtain ⟨⟨pre, hp, hm⟩, _⟩ := hr
    obtain ⟨m, hm1, rfl⟩ := List.mem_map.mp hm
    rw [List.mem_range] at hm1
    have hw := w.wait (waitC c k) (List.mem_of_getElem? (waitC_some (by have := w.nw; omega)))
    have hl := w.leg (legC c k) (List.mem_of_getElem? (legC_some (by have := w.nl; omega)))
    have hlen := rows_len c d h k pre hp
    have hlast : lastI pre ∈ pre := by
      unfold lastI
      cases hq : pre.getLast? with
      | none => simp at hq; rw [hq] at hlen; simp at hlen
      | some y => exact List.mem_of_getLast? hq
    rcases List.mem_append.mp hx with q | q
    · have := ih pre hp x q
      omega
    · simp at q
      have := ih pre hp _ hlast
      omega
theorem all_bounds {c : Chan} (w : WF c) {d h : Int} {row : List Int} (hr : row ∈ allFrom c d h) : ∀ x ∈ row, h ≤ x ∧ x ≤ h + 24 := by
  intro x hx
  have h1 := w.n1
  have h3 := w.n3
  have := row_bounds w (d := d) (h := h) (c.bars.length - 1) (by omega) row hr x hx
  omega
/-! ### moves -/
theorem rows_move {c c' : Chan} {d d' s : Int} (hb : ∀ k t, (d ≤ depB (barC c k) t) ↔ (d' ≤ depB (barC c' k) (t + s))) (hl : c'.legs = c.legs) (hw : c'.waits = c.waits) (h : Int) : ∀ k, rowsTo c' d' (h + s) k = (rowsTo c d h k).map fun r => r.map (· + s)
  | 0 => by
    unfold rowsTo
    by_cases q : d ≤ depB (barC c 0) h
    · rw [if_pos q, if_pos ((hb 0 h).mp q)]; rfl
    · rw [if_neg q, if_neg fun z => q ((hb 0 h).mpr z)]; rfl
  | k + 1 => by
    have ih := rows_move hb hl hw h k
    have el : legC c' k = legC c k := by unfold legC; rw [hl]
    have ew : waitC c' k = waitC c k := by unfold waitC; rw [hw]
    unfold rowsTo ext1
    rw [ih, el, ew]
    have hne : ∀ r ∈ rowsTo c d h k, r ≠ [] := fun r hr z => by
      have := rows_len c d h k r hr
      rw [z] at this; simp at this
    have e1 : ((rowsTo c d h k).map fun r => r.map (· + s)).flatMap (more1 (legC c k) (waitC c k)) = ((rowsTo c d h k).flatMap (more1 (legC c k) (waitC c k))).map fun r => r.map (· + s) := by
      rw [List.flatMap_map, List.map_flatMap]
      refine flatMap_congr_mem fun r hr => ?_
      unfold more1
      rw [List.map_map]
      refine List.map_congr_left fun m _ => ?_
      have : lastI (r.map (· + s)) = lastI r + s := by
        unfold lastI
        rw [List.getLast?_map]
        cases hq : r.getLast? with
        | none => exact absurd (by simpa using hq) (hne r hr)
        | some y => rfl
      simp only [Function.comp_def, List.map_append, List.map_cons, List.map_nil]
      rw [this]
      congr 2
      omega
    rw [e1, List.filter_map]
    congr 1
    refine List.filter_congr fun r hr => ?_
    obtain ⟨pre, _, hm⟩ := List.mem_flatMap.mp hr
    obtain ⟨m, _, rfl⟩ := List.mem_map.mp hm
    simp only [Function.comp_def, List.map_append, List.map_cons, List.map_nil, lastI_append]
    exact decide_eq_decide.mpr (hb (k + 1) _).symm
where
  flatMap_congr_mem {α β : Type} {f g : α → List β} : ∀ {l : List α}, (∀ a ∈ l, f a = g a) → l.flatMap f = l.flatMap g
    | [], _ => rfl
    | a :: l, h => by rw [List.flatMap_cons, List.flatMap_cons, h a List.mem_cons_self, flatMap_congr_mem fun b hb => h b (List.mem_cons_of_mem _ hb)]
theorem all_move {c c' : Chan} {d d' s : Int} (hb : ∀ k t, (d ≤ depB (barC c k) t) ↔ (d' ≤ depB (barC c' k) (t + s))) (hl : c'.legs = c.legs) (hw : c'.waits = c.waits) (hn : c'.bars.length = c.bars.length) (h : Int) : allFrom c' d' (h + s) = (allFrom c d h).map fun r => r.map (· + s) := by
  unfold allFrom
  rw [hn]
  exact rows_move hb hl hw h _
theorem depB_per {c : Chan} (w : WF c) (k : Nat) (t : Int) {m : Int} (hm : (perC c : Int) ∣ m) : depB (barC c k) (t + m) = depB (barC c k) t := by
  by_cases hk : k < c.bars.length
  · have hb := barC_some hk
    have hd := (perC_facts w).2.2.1 _ (List.mem_of_getElem? hb)
    refine depB_congr ?_
    rw [Int.add_emod, Int.emod_eq_zero_of_dvd (Int.dvd_trans (Int.natCast_dvd_natCast.mpr hd) hm)]
    simp
  · have : barC c k = [] := by
      unfold barC
      rw [List.getElem?_eq_none (by omega)]; rfl
    rw [this]
    simp [depB]
theorem all_per {c : Chan} (w : WF c) {d h m : Int} (hm : (perC c : Int) ∣ m) : allFrom c d (h + m) = (allFrom c d h).map fun r => r.map (· + m) :=
  all_move (fun k t => by rw [depB_per w k t hm]) rfl rfl rfl h
theorem mem_mono {c : Chan} (w : WF c) {d d' h : Int} {row : List Int} (hd : d' ≤ d) (hr : row ∈ allFrom c d h) : row ∈ allFrom c d' h := by
  rw [mem_all w] at hr ⊢
  refine ⟨hr.1, hr.2.1, ?_⟩
  have := hr.2.2
  rw [okRow_iff] at this ⊢
  intro j hj
  have := this j hj
  unfold okAt at this ⊢
  simp only [Bool.and_eq_true, decide_eq_true_eq] at this ⊢
  exact ⟨by omega, this.2⟩
/-! ### is_passage -/
def inT (row : List Int) : Bool := row.all fun v => decide (0 ≤ v) && decide (v ≤ 2000)
def isPass (c : Chan) (d : Int) (row : List Int) : Bool := decide (row.length = c.bars.length) && (inT row && okRow c d row)
def S_isp (f : Fn) : Prop := ∀ (c : Chan) (d : Int) (row : List Int) (st : Store), WF c → 0 ≤ d → d ≤ 6 → f [chD c, .int d, intsD row] st = .ok (.bl (isPass c d row)) st
def S_ispN (f : Fn) : Prop := ∀ (c : Chan) (d : Int) (st : Store), WF c → 0 ≤ d → d ≤ 6 → f [chD c, .int d, .non] st = .ok (.bl false) st
def S_areN (f : Fn) : Prop := ∀ (n lo hi : Int) (st : Store), f [.non, .int n, .int lo, .int hi] st = .ok (.bl false) st
theorem r_areN : S_areN (runDef T d_are_between) := by
  intro n lo hi st
  simp [runDef, d_are_between, isTy]
theorem r_isp (h1 : S_chk (callT T "check_channel")) (h2 : S_chkR 0 6 (callT T "check_draught")) (h3 : S_are (callT T "are_between")) (h4 : S_found (callT T "is_found")) : S_isp (runDef T d_is_passage) := by
  intro c d row st w d0 d6
  have e3 := h3 row c.bars.length 0 2000 st
  by_cases hl : row.length = c.bars.length
  · have hl' : (row.length : Int) = (c.bars.length : Int) := by omega
    rw [decide_eq_true hl'] at e3
    rw [show (row.all fun v => decide (0 ≤ v) && decide (v ≤ 2000)) = inT row from rfl] at e3
    cases hi : inT row with
    | true =>
      rw [hi] at e3
      simp [runDef, d_is_passage, h1 c st w, h2 d st d0 d6, e3, h4 c d row st w hl, isPass, hl, hi]
    | false =>
      rw [hi] at e3
      simp [runDef, d_is_passage, h1 c st w, h2 d st d0 d6, e3, isPass, hl, hi]
  · have hl' : ¬ (row.length : Int) = (c.bars.length : Int) := by omega
    rw [decide_eq_false hl'] at e3
    simp [runDef, d_is_passage, h1 c st w, h2 d st d0 d6, e3, isPass, hl]
theorem r_ispN (h1 : S_chk (callT T "check_channel")) (h2 : S_chkR 0 6 (callT T "check_draught")) (h3 : S_areN (callT T "are_between")) : S_ispN (runDef T d_is_passage) := by
  intro c d st w d0 d6
  simp [runDef, d_is_passage, h1 c st w, h2 d st d0 d6, h3 (c.bars.length : Int) 0 2000 st]
theorem isPass_mem {c : Chan} (w : WF c) {d : Int} {row : List Int} (ht : inT row = true) : isPass c d row = true ↔ row ∈ allFrom c d (atI row 0) := by
  rw [mem_all w]
  unfold isPass
  simp [ht]
end TW
/-! TwPass3: loops over a store that grows; the law's own passages. -/
namespace TW
open PySem (Str Operator CmpOp)
variable {T : Tab}
theorem chk_ok {α : Type} {st0 st : Store} {ds : List D} {r : R α} (h : ∀ d ∈ ds, der st d = der st0 d) : chk st0 ds st r = r := by
  unfold chk
  rw [if_pos]
  refine List.all_eq_true.mpr fun d hd => ?_
  have := h d hd
  cases d <;> first | rfl | (rw [this]; exact D.same_refl _)
/-- a for with an invariant -/
theorem forL_inv2 {α : Type} (F : α → D) {st0 : Store} {ds : List D} {f : D → Env → Store → R Out} (I : List α → Env → Store → Prop) (hn : ∀ l env st, I l env st → ∀ d ∈ ds, der st d = der st0 d) : ∀ (as pre : List α) (env : Env) (st : Store), I pre env st →
    (∀ (l : List α) (a : α) (r : List α) (env : Env) (st : Store), pre ++ as = l ++ a :: r → I l env st → Ok (f (F a) env st) fun o st' => ∃ env', o = .next env' ∧ I (l ++ [a]) env' st') →
    Ok (forL st0 ds f (as.map F) env st) fun o st' => ∃ env', o = .next env' ∧ I (pre ++ as) env' st'
  | [], pre, env, st, h, _ => Ok.ok ⟨env, rfl, by simpa using h⟩
  | a :: as, pre, env, st, h, hs => by
    rw [List.map_cons, forL]
    refine Ok.bind (hs pre a as env st rfl h) fun o st1 ⟨env1, e, h1⟩ => ?_
    subst e
    show Ok (chk _ _ _ _) _
    rw [chk_ok (hn _ _ _ h1)]
    have := forL_inv2 F (st0 := st0) I hn as (pre ++ [a]) env1 st1 h1 fun l b r env st e q => hs l b r env st (by rw [← e]; simp) q
    simpa using this
theorem noref_der {ds : List D} (h : noref ds = true) (st st0 : Store) : ∀ d ∈ ds, der st d = der st0 d := by
  intro d hd
  have := List.all_eq_true.mp h d hd
  cases d <;> first | rfl | cases this
/-- a for, then the rest; what is to be shown stays hidden -/
theorem for_seq {α : Type} (F : α → D) (I : List α → Env → Store → Prop) {s : List S} {st0 : Store} {ds : List D} {f : D → Env → Store → R Out} {as : List α} {env : Env} {st : Store} {P : Out → Store → Prop} (hn : ∀ l env st, I l env st → ∀ d ∈ ds, der st d = der st0 d) (h0 : I [] env st)
    (hs : ∀ (l : List α) (a : α) (r : List α) (env : Env) (st : Store), as = l ++ a :: r → I l env st → ∀ Q : Out → Store → Prop, (∀ env' st', I (l ++ [a]) env' st' → Q (.next env') st') → Ok (f (F a) env st) Q)
    (rest : ∀ env' st', I as env' st' → Ok (evSs T s env' st') P) : Ok (kSeq T s (forL st0 ds f (as.map F) env st)) P := by
  obtain ⟨_, st', e, env', rfl, hq⟩ := forL_inv2 F I hn as [] env st h0 fun l a r env st e hI => hs l a r env st e hI _ fun env' st' q => ⟨env', rfl, q⟩
  rw [e]
  exact rest env' st' hq
theorem lv_ok {k : Bool} {st : Store} {r : R Out} {Y : R D} (h : ∀ Q : Out → Store → Prop, (∀ o st', leave k st (.ok o st') = Y → Q o st') → Ok r Q) : leave k st r = Y := by
  obtain ⟨o, st', rfl, q⟩ := h (fun o st' => leave k st (.ok o st') = Y) fun _ _ q => q
  exact q
@[simp] theorem der_top (st : Store) (xs : List D) : der (st ++ [.lst xs]) (.ref st.length) = .lst xs := by simp [der]
@[simp] theorem rd_top (st : Store) (xs : List D) : rd (st ++ [.lst xs]) (.ref st.length) = .lst xs := by simp [rd]
@[simp] theorem cell_top (st : Store) (xs : List D) : cellOf (st ++ [.lst xs]) (.ref st.length) = some (st.length, xs) := by simp [cellOf]
theorem app_top {st : Store} {xs : List D} {d : D} (h : xs.length < lim) : appC (st ++ [.lst xs]) (.ref st.length) d = .ok .non (st ++ [.lst (xs ++ [d])]) := by
  unfold appC
  rw [cell_top]
  simp [h]
theorem ext_top {st : Store} {xs ys : List D} (h : xs.length + ys.length ≤ lim) : extC (st ++ [.lst xs]) (.ref st.length) (.lst ys) = .ok .non (st ++ [.lst (xs ++ ys)]) := by
  unfold extC
  rw [cell_top]
  simp [h, D.isRef]
theorem der_old {st : Store} {x : Cell} {n : Nat} (h : n < st.length) : der (st ++ [x]) (.ref n) = der st (.ref n) := by
  simp [der, List.getElem?_append_left h]
@[simp] theorem sameOld_app {α : Type} (st x : Store) (r : R α) : sameOld st (st ++ x) r = r := by
  unfold sameOld
  rw [List.take_left, sameSt_refl]; rfl
theorem leave_app (st x : Store) (d : D) : leave false st (.ok (.ret d) (st ++ x)) = ofO (frz st.length (st ++ x) d) st := by
  show sameOld st (st ++ x) (ofO (frz st.length (st ++ x) d) st) = _
  rw [sameOld_app]
theorem frz_ref {st : Store} {xs : List D} (h : D.underL st.length xs = true) : frz st.length (st ++ [.lst xs]) (.ref st.length) = some (.lst xs) := by
  simp [frz, h]
/-- rows of a value that may be a cell -/
def isRows (st : Store) (d : D) (rows : List (List Int)) : Prop := rd st d = rowsD rows
theorem ix_tup_nat (xs : List D) (k : Nat) : idxop (.tup xs) (.int (k : Int)) = xs[k]? := by
  show pick xs (k : Int) = _
  exact pick_nat xs k
theorem pick_last {row : List Int} (h : row ≠ []) : pick row ((row.length : Int) - 1) = some (lastI row) := by
  have hl : 1 ≤ row.length := by cases row with | nil => exact absurd rfl h | cons => simp
  rw [show ((row.length : Int) - 1) = ((row.length - 1 : Nat) : Int) by omega, pick_nat, lastI_at (k := row.length - 1) (by omega)]
  unfold atI
  rw [List.getElem?_eq_getElem (by omega)]
  rfl
/-- the rows of one bar more, kept or not -/
def keep1 (c : Chan) (d : Int) (k : Nat) (row : List Int) (ms : List Nat) : List (List Int) := (ms.map fun (m : Nat) => row ++ [lastI row + legC c k + (m : Int)]).filter fun r => decide (d ≤ depB (barC c (k + 1)) (lastI r))
def keepR (c : Chan) (d : Int) (k : Nat) (rows : List (List Int)) : List (List Int) := rows.flatMap fun row => keep1 c d k row (List.range (waitC c k + 1).toNat)
theorem keepR_ext (c : Chan) (d : Int) (k : Nat) (rows : List (List Int)) : keepR c d k rows = ext1 c d k rows := by
  unfold keepR keep1 ext1
  rw [List.filter_flatMap]
  rfl
theorem keep1_len (c : Chan) (d : Int) (k : Nat) (row : List Int) (ms : List Nat) : (keep1 c d k row ms).length ≤ ms.length := by
  unfold keep1
  refine Nat.le_trans (List.length_filter_le _ _) ?_
  simp
theorem keepR_len {c : Chan} {k : Nat} (hw : waitC c k ≤ 3) (d : Int) : ∀ rows : List (List Int), (keepR c d k rows).length ≤ 4 * rows.length
  | [] => by simp [keepR]
  | r :: rows => by
    have h1 := keepR_len hw d rows
    have h2 := keep1_len c d k r (List.range (waitC c k + 1).toNat)
    simp only [keepR] at h1 ⊢
    rw [List.flatMap_cons, List.length_append, List.length_cons]
    rw [List.length_range] at h2
    omega
theorem keepR_snoc (c : Chan) (d : Int) (k : Nat) (l : List (List Int)) (a : List Int) : keepR c d k (l ++ [a]) = keepR c d k l ++ keep1 c d k a (List.range (waitC c k + 1).toNat) := by simp [keepR]
theorem r_lawAll : S_all (runDef T d_law_all) := by
  intro c d h st w
  have n1 := w.n1
  have n3 := w.n3
  have b0 := barC_some (c := c) (k := 0) (by omega)
  have hb0 := (w.at b0).1
  have hp0 : (0 : Int) < ((barC c 0).length : Int) := by omega
  have hrng : -1000000 ≤ (1 : Int) ∧ (1 : Int) ≤ 1000000 ∧ -1000000 ≤ (c.bars.length : Int) ∧ (c.bars.length : Int) ≤ 1000000 := by omega
  have u1 : ∀ env : Env, kUnp2 env [3, 4, 5] (chD c) = fun st => .ok (.next (((env.set 3 (some (.tup (c.bars.map intsD)))).set 4 (some (intsD c.legs))).set 5 (some (intsD c.waits)))) st := fun env => rfl
  have key : ∀ r0 : List (List Int), r0 = rowsTo c d h 0 → ∀ body, body = (match d_law_all.body with | [_, _, .for_ _ _ _ b, _] => b | _ => []) →
      leave false st (kSeq T [.ret (.blt "sorted" [.var 6])] (forL st [.int 1, .int (c.bars.length : Int)] (forT T (.nm 7) body) (rngD 1 (c.bars.length - 1)) [some (chD c), some (.int d), some (.int h), some (.tup (c.bars.map intsD)), some (intsD c.legs), some (intsD c.waits), some (rowsD r0), none, none, none, none, none] st)) = .ok (rowsD (allFrom c d h)) st := by
    intro r0 hr0 body hbody
    unfold rngD
    refine lv_ok fun Z hZ => ?_
    refine for_seq (fun k : Nat => D.int (1 + (k : Int))) (fun l env st' => ∃ (x : Store) (d6 : D) (o7 o8 o9 o10 o11 : Option D), st' = st ++ x ∧ env = [some (chD c), some (.int d), some (.int h), some (.tup (c.bars.map intsD)), some (intsD c.legs), some (intsD c.waits), some d6, o7, o8, o9, o10, o11] ∧ isRows (st ++ x) d6 (rowsTo c d h l.length)) (fun l env st' _ => noref_der rfl _ _) ⟨[], rowsD r0, none, none, none, none, none, by simp, rfl, by rw [hr0]; rfl⟩ ?step ?fin
    case step =>
      rintro l k r env _ ek ⟨x, d6, o7, o8, o9, o10, o11, rfl, rfl, hr6⟩ Q hQ
      obtain ⟨hk1, hk2⟩ := range_split ek
      subst hk1
      have hk : l.length + 1 < c.bars.length := by omega
      have gl := legC_some (c := c) (k := l.length) (by have := w.nl; omega)
      have gw := waitC_some (c := c) (k := l.length) (by have := w.nw; omega)
      have gb := barC_some (c := c) (k := l.length + 1) hk
      have hb1 := (w.at gb).1
      have hbp : (0 : Int) < ((barC c (l.length + 1)).length : Int) := by omega
      have hw := w.wait _ (List.mem_of_getElem? gw)
      have hwr : -1000000 ≤ waitC c l.length + 1 ∧ waitC c l.length + 1 ≤ 1000000 := by omega
      have p0 : (1 + (l.length : Int) - 1) = (l.length : Int) := by omega
      have p1 : (1 + (l.length : Int)) = ((l.length + 1 : Nat) : Int) := by omega
      generalize hst : st ++ x = s0
      rw [hst] at hr6
      have hit : ∀ s, rd s d6 = rowsD (rowsTo c d h l.length) → iter .seq [rd s d6] = some ((rowsTo c d h l.length).map intsD) := fun s q => by rw [q]; rfl
      have hr7 : rd (s0 ++ [.lst []]) d6 = rowsD (rowsTo c d h l.length) := by
        unfold isRows at hr6
        cases d6 <;> first | exact hr6 | skip
        rename_i n
        have hn : n < s0.length := by
          unfold rd der at hr6
          cases hq : s0[n]? with
          | none => simp [hq, rowsD] at hr6
          | some _ => exact (List.getElem?_eq_some_iff.mp hq).1
        unfold rd at hr6 ⊢
        rw [der_old hn]; exact hr6
      have hcnt := rows_cnt w d h l.length (by omega)
      have h4 : 4 ^ l.length ≤ 16 := Nat.le_trans (Nat.pow_le_pow_right (by omega) (show l.length ≤ 2 by omega)) (by decide)
      rw [hbody]
      simp [d_law_all, hit _ hr7, -rd_top]
      refine for_seq intsD (fun rs env st' => ∃ (o9 o10 o11 : Option D), st' = s0 ++ [.lst ((keepR c d l.length rs).map intsD)] ∧ env = [some (chD c), some (.int d), some (.int h), some (.tup (c.bars.map intsD)), some (intsD c.legs), some (intsD c.waits), some d6, some (.int (1 + (l.length : Int))), some (.ref s0.length), o9, o10, o11]) (fun rs env st' hI => ?_) ⟨o9, o10, o11, rfl, rfl⟩ ?st2 ?rest
      · obtain ⟨_, _, _, rfl, _⟩ := hI
        intro y hy
        simp at hy
        subst hy
        rename_i z1 z2 z3 z4
        clear z4
        cases y <;> first | rfl | skip
        rename_i n
        have hn : n < s0.length := by
          unfold isRows rd der at hr6
          cases hq : s0[n]? with
          | none => simp [hq, rowsD] at hr6
          | some _ => exact (List.getElem?_eq_some_iff.mp hq).1
        rw [der_old hn, der_old hn]
      case st2 =>
        rintro rs row rr env _ ers ⟨o9, o10, o11, rfl, rfl⟩ Q2 hQ2
        have hrow : row ∈ rowsTo c d h l.length := by rw [ers]; simp
        have hrl := rows_len c d h l.length row hrow
        have hne : row ≠ [] := fun z => by rw [z] at hrl; simp at hrl
        have hrsl : rs.length < 16 := by
          have := congrArg List.length ers
          simp at this
          omega
        have hkl := keepR_len (c := c) (k := l.length) (by omega) d rs
        have q5 : ∀ s, evE T (.bin .Add (.idx (.var 5) (.bin .Sub (.var 7) (.cst (.int 1)))) (.cst (.int 1))) [some (chD c), some (.int d), some (.int h), some (.tup (c.bars.map intsD)), some (intsD c.legs), some (intsD c.waits), some d6, some (.int (1 + (l.length : Int))), some (.ref s0.length), some (intsD row), o10, o11] s = .ok (.int (waitC c l.length + 1)) s := fun s => by simp [p0, ix_ints, gw]
        simp [q5, it_r1 hwr, -e_bin]
        unfold rngD
        refine for_seq (fun m : Nat => D.int (0 + (m : Int))) (fun ms env st' => ∃ (o10 o11 : Option D), st' = s0 ++ [.lst ((keepR c d l.length rs ++ keep1 c d l.length row ms).map intsD)] ∧ env = [some (chD c), some (.int d), some (.int h), some (.tup (c.bars.map intsD)), some (intsD c.legs), some (intsD c.waits), some d6, some (.int (1 + (l.length : Int))), some (.ref s0.length), some (intsD row), o10, o11]) (fun _ _ _ _ => noref_der rfl _ _) ⟨o10, o11, by simp [keep1], rfl⟩ ?st3 ?rest3
        case st3 =>
          rintro ms m mr env _ ems ⟨o10, o11, rfl, rfl⟩ Q3 hQ3
          obtain ⟨hm1, hm2⟩ := range_split ems
          have hml : ms.length < 4 := by omega
          have hk1 := keep1_len c d l.length row ms
          have hl2 : ((keepR c d l.length rs ++ keep1 c d l.length row ms).map intsD).length < lim := by
            rw [List.length_map, List.length_append]
            unfold lim
            omega
          have gbi : c.bars[l.length + 1]? = some (barC c (l.length + 1)) := gb
          by_cases hd : d ≤ depB (barC c (l.length + 1)) (lastI row + legC c l.length + (m : Int))
          · refine Ok.eq (a := .next [some (chD c), some (.int d), some (.int h), some (.tup (c.bars.map intsD)), some (intsD c.legs), some (intsD c.waits), some d6, some (.int (1 + (l.length : Int))), some (.ref s0.length), some (intsD row), some (.int (0 + (m : Int))), some (.int (lastI row + legC c l.length + (0 + (m : Int))))]) (st := s0 ++ [.lst ((keepR c d l.length rs ++ keep1 c d l.length row (ms ++ [m])).map intsD)]) ?_ (hQ3 _ _ ⟨_, _, rfl, rfl⟩)
            have ek1 : keep1 c d l.length row (ms ++ [m]) = keep1 c d l.length row ms ++ [row ++ [lastI row + legC c l.length + (m : Int)]] := by
              unfold keep1
              rw [List.map_append, List.filter_append]
              simp [lastI_append, hd]
            rw [ek1]
            have hl2' := hl2
            simp only [List.map_append] at hl2'
            simp [p0, ix_ints, gl, pick_last hne]
            rw [p1]
            simp [-Int.natCast_add, ix_bars, gbi, o_mod hbp, ix_ints, depB_pick hb1, hd, add_ints (show row.length ≤ 100 by omega), app_top hl2']
          · refine Ok.eq (a := .next [some (chD c), some (.int d), some (.int h), some (.tup (c.bars.map intsD)), some (intsD c.legs), some (intsD c.waits), some d6, some (.int (1 + (l.length : Int))), some (.ref s0.length), some (intsD row), some (.int (0 + (m : Int))), some (.int (lastI row + legC c l.length + (0 + (m : Int))))]) (st := s0 ++ [.lst ((keepR c d l.length rs ++ keep1 c d l.length row (ms ++ [m])).map intsD)]) ?_ (hQ3 _ _ ⟨_, _, rfl, rfl⟩)
            have ek1 : keep1 c d l.length row (ms ++ [m]) = keep1 c d l.length row ms := by
              unfold keep1
              rw [List.map_append, List.filter_append]
              simp [lastI_append, hd]
            rw [ek1]
            simp [p0, ix_ints, gl, pick_last hne]
            rw [p1]
            simp [-Int.natCast_add, ix_bars, gbi, o_mod hbp, ix_ints, depB_pick hb1, hd]
        case rest3 =>
          rintro env' st' ⟨o10, o11, rfl, rfl⟩
          simp
          exact Ok.ok (hQ2 _ _ ⟨_, _, _, by rw [keepR_snoc, List.map_append], rfl⟩)
      case rest =>
        rintro env' st' ⟨o9, o10, o11, rfl, rfl⟩
        simp
        refine Ok.ok (hQ _ _ ⟨x ++ [.lst ((keepR c d l.length (rowsTo c d h l.length)).map intsD)], .ref s0.length, _, _, _, _, _, by rw [← hst, List.append_assoc], rfl, ?_⟩)
        unfold isRows
        rw [← List.append_assoc, hst, keepR_ext]
        rw [rd_top, List.length_append]
        rfl
    case fin =>
      rintro env' st' ⟨x, d6, o7, o8, o9, o10, o11, rfl, rfl, hr6⟩
      rw [List.length_range] at hr6
      have hr6' : rd (st ++ x) d6 = rowsD (allFrom c d h) := hr6
      have hs := sorted_rows (rows := allFrom c d h) (rows_lt c d h _) fun r hr => all_ne hr
      simp [hr6', hs]
      exact Ok.ok (hZ _ _ (by simp [leave_app]))
  by_cases hd0 : d ≤ depB (barC c 0) h
  · have := key [[h]] (by simp [rowsTo, hd0]) _ rfl
    simp [runDef, d_law_all, u1, ix_bars, b0, o_mod hp0, ix_ints, depB_pick hb0, hd0, it_r2 hrng]
    simpa [d_law_all, rowsD, intsD] using this
  · have := key [] (by simp [rowsTo, hd0]) _ rfl
    simp [runDef, d_law_all, u1, ix_bars, b0, o_mod hp0, ix_ints, depB_pick hb0, hd0, it_r2 hrng]
    simpa [d_law_all, rowsD, intsD] using this
end TW
/-! L10: the law of whole passages, plainly. -/
namespace TW
open PySem (Str Operator CmpOp)
variable {T : Tab}
theorem good_rows (n : Nat) (rows : List (List Int)) : (rows.map intsD).all (D.good (n + 1)) = true := good_map (n + 1) intsD (good_intsD n) rows
theorem good_rowsD (n : Nat) (rows : List (List Int)) : D.good (n + 2) (rowsD rows) = true := good_rows n rows
theorem good_rowsT (n : Nat) (rows : List (List Int)) : D.good (n + 2) (rowsT rows) = true := good_rows n rows
@[simp] theorem ne_rowsT (rows : List (List Int)) : cmpop .NotEq (rowsT rows) (rowsT rows) = some false := ne_same (good_rowsT 6 rows)
@[simp] theorem ne_optI (o : Option Int) : cmpop .NotEq (optI o) (optI o) = some false := eq_optI o
@[simp] theorem ne_rows0 (rows : List (List Int)) : cmpop .NotEq (rowsD rows) (.lst []) = some (!rows.isEmpty) := by
  unfold rowsD
  rw [ne_nil _ (good_rows 6 rows), List.isEmpty_map]
@[simp] theorem eq_rows0 (rows : List (List Int)) : cmpop .Eq (rowsD rows) (.lst []) = some rows.isEmpty := by
  unfold rowsD
  rw [eq_nil _ (good_rows 6 rows), List.isEmpty_map]
theorem eqvL_ints : ∀ a b : List Int, D.eqvL (a.map .int) (b.map .int) = decide (a = b)
  | [], [] => by simp [D.eqvL]
  | [], _ :: _ => by simp [D.eqvL]
  | _ :: _, [] => by simp [D.eqvL]
  | x :: a, y :: b => by simp [D.eqvL, D.eqv, eqvL_ints a b]; rfl
theorem eqv_ints (a b : List Int) : D.eqv (intsD a) (intsD b) = decide (a = b) := by
  show D.eqvL (a.map .int) (b.map .int) = _
  exact eqvL_ints a b
theorem eq_ints (a b : List Int) : cmpop .Eq (intsD a) (intsD b) = some (decide (a = b)) := by
  simp [cmpop, good_intsD, eqv_ints]
theorem ne_ints (a b : List Int) : cmpop .NotEq (intsD a) (intsD b) = some (!decide (a = b)) := by
  simp [cmpop, good_intsD, eqv_ints]
theorem eqvL_rows : ∀ a b : List (List Int), D.eqvL (a.map intsD) (b.map intsD) = decide (a = b)
  | [], [] => by simp [D.eqvL]
  | [], _ :: _ => by simp [D.eqvL]
  | _ :: _, [] => by simp [D.eqvL]
  | x :: a, y :: b => by simp [D.eqvL, eqv_ints, eqvL_rows a b]
theorem inL_rows (r : List Int) (rows : List (List Int)) : inL (intsD r) (rows.map intsD) = decide (r ∈ rows) := by
  unfold inL
  rw [List.any_map]
  rw [Bool.eq_iff_iff]
  simp [eqv_ints]
theorem in_rows (r : List Int) (rows : List (List Int)) : cmpop .In (intsD r) (rowsD rows) = some (decide (r ∈ rows)) := by
  show (if D.good 8 (intsD r) && D.good 8 (rowsD rows) then some (inL (intsD r) (rows.map intsD)) else none) = _
  rw [good_intsD, good_rowsD, inL_rows]; rfl
theorem in_rowsT (r : List Int) (rows : List (List Int)) : cmpop .In (intsD r) (rowsT rows) = some (decide (r ∈ rows)) := by
  show (if D.good 8 (intsD r) && D.good 8 (rowsT rows) then some (inL (intsD r) (rows.map intsD)) else none) = _
  rw [good_intsD, good_rowsT, inL_rows]; rfl
theorem notin_rowsT (r : List Int) (rows : List (List Int)) : cmpop .NotIn (intsD r) (rowsT rows) = some (!decide (r ∈ rows)) := by
  show (if D.good 8 (intsD r) && D.good 8 (rowsT rows) then some (!inL (intsD r) (rows.map intsD)) else none) = _
  rw [good_intsD, good_rowsT, inL_rows]; rfl
theorem foldl_min : ∀ (xs : List Int) (a : Int), (∀ x ∈ a :: xs, xs.foldl (fun a b => if b < a then b else a) a ≤ x) ∧ xs.foldl (fun a b => if b < a then b else a) a ∈ a :: xs
  | [], a => by simp
  | y :: xs, a => by
    have ih := foldl_min xs (if y < a then y else a)
    rw [List.foldl_cons]
    generalize hz : (if y < a then y else a) = z at ih ⊢
    have h1 : z ≤ y ∧ z ≤ a ∧ (z = y ∨ z = a) := by rw [← hz]; split <;> omega
    have h0 := ih.1 z List.mem_cons_self
    refine ⟨fun x hx => ?_, ?_⟩
    · rcases List.mem_cons.mp hx with rfl | hx
      · omega
      · rcases List.mem_cons.mp hx with rfl | hx
        · omega
        · exact ih.1 x (List.mem_cons_of_mem _ hx)
    · rcases List.mem_cons.mp ih.2 with q | q
      · rw [q]
        rcases h1.2.2 with rfl | rfl <;> simp
      · simp [q]
theorem foldl_max : ∀ (xs : List Int) (a : Int), (∀ x ∈ a :: xs, x ≤ xs.foldl (fun a b => if b > a then b else a) a) ∧ xs.foldl (fun a b => if b > a then b else a) a ∈ a :: xs
  | [], a => by simp
  | y :: xs, a => by
    have ih := foldl_max xs (if y > a then y else a)
    rw [List.foldl_cons]
    generalize hz : (if y > a then y else a) = z at ih ⊢
    have h1 : y ≤ z ∧ a ≤ z ∧ (z = y ∨ z = a) := by rw [← hz]; split <;> omega
    have h0 := ih.1 z List.mem_cons_self
    refine ⟨fun x hx => ?_, ?_⟩
    · rcases List.mem_cons.mp hx with rfl | hx
      · omega
      · rcases List.mem_cons.mp hx with rfl | hx
        · omega
        · exact ih.1 x (List.mem_cons_of_mem _ hx)
    · rcases List.mem_cons.mp ih.2 with q | q
      · rw [q]
        rcases h1.2.2 with rfl | rfl <;> simp
      · simp [q]
theorem minI_sp {xs : List Int} (h : xs ≠ []) : ∃ m, minI xs = some m ∧ m ∈ xs ∧ ∀ x ∈ xs, m ≤ x := by
  cases xs with
  | nil => exact absurd rfl h
  | cons a xs => exact ⟨_, rfl, (foldl_min xs a).2, (foldl_min xs a).1⟩
theorem maxI_sp {xs : List Int} (h : xs ≠ []) : ∃ m, maxI xs = some m ∧ m ∈ xs ∧ ∀ x ∈ xs, x ≤ m := by
  cases xs with
  | nil => exact absurd rfl h
  | cons a xs => exact ⟨_, rfl, (foldl_max xs a).2, (foldl_max xs a).1⟩
theorem cut_to {α : Type} (xs : List α) (k : Nat) : cut xs none (some (k : Int)) = xs.take k := by
  unfold cut clip
  simp
  rw [if_neg (by omega)]
  omega
theorem cut_from {α : Type} (xs : List α) (k : Nat) : cut xs (some (k : Int)) none = xs.drop k := by
  unfold cut clip
  simp
  rw [if_neg (by omega)]
  by_cases h : k ≤ xs.length
  · rw [Nat.min_eq_left h, List.take_of_length_le (by simp)]
  · rw [Nat.min_eq_right (by omega), List.drop_of_length_le (Nat.le_refl _), List.drop_of_length_le (by omega)]; simp
theorem cut_map {α β : Type} (f : α → β) (xs : List α) (a b : Option Int) : cut (xs.map f) a b = (cut xs a b).map f := by
  unfold cut
  rw [List.length_map, ← List.map_drop, ← List.map_take]
theorem slc_to (xs : List Int) (k : Nat) : slcop (intsD xs) none (some (k : Int)) = some (intsD (xs.take k)) := by
  show some (D.tup (cut (xs.map D.int) none (some (k : Int)))) = _
  rw [cut_map, cut_to]; rfl
theorem slc_from (xs : List Int) (k : Nat) : slcop (intsD xs) (some (k : Int)) none = some (intsD (xs.drop k)) := by
  show some (D.tup (cut (xs.map D.int) (some (k : Int)) none)) = _
  rw [cut_map, cut_from]; rfl
theorem add_ints2 {xs ys : List Int} (h : xs.length + ys.length ≤ 1000) : binop .Add (intsD xs) (intsD ys) = some (intsD (xs ++ ys)) := by
  have : (xs.map D.int).length + (ys.map D.int).length ≤ lim := by simp [lim]; omega
  show (if (xs.map D.int).length + (ys.map D.int).length ≤ lim then _ else _) = _
  rw [if_pos this]
  simp [intsD]
theorem sum_take {legs : List Int} {m : Int} (h0 : 0 ≤ m) (h : ∀ x ∈ legs, 0 ≤ x ∧ x ≤ m) : ∀ k, 0 ≤ (legs.take k).sum ∧ (legs.take k).sum ≤ m * (legs.length : Int) := by
  induction legs with
  | nil => intro k; simp
  | cons a legs ih =>
    intro k
    have ha := h a List.mem_cons_self
    have := ih (fun x hx => h x (List.mem_cons_of_mem _ hx)) (k - 1)
    have hm : m * ((a :: legs).length : Int) = m + m * (legs.length : Int) := by
      rw [List.length_cons, Int.natCast_add, Int.mul_add]; simp; omega
    cases k with
    | zero => simp; exact Int.mul_nonneg h0 (by omega)
    | succ k =>
      simp only [List.take_succ_cons, List.sum_cons] at this ⊢
      rw [hm]
      simp at this
      omega
theorem law_k10 (hTown : S_town (callT T "_law_town")) (hDraw : S_draw (callT T "_law_draw")) (hPick : S_pick (callT T "_law_pick")) (hChan : S_chan (callT T "_law_channel")) (hLP : S_per (callT T "_law_period")) (hLA : S_all (callT T "_law_all"))
    (hPass : S_passes (callT T "passages")) (hSoon : S_soon (callT T "soonest")) (hFew : S_fewest (callT T "fewest_waits")) (hIs : S_isp (callT T "is_passage")) (hIsN : S_ispN (callT T "is_passage")) (ns : List Int) (hns : ns.length ≤ 63) :
    runDef T d_k10 [.scr ns] [] = .ok (.bl true) [] := by
  have t0 : Tn ns 0 [] [.lst (.int 0 :: ns.map .int)] := ⟨0, ns, rfl, by omega, by omega, rfl⟩
  obtain ⟨_, st1, e1, c, rfl, w, hk, hm, t1⟩ := hChan ns 0 [] _ 3 8 hns t0 (by unfold big; omega) (by omega) (by omega) (by omega) (by omega)
  have pf := perC_facts w
  have q1 : ∀ st, callT T "_law_period" [chD c] st = .ok (.int (perC c)) st := fun st => hLP c st w
  have u1 : ∀ env : Env, kUnp2 env [3, 4, 5] (chD c) = fun st => .ok (.next (((env.set 3 (some (.tup (c.bars.map intsD)))).set 4 (some (intsD c.legs))).set 5 (some (intsD c.waits)))) st := fun env => rfl
  have r4 : (-1000000 : Int) ≤ 4 ∧ (4 : Int) ≤ 1000000 := by omega
  have q0 : ∀ st, callT T "is_passage" [chD c, .int 0, .non] st = .ok (.bl false) st := fun st => hIsN c 0 st w (by omega) (by omega)
  simp [runDef, d_k10, hTown ns hns, e1, u1, q1, it_r1 r4]
  refine lv_ok fun Z hZ => ?_
  unfold rngD
  refine for_seq (fun k : Nat => D.int (0 + (k : Int))) (fun l env st => ∃ o7 o8 o9 o10 o11 o12 o13 o14 o15 o16 o17 o18 o19 o20 o21, env = [some (.scr ns), some (.ref 0), some (chD c), some (.tup (c.bars.map intsD)), some (intsD c.legs), some (intsD c.waits), some (.int (perC c)), o7, o8, o9, o10, o11, o12, o13, o14, o15, o16, o17, o18, o19, o20, o21] ∧ Tn ns (2000 + 10 * (l.length : Int)) [] st) (fun _ _ _ _ => noref_der rfl _ _) ⟨none, none, none, none, none, none, none, none, none, none, none, none, none, none, none, rfl, t1.mono (by simp)⟩ ?step ?rest
  case rest =>
    rintro env' st' ⟨o7, o8, o9, o10, o11, o12, o13, o14, o15, o16, o17, o18, o19, o20, o21, rfl, _⟩
    simp [q0]
    exact Ok.ok (hZ _ _ (leave_law _ _))
  case step =>
    rintro l k r env st el ⟨o7, o8, o9, o10, o11, o12, o13, o14, o15, o16, o17, o18, o19, o20, o21, rfl, t⟩ Q hQ
    have hlen : l.length < 4 := by
      have := congrArg List.length el
      simp at this
      omega
    obtain ⟨_, st2, e2, d, rfl, d0, d5, t2⟩ := hDraw ns _ [] st 5 hns t (by unfold big; omega) (by omega) (by omega)
    obtain ⟨_, st3, e3, h, rfl, h0, h4, t3⟩ := hDraw ns _ [] st2 400 hns t2 (by unfold big; omega) (by omega) (by omega)
    have a1 : ∀ st, callT T "_law_all" [chD c, .int d, .int h] st = .ok (rowsD (allFrom c d h)) st := fun st => hLA c d h st w
    have a2 : ∀ st, callT T "passages" [chD c, .int d, .int h] st = .ok (rowsT (allFrom c d h)) st := fun st => hPass c d h st w (by omega) (by omega) (by omega) (by omega)
    have a3 : ∀ st, callT T "soonest" [chD c, .int d, .int h] st = .ok (optI (minI ((allFrom c d h).map lastI))) st := fun st => hSoon c d h st w (by omega) (by omega) (by omega) (by omega)
    have a4 : ∀ st, callT T "fewest_waits" [chD c, .int d, .int h] st = .ok (optI (minI ((allFrom c d h).map (idleI c)))) st := fun st => hFew c d h st w (by omega) (by omega) (by omega) (by omega)
    have a5 : ∀ st, callT T "passages" [chD c, .int d, .int (h + (perC c : Int))] st = .ok (rowsT ((allFrom c d h).map fun r => r.map (· + (perC c : Int)))) st := fun st => by
      rw [hPass c d _ st w (by omega) (by omega) (by omega) (by omega), all_per w (Int.dvd_refl _)]
    have hb := fun r (hr : r ∈ allFrom c d h) => all_bounds w hr
    have hln := fun r (hr : r ∈ allFrom c d h) => rows_len c d h _ r hr
    simp [e2, e3, a1, a2]
    rw [lcL_map intsD (fun r => D.int (lastI r)) ?g1]
    case g1 =>
      intro r hr
      simp [ix_ints, pick_last (all_ne hr)]
    have m1 : ∀ {st} (env : Env) (f : List Int → Int) (i j : Nat), getV env i st = .ok (rowsD (allFrom c d h)) st → getV env j st = .ok (.lst ((allFrom c d h).map fun r => .int (f r))) st → evE T (.ite (.cmp .NotEq (.var i) (.lst [])) (.blt "min" [.var j]) (.cst .non)) env st = .ok (optI (minI ((allFrom c d h).map f))) st := by
      intro st env f i j h1 h2
      simp [h1]
      cases hrows : allFrom c d h with
      | nil => simp [minI, optI]
      | cons a as =>
        simp [h2, hrows]
        have := b_minI ((a :: as).map f)
        simp only [List.map_cons, List.map_map, Function.comp_def] at this
        rw [this]
        simp [minI, optI]
    simp [a3, -e_ite]
    rw [m1 _ lastI 10 11 (by simp) (by simp)]
    simp [-e_ite]
    rw [lcL_map intsD (fun r => D.int (idleI c r)) ?g2]
    case g2 =>
      intro r hr
      have hn := all_ne hr
      have := pick_head hn
      rw [pick_0] at this
      simp [ix_ints, pick_last hn, this, b_sumT, idleI]
    simp [a4, -e_ite]
    rw [m1 _ (idleI c) 10 13 (by simp) (by simp)]
    simp [-e_ite]
    rw [lcL_map intsD (fun r => intsD (r.map (· + (perC c : Int)))) ?g3]
    case g3 =>
      intro r hr
      simp [intsD]
      rw [lcL_map D.int (fun x => D.int (x + (perC c : Int))) ?g4]
      case g4 =>
        intro x _
        simp
      simp [Function.comp_def]
    have e5 : D.tup ((allFrom c d h).map fun r => intsD (r.map (· + (perC c : Int)))) = rowsT ((allFrom c d h).map fun r => r.map (· + (perC c : Int))) := by
      unfold rowsT
      rw [List.map_map]; rfl
    simp [a5, -e_ite, e5]
    have hbr : -1000000 ≤ (c.bars.length : Int) ∧ (c.bars.length : Int) ≤ 1000000 := by have := w.n3; omega
    rw [it_r1 hbr]
    unfold rngD
    simp [-e_ite]
    rw [lcL_map (fun k : Nat => D.int (k : Int)) (fun k => D.int (h + (c.legs.take k).sum)) ?g5]
    case g5 =>
      intro x _
      simp [slc_to, b_sumT]
    have n1 := w.n1
    have n3 := w.n3
    generalize hpl : (List.range c.bars.length).map (fun k => h + (c.legs.take k).sum) = plain
    have e6 : D.tup ((List.range c.bars.length).map (fun k => D.int (h + (c.legs.take k).sum))) = intsD plain := by
      rw [← hpl]
      unfold intsD
      rw [List.map_map]; rfl
    have hplen : plain.length = c.bars.length := by rw [← hpl]; simp
    have hp0 : atI plain 0 = h := by
      rw [← hpl]
      unfold atI
      rw [List.getElem?_map, List.getElem?_range (by omega)]
      simp
    have hpb : ∀ x ∈ plain, h ≤ x ∧ x ≤ h + 27 := by
      rw [← hpl]
      intro x hx
      obtain ⟨k, _, rfl⟩ := List.mem_map.mp hx
      have h1 := sum_take (legs := c.legs) (m := 9) (by omega) (fun x hx => by have := w.leg x hx; omega) k
      have h2 := w.nl
      omega
    simp only [kLst_ok, kEs1_ok, es_nil, kEs2_ok, kBlt_ok, List.map_cons, List.map_nil, rd_lst, b_tup_l, ofO_some, kAsg_ok, e6, List.set_cons_succ, List.set_cons_zero, kSeq_n]
    generalize hxs : (if (allFrom c d h).isEmpty then [plain] else allFrom c d h) = xs
    have hx1 : xs ≠ [] := by
      rw [← hxs]
      cases allFrom c d h <;> simp
    have hx2 : xs.length ≤ 1000 := by
      rw [← hxs]
      split
      · simp
      · have := rows_cnt w d h (c.bars.length - 1) (by omega)
        have h4 : 4 ^ (c.bars.length - 1) ≤ 16 := Nat.le_trans (Nat.pow_le_pow_right (by omega) (show c.bars.length - 1 ≤ 2 by omega)) (by decide)
        unfold allFrom
        omega
    have hx3 : ∀ x ∈ xs, x.length = c.bars.length ∧ atI x 0 = h ∧ ∀ y ∈ x, h ≤ y ∧ y ≤ h + 27 := by
      rw [← hxs]
      intro x hx
      split at hx
      · simp at hx
        subst hx
        exact ⟨hplen, hp0, hpb⟩
      · have hx' := (mem_all w).mp hx
        exact ⟨hx'.1, hx'.2.1, fun y hy => by have := hb x hx y hy; omega⟩
    have ex : ∀ {st} (env : Env), getV env 10 st = .ok (rowsD (allFrom c d h)) st → getV env 16 st = .ok (intsD plain) st → evE T (.ite (.cmp .NotEq (.var 10) (.lst [])) (.var 10) (.lst [.var 16])) env st = .ok (rowsD xs) st := by
      intro st env h1 h2
      simp [h1]
      rw [← hxs]
      cases hrows : allFrom c d h with
      | nil => simp [h2, rowsD]
      | cons a as => simp [h1, hrows]
    obtain ⟨dd, st4, e4, hdd, t4⟩ := hPick ns _ [] st3 (xs.map intsD) hns t3 (by unfold big; omega) (by rw [List.length_map]; cases xs with | nil => exact absurd rfl hx1 | cons => simp) (by rw [List.length_map]; exact hx2)
    obtain ⟨row, hrow, rfl⟩ := List.mem_map.mp hdd
    obtain ⟨y1, y2, y3⟩ := hx3 row hrow
    simp [-e_ite]
    rw [ex _ (by simp) (by simp)]
    have e4' : callT T "_law_pick" [.scr ns, .ref 0, rowsD xs] st3 = .ok (intsD row) st4 := e4
    have ht : ∀ x : List Int, (∀ y ∈ x, 0 ≤ y ∧ y ≤ 2000) → inT x = true := fun x q => by
      unfold inT
      simp
      exact q
    have c1 : isPass c d row = decide (row ∈ allFrom c d h) := by
      rw [Bool.eq_iff_iff, isPass_mem w (ht row fun y hy => by have := y3 y hy; omega), y2]
      simp
    have a6 : ∀ st, callT T "is_passage" [chD c, .int d, intsD row] st = .ok (.bl (decide (row ∈ allFrom c d h))) st := fun st => by rw [hIs c d row st w (by omega) (by omega), c1]
    obtain ⟨_, st5, e5', r5, rfl, r50, r51, t5⟩ := hDraw ns _ [] st4 c.bars.length hns t4 (by unfold big; omega) (by omega) (by omega)
    obtain ⟨dd, st6, e6', hdd, t6⟩ := hPick ns _ [] st5 [.int 1, .int 2, .int (-1), .int 4] hns t5 (by unfold big; omega) (by simp) (by simp)
    obtain ⟨i, rfl⟩ : ∃ i : Nat, r5 = (i : Int) := ⟨r5.toNat, by omega⟩
    obtain ⟨q, rfl, q1, q2⟩ : ∃ q, dd = .int q ∧ -1 ≤ q ∧ q ≤ 4 := by
      simp at hdd
      rcases hdd with rfl | rfl | rfl | rfl
      · exact ⟨1, rfl, by omega, by omega⟩
      · exact ⟨2, rfl, by omega, by omega⟩
      · exact ⟨-1, rfl, by omega, by omega⟩
      · exact ⟨4, rfl, by omega, by omega⟩
    have hi : i < row.length := by omega
    have gi : row[i]? = some row[i] := List.getElem?_eq_getElem hi
    have y1' : (row.length : Int) = (c.bars.length : Int) := by omega
    generalize hoth : row.take i ++ [row[i] + q] ++ row.drop (i + 1) = oth
    have ho1 : oth.length = c.bars.length := by rw [← hoth]; simp; omega
    have ho2 : ∀ y ∈ oth, h - 1 ≤ y ∧ y ≤ h + 31 := by
      rw [← hoth]
      intro y hy
      simp only [List.mem_append, List.mem_singleton] at hy
      rcases hy with (hy | hy) | hy
      · have := y3 y (List.mem_of_mem_take hy); omega
      · have := y3 row[i] (List.getElem_mem hi); omega
      · have := y3 y (List.mem_of_mem_drop hy); omega
    have hone : oth ≠ [] := fun z => by rw [z] at ho1; simp at ho1; omega
    obtain ⟨m, hm1, hm2, hm3⟩ := minI_sp hone
    have ad1 : binop .Add (intsD (row.take i)) (.tup [.int (row[i] + q)]) = some (intsD (row.take i ++ [row[i] + q])) := add_ints (by simp; omega)
    have ad2 : binop .Add (intsD (row.take i ++ [row[i] + q])) (intsD (row.drop (i + 1))) = some (intsD oth) := by rw [add_ints2 (by simp; omega), hoth]
    have sl2 : slcop (intsD row) (some ((i : Int) + 1)) none = some (intsD (row.drop (i + 1))) := by
      rw [show ((i : Int) + 1) = ((i + 1 : Nat) : Int) by omega]
      exact slc_from row (i + 1)
    have mn : bltin "min" [intsD oth] = some (.int m) := by rw [b_minT, hm1]; rfl
    have hd0 : pick oth 0 = some (atI oth 0) := by
      rw [pick_0]
      unfold atI
      rw [List.getElem?_eq_getElem (by omega)]; rfl
    have h00 : atI oth 0 ∈ oth := by
      rw [pick_0] at hd0
      exact List.mem_of_getElem? hd0
    have a7 : ∀ st, callT T "is_passage" [chD c, .int d, intsD oth] st = .ok (.bl (isPass c d oth)) st := fun st => hIs c d oth st w (by omega) (by omega)
    have a8 : ∀ x st, callT T "_law_all" [chD c, .int d, .int x] st = .ok (rowsD (allFrom c d x)) st := fun x st => hLA c d x st w
    have good : isPass c d oth = (decide (0 ≤ m) && decide (oth ∈ allFrom c d (if atI oth 0 > 0 then atI oth 0 else 0))) := by
      by_cases hm0 : 0 ≤ m
      · have h5 := hm3 _ h00
        have h6 : (if atI oth 0 > 0 then atI oth 0 else 0) = atI oth 0 := by split <;> omega
        rw [h6, Bool.eq_iff_iff, isPass_mem w (ht oth fun y hy => by have := ho2 y hy; have := hm3 y hy; omega)]
        simp [hm0]
      · have : inT oth = false := by
          rw [Bool.eq_false_iff]
          intro z
          unfold inT at z
          rw [List.all_eq_true] at z
          have := z m hm2
          simp at this
          omega
        simp [isPass, this, hm0]
    have a9 : ∀ one ∈ allFrom c d h, ∀ st, callT T "is_passage" [chD c, .int (if 1 < d then d - 1 else 0), intsD one] st = .ok (.bl true) st := fun one ho st => by
      rw [hIs c _ one st w (by split <;> omega) (by split <;> omega)]
      have h1 := mem_mono w (d' := if 1 < d then d - 1 else 0) (by split <;> omega) ho
      have h2 := ((mem_all w).mp h1).2.1
      have : isPass c (if 1 < d then d - 1 else 0) one = true := (isPass_mem w (ht one fun y hy => by have := hb one ho y hy; omega)).mpr (by rw [h2]; exact h1)
      rw [this]
    have fin : ∀ f : D → Store → R (List D), (∀ one ∈ allFrom c d h, f (intsD one) st6 = .ok [] st6) → lcL st6 [rowsD (allFrom c d h)] f ((allFrom c d h).map intsD) st6 = .ok [] st6 := by
      intro f hf
      rw [lcL_pure intsD (fun _ => []) hf]
      simp
    simp [e4', a6, in_rows, y1', e5', ix_ints, gi, slc_to, e6', ad1, sl2, ad2, mn]
    by_cases hm0 : 0 ≤ m
    · simp [hm0, ix_ints, hd0, a7, a8, in_rows, good]
      rw [fin _ (fun one ho => by simp [a9 one ho])]
      simp [ne_nil [] rfl]
      exact Ok.ok (hQ _ _ ⟨_, _, _, _, _, _, _, _, _, _, _, _, _, _, _, rfl, t6.mono (by simp; omega)⟩)
    · simp [hm0, a7, good]
      rw [fin _ (fun one ho => by simp [a9 one ho])]
      simp [ne_nil [] rfl]
      exact Ok.ok (hQ _ _ ⟨_, _, _, _, _, _, _, _, _, _, _, _, _, _, _, rfl, t6.mono (by simp; omega)⟩)
end TW
/-! TwWin: hours at which ships set out. -/
namespace TW
open PySem (Str Operator CmpOp)
variable {T : Tab}
/-! ### ranges -/
def rngI (i : Int) (n : Nat) : List Int := (List.range n).map fun (k : Nat) => i + (k : Int)
theorem rngD_I (i : Int) (n : Nat) : rngD i n = (rngI i n).map .int := by
  unfold rngD rngI
  rw [List.map_map]; rfl
theorem it1 {j : Int} (h : -1000000 ≤ j ∧ j ≤ 1000000) : iter .rng1 [.int j] = some ((rngI 0 j.toNat).map .int) := by rw [it_r1 h, rngD_I]
theorem it2 {i j : Int} (h : -1000000 ≤ i ∧ i ≤ 1000000 ∧ -1000000 ≤ j ∧ j ≤ 1000000) : iter .rng2 [.int i, .int j] = some ((rngI i (j - i).toNat).map .int) := by rw [it_r2 h, rngD_I]
theorem mem_rngI {i x : Int} {n : Nat} : x ∈ rngI i n ↔ i ≤ x ∧ x < i + n := by
  unfold rngI
  rw [List.mem_map]
  constructor
  · rintro ⟨k, hk, rfl⟩
    rw [List.mem_range] at hk
    omega
  · rintro ⟨h1, h2⟩
    exact ⟨(x - i).toNat, List.mem_range.mpr (by omega), by omega⟩
theorem rngI_lt (i : Int) (n : Nat) : (rngI i n).Pairwise (· < ·) := by
  unfold rngI
  rw [List.pairwise_map]
  exact List.pairwise_lt_range.imp fun {a b} h => by omega
theorem rngI_len (i : Int) (n : Nat) : (rngI i n).length = n := by simp [rngI]
/-- a comprehension with a test -/
theorem lc_fm {α : Type} {F : α → D} {st : Store} {ds : List D} {f : D → Store → R (List D)} (p : α → Bool) (g : α → D) {as : List α} (h : ∀ a ∈ as, f (F a) st = .ok (if p a then [g a] else []) st) : lcL st ds f (as.map F) st = .ok ((as.filter p).map g) st := by
  rw [lcL_pure F (fun a => if p a then [g a] else []) h]
  congr 1
  induction as with
  | nil => rfl
  | cons a as ih =>
    rw [List.flatMap_cons, ih fun x hx => h x (List.mem_cons_of_mem _ hx), List.filter_cons]
    cases p a <;> rfl
/-- a list of hours -/
def hrsD (xs : List Int) : D := .lst (xs.map .int)
@[simp] theorem der_hrsD (st : Store) (xs : List Int) : der st (hrsD xs) = hrsD xs := nrfl rfl
@[simp] theorem rd_hrsD (st : Store) (xs : List Int) : rd st (hrsD xs) = hrsD xs := nrfl rfl
@[simp] theorem frz_hrsD (k : Nat) (st : Store) (xs : List Int) : frz k st (hrsD xs) = some (hrsD xs) := frz_lst k st _ (under_ints k xs)
@[simp] theorem it_hrsD (xs : List Int) : iter .seq [hrsD xs] = some (xs.map .int) := nrfl rfl
@[simp] theorem it_intsD (xs : List Int) : iter .seq [intsD xs] = some (xs.map .int) := nrfl rfl
@[simp] theorem b_tupH (xs : List Int) : bltin "tuple" [hrsD xs] = some (intsD xs) := nrfl rfl
@[simp] theorem b_lenH (xs : List Int) : bltin "len" [hrsD xs] = some (.int xs.length) := by simp [hrsD]
@[simp] theorem b_lenR (rows : List (List Int)) : bltin "len" [rowsT rows] = some (.int rows.length) := by simp [rowsT]
@[simp] theorem b_lenRD (rows : List (List Int)) : bltin "len" [rowsD rows] = some (.int rows.length) := by simp [rowsD]
theorem good_hrs (n : Nat) (xs : List Int) : D.good (n + 1) (hrsD xs) = true := good_ints n xs
@[simp] theorem eq_hrs0 (xs : List Int) : cmpop .Eq (hrsD xs) (.lst []) = some xs.isEmpty := by
  unfold hrsD
  rw [eq_nil _ (good_ints 7 xs), List.isEmpty_map]
@[simp] theorem ne_hrs0 (xs : List Int) : cmpop .NotEq (hrsD xs) (.lst []) = some (!xs.isEmpty) := by
  unfold hrsD
  rw [ne_nil _ (good_ints 7 xs), List.isEmpty_map]
theorem eq_hrs (a b : List Int) : cmpop .Eq (hrsD a) (hrsD b) = some (decide (a = b)) := by
  show (if D.good 8 (hrsD a) && D.good 8 (hrsD b) then some (D.eqvL (a.map .int) (b.map .int)) else none) = _
  rw [good_hrs, good_hrs, eqvL_ints]; rfl
theorem ne_hrs (a b : List Int) : cmpop .NotEq (hrsD a) (hrsD b) = some (!decide (a = b)) := by
  show (if D.good 8 (hrsD a) && D.good 8 (hrsD b) then some (!D.eqvL (a.map .int) (b.map .int)) else none) = _
  rw [good_hrs, good_hrs, eqvL_ints]; rfl
theorem inL_hrs (x : Int) (xs : List Int) : inL (.int x) (xs.map .int) = decide (x ∈ xs) := by
  unfold inL
  rw [List.any_map, Bool.eq_iff_iff]
  simp [D.eqv]
theorem in_hrs (x : Int) (xs : List Int) : cmpop .In (.int x) (hrsD xs) = some (decide (x ∈ xs)) := by
  show (if D.good 8 (.int x) && D.good 8 (hrsD xs) then some (inL (.int x) (xs.map .int)) else none) = _
  rw [good_hrs, inL_hrs]; rfl
theorem notin_hrs (x : Int) (xs : List Int) : cmpop .NotIn (.int x) (hrsD xs) = some (!decide (x ∈ xs)) := by
  show (if D.good 8 (.int x) && D.good 8 (hrsD xs) then some (!inL (.int x) (xs.map .int)) else none) = _
  rw [good_hrs, inL_hrs]; rfl
theorem in_ints (x : Int) (xs : List Int) : cmpop .In (.int x) (intsD xs) = some (decide (x ∈ xs)) := by
  show (if D.good 8 (.int x) && D.good 8 (intsD xs) then some (inL (.int x) (xs.map .int)) else none) = _
  rw [good_intsD, inL_hrs]; rfl
theorem notin_ints (x : Int) (xs : List Int) : cmpop .NotIn (.int x) (intsD xs) = some (!decide (x ∈ xs)) := by
  show (if D.good 8 (.int x) && D.good 8 (intsD xs) then some (!inL (.int x) (xs.map .int)) else none) = _
  rw [good_intsD, inL_hrs]; rfl
theorem ix_hrs (xs : List Int) (k : Int) : idxop (hrsD xs) (.int k) = (pick xs k).map .int := by
  show pick (xs.map D.int) k = _
  rw [pick_map]
/-! ### is_out, found_hours -/
def isOut (c : Chan) (d h : Int) : Bool := !(allFrom c d h).isEmpty
def found (c : Chan) (d : Int) : List Int := (rngI 0 (perC c)).filter (isOut c d)
def S_out (f : Fn) : Prop := ∀ (c : Chan) (d h : Int) (st : Store), WF c → f [chD c, .int d, .int h] st = .ok (.bl (isOut c d h)) st
def S_fhrs (f : Fn) : Prop := ∀ (c : Chan) (d : Int) (st : Store), WF c → f [chD c, .int d] st = .ok (hrsD (found c d)) st
theorem r_out (h2 : S_all (callT T "all_from")) : S_out (runDef T d_is_out) := by
  intro c d h st w
  simp [runDef, d_is_out, h2 c d h st w, isOut]
theorem per_rng {c : Chan} (w : WF c) : -1000000 ≤ (perC c : Int) ∧ (perC c : Int) ≤ 1000000 := by
  have := perC_facts w
  omega
theorem r_fhrs (h1 : S_per (callT T "period_of")) (h2 : S_out (callT T "is_out")) : S_fhrs (runDef T d_found_hours) := by
  intro c d st w
  simp [runDef, d_found_hours, h1 c st w, it1 (per_rng w)]
  rw [lc_fm (F := D.int) (isOut c d) D.int ?g]
  case g =>
    intro x _
    cases hx : isOut c d x <;> simp [h2 c d x st w, hx]
  simp
  exact congrArg (fun o => ofO o st) (frz_hrsD st.length st (found c d))
theorem r_lawOut (h1 : S_per (callT T "_law_period")) (h2 : S_all (callT T "_law_all")) : S_fhrs (runDef T d_law_out) := by
  intro c d st w
  simp [runDef, d_law_out, h1 c st w, it1 (per_rng w)]
  rw [lc_fm (F := D.int) (isOut c d) D.int ?g]
  case g =>
    intro x _
    cases hx : (allFrom c d x).isEmpty <;> simp [h2 c d x st w, isOut, hx]
  simp
  exact congrArg (fun o => ofO o st) (frz_hrsD st.length st (found c d))
def S_chk2 (f : Fn) : Prop := ∀ (c : Chan) (d : Int) (st : Store), WF c → 0 ≤ d → d ≤ 6 → f [chD c, .int d] st = .ok .non st
theorem r_chk2 (h1 : S_chk (callT T "check_channel")) (h2 : S_chkR 0 6 (callT T "check_draught")) : S_chk2 (runDef T d_check_two) := by
  intro c d st w d0 d6
  simp [runDef, d_check_two, h1 c st w, h2 d st d0 d6]
def S_hours (f : Fn) : Prop := ∀ (c : Chan) (d : Int) (st : Store), WF c → 0 ≤ d → d ≤ 6 → f [chD c, .int d] st = .ok (intsD (found c d)) st
theorem r_hours (h1 : S_chk2 (callT T "check_two")) (h2 : S_fhrs (callT T "found_hours")) : S_hours (runDef T d_hours_out) := by
  intro c d st w d0 d6
  simp [runDef, d_hours_out, h1 c d st w d0 d6, h2 c d st w]
theorem out_per {c : Chan} (w : WF c) {d h m : Int} (hm : (perC c : Int) ∣ m) : isOut c d (h + m) = isOut c d h := by
  unfold isOut
  rw [all_per w hm, List.isEmpty_map]
theorem mem_found {c : Chan} {d x : Int} : x ∈ found c d ↔ 0 ≤ x ∧ x < perC c ∧ isOut c d x = true := by
  unfold found
  rw [List.mem_filter, mem_rngI]
  constructor
  · rintro ⟨⟨a, b⟩, e⟩; exact ⟨a, by omega, e⟩
  · rintro ⟨a, b, e⟩; exact ⟨⟨a, by omega⟩, e⟩
theorem out_mod {c : Chan} (w : WF c) (d h : Int) : isOut c d (h % (perC c : Int)) = isOut c d h := by
  have e : h = h % (perC c : Int) + (perC c : Int) * (h / (perC c : Int)) := (Int.emod_add_mul_ediv h _).symm
  have := out_per w (d := d) (h := h % (perC c : Int)) (m := (perC c : Int) * (h / (perC c : Int))) (Int.dvd_mul_right _ _)
  rw [← e] at this
  exact this.symm
theorem mod_found {c : Chan} (w : WF c) (d h : Int) : h % (perC c : Int) ∈ found c d ↔ isOut c d h = true := by
  have hp := (perC_facts w).1
  rw [mem_found, out_mod w]
  constructor
  · exact fun q => q.2.2
  · exact fun q => ⟨Int.emod_nonneg _ (by omega), Int.emod_lt_of_pos _ (by omega), q⟩
theorem out_mono {c : Chan} (w : WF c) {d d' h : Int} (hd : d' ≤ d) (ho : isOut c d h = true) : isOut c d' h = true := by
  unfold isOut at ho ⊢
  simp at ho ⊢
  obtain ⟨r, hr⟩ := List.exists_mem_of_ne_nil _ ho
  exact List.ne_nil_of_mem (mem_mono w hd hr)
theorem out_iff {c : Chan} {d h : Int} : isOut c d h = true ↔ ∃ r, r ∈ allFrom c d h := by
  unfold isOut
  simp
  constructor
  · exact fun q => List.exists_mem_of_ne_nil _ q
  · rintro ⟨r, hr⟩; exact List.ne_nil_of_mem hr
theorem found_lt (c : Chan) (d : Int) : (found c d).Pairwise (· < ·) := (rngI_lt 0 (perC c)).filter _
/-! ### the longest delay -/
def rowsDel (c : Chan) (d : Int) : List Int := found c d ++ [atI (found c d) 0 + (perC c : Int)]
def gapsC (c : Chan) (d : Int) : List Int := (rngI 0 (found c d).length).map fun k => atI (rowsDel c d) (k.toNat + 1) - atI (rowsDel c d) k.toNat - 1
def delayC (c : Chan) (d : Int) : Option Int := maxI (gapsC c d)
def S_delay (f : Fn) : Prop := ∀ (c : Chan) (d : Int) (st : Store), WF c → 0 ≤ d → d ≤ 6 → f [chD c, .int d] st = .ok (optI (delayC c d)) st
theorem found_len {c : Chan} (w : WF c) (d : Int) : (found c d).length ≤ 512 := by
  have h1 := perC_facts w
  unfold found
  refine Nat.le_trans (List.length_filter_le _ _) ?_
  rw [rngI_len]; omega
theorem add_hrs {xs ys : List Int} (h : xs.length + ys.length ≤ 100000) : binop .Add (hrsD xs) (hrsD ys) = some (hrsD (xs ++ ys)) := by
  have : (xs.map D.int).length + (ys.map D.int).length ≤ lim := by simp [lim]; omega
  show (if (xs.map D.int).length + (ys.map D.int).length ≤ lim then _ else _) = _
  rw [if_pos this]
  simp [hrsD]
theorem pick_at {xs : List Int} {k : Nat} (h : k < xs.length) : pick xs (k : Int) = some (atI xs k) := by
  rw [pick_nat]
  unfold atI
  rw [List.getElem?_eq_getElem h]; rfl
theorem r_delay (h1 : S_chk2 (callT T "check_two")) (h2 : S_fhrs (callT T "found_hours")) (h3 : S_per (callT T "period_of")) : S_delay (runDef T d_longest_delay) := by
  intro c d st w d0 d6
  have hl := found_len w d
  cases hf : found c d with
  | nil =>
    have h2' := h2 c d st w
    rw [hf] at h2'
    simp [runDef, d_longest_delay, h1 c d st w d0 d6, h2', delayC, gapsC, hf, rngI, maxI, optI]
  | cons a as =>
    have hn : (found c d).isEmpty = false := by rw [hf]; rfl
    have p0 : pick (found c d) 0 = some (atI (found c d) 0) := pick_at (k := 0) (by rw [hf]; simp)
    have ad : binop .Add (hrsD (found c d)) (.lst [.int (atI (found c d) 0 + (perC c : Int))]) = some (hrsD (rowsDel c d)) := add_hrs (xs := found c d) (ys := [atI (found c d) 0 + (perC c : Int)]) (by simp; omega)
    have hr : -1000000 ≤ ((found c d).length : Int) ∧ ((found c d).length : Int) ≤ 1000000 := by omega
    simp [runDef, d_longest_delay, h1 c d st w d0 d6, h2 c d st w, h3 c st w, hn, ix_hrs, p0, ad, it1 hr]
    rw [lcL_map D.int (fun k => D.int (atI (rowsDel c d) (k.toNat + 1) - atI (rowsDel c d) k.toNat - 1)) ?g]
    case g =>
      intro x hx
      rw [mem_rngI] at hx
      obtain ⟨k, rfl⟩ : ∃ k : Nat, x = (k : Int) := ⟨x.toNat, by omega⟩
      have l1 : k + 1 < (rowsDel c d).length := by simp [rowsDel]; omega
      have l2 : k < (rowsDel c d).length := by omega
      have q1 := pick_at l1
      have q2 := pick_at l2
      rw [show ((k + 1 : Nat) : Int) = (k : Int) + 1 by omega] at q1
      simp only [pick_nat] at q2
      simp [ix_hrs, q1, q2]
    have hne : gapsC c d ≠ [] := by
      intro z
      have := congrArg List.length z
      simp [gapsC, rngI_len, hf] at this
    obtain ⟨m, m1, _⟩ := maxI_sp hne
    have := b_maxI (gapsC c d)
    unfold gapsC at this
    rw [List.map_map] at this
    simp only [Function.comp_def] at this
    simp only [kLst_ok, kEs1_ok, es_nil, kEs2_ok, kBlt_ok, List.map_cons, List.map_nil, rd_lst, this]
    unfold delayC
    unfold gapsC at m1 ⊢
    rw [m1]
    simp [optI]
/-- the greatest number of hours in a row that are not good -/
def LD (p : Int → Bool) (m : Int) : Prop := 0 ≤ m ∧ (∃ h, ∀ j, 0 ≤ j → j < m → p (h + j) = false) ∧ ∀ h, ∃ j, 0 ≤ j ∧ j ≤ m ∧ p (h + j) = true
theorem LD.le {p q : Int → Bool} {m n : Int} (h1 : LD p m) (h2 : LD q n) (hpq : ∀ h, p h = true → q h = true) : n ≤ m := by
  obtain ⟨_, ⟨h, hh⟩, _⟩ := h2
  obtain ⟨j, j0, j1, hj⟩ := h1.2.2 h
  apply Classical.byContradiction
  intro z
  have := hh j j0 (by omega)
  rw [hpq _ hj] at this
  cases this
theorem LD.eq {p : Int → Bool} {m n : Int} (h1 : LD p m) (h2 : LD p n) : m = n := by
  have a := h1.le h2 fun _ q => q
  have b := h2.le h1 fun _ q => q
  omega
def gapsL : List Int → Int → List Int
  | [], _ => []
  | [x], e => [e - x - 1]
  | x :: y :: r, e => (y - x - 1) :: gapsL (y :: r) e
theorem gapsL_run : ∀ {xs : List Int} {e g : Int}, xs.Pairwise (· < ·) → (∀ x ∈ xs, x < e) → g ∈ gapsL xs e → 0 ≤ g ∧ ∃ h, (∃ x ∈ xs, x < h) ∧ h + g ≤ e ∧ ∀ j, 0 ≤ j → j < g → h + j ∉ xs
  | [], _, _, _, _, hg => by cases hg
  | [x], e, g, _, hx, hg => by
    simp [gapsL] at hg
    have := hx x (by simp)
    refine ⟨by omega, x + 1, ⟨x, by simp, by omega⟩, by omega, fun j _ _ z => ?_⟩
    simp at z; omega
  | x :: y :: r, e, g, hp, hx, hg => by
    have hp' := List.pairwise_cons.mp hp
    have hxy : x < y := hp'.1 y (by simp)
    unfold gapsL at hg
    rcases List.mem_cons.mp hg with rfl | hg
    · have hye := hx y (by simp)
      refine ⟨by omega, x + 1, ⟨x, by simp, by omega⟩, by omega, fun j j0 j1 z => ?_⟩
      have hp2 := List.pairwise_cons.mp hp'.2
      rcases List.mem_cons.mp z with z | z
      · omega
      · rcases List.mem_cons.mp z with z | z
        · omega
        · have := hp2.1 _ z; omega
    · obtain ⟨g0, h, ⟨a, ha, hah⟩, hge, hr⟩ := gapsL_run hp'.2 (fun z hz => hx z (List.mem_cons_of_mem _ hz)) hg
      refine ⟨g0, h, ⟨a, List.mem_cons_of_mem _ ha, hah⟩, hge, fun j j0 j1 z => ?_⟩
      rcases List.mem_cons.mp z with z | z
      · have := hp'.1 a ha; omega
      · exact hr j j0 j1 z
theorem gapsL_hit : ∀ {xs : List Int} {e h : Int}, xs.Pairwise (· < ·) → (∀ x ∈ xs, x < e) → (∃ x, xs.head? = some x ∧ x < h) → h ≤ e → ∃ g ∈ gapsL xs e, ∃ j, 0 ≤ j ∧ j ≤ g ∧ (h + j ∈ xs ∨ h + j = e)
  | [], _, _, _, _, hh, _ => by obtain ⟨x, q, _⟩ := hh; simp at q
  | [x], e, h, _, hx, hh, he => by
    obtain ⟨x', q, hl⟩ := hh
    simp at q; subst q
    exact ⟨e - x - 1, by simp [gapsL], e - h, by omega, by omega, .inr (by omega)⟩
  | x :: y :: r, e, h, hp, hx, hh, he => by
    obtain ⟨x', q, hl⟩ := hh
    simp at q; subst q
    have hp' := List.pairwise_cons.mp hp
    by_cases hy : h ≤ y
    · exact ⟨y - x - 1, by simp [gapsL], y - h, by omega, by omega, .inl (by rw [show h + (y - h) = y by omega]; simp)⟩
    · obtain ⟨g, hg, j, j0, j1, hj⟩ := gapsL_hit hp'.2 (fun z hz => hx z (List.mem_cons_of_mem _ hz)) ⟨y, rfl, by omega⟩ he
      refine ⟨g, by unfold gapsL; exact List.mem_cons_of_mem _ hg, j, j0, j1, ?_⟩
      rcases hj with q | q
      · exact .inl (List.mem_cons_of_mem _ q)
      · exact .inr q
theorem gaps_eq : ∀ (xs : List Int) (e : Int), ((List.range xs.length).map fun k => atI (xs ++ [e]) (k + 1) - atI (xs ++ [e]) k - 1) = gapsL xs e
  | [], _ => rfl
  | [x], e => rfl
  | x :: y :: r, e => by
    have ih := gaps_eq (y :: r) e
    unfold gapsL
    rw [← ih, List.length_cons, List.range_succ_eq_map, List.map_cons, List.map_map]
    rfl
theorem gapsC_eq (c : Chan) (d : Int) : gapsC c d = gapsL (found c d) (atI (found c d) 0 + (perC c : Int)) := by
  rw [← gaps_eq]
  unfold gapsC rngI
  rw [List.map_map]
  refine List.map_congr_left fun k _ => ?_
  simp only [Function.comp_def, Int.zero_add, Int.toNat_natCast]
  rfl
theorem found_win {c : Chan} (w : WF c) {d a : Int} {as : List Int} (hf : found c d = a :: as) {t : Int} (h1 : a ≤ t) (h2 : t < a + (perC c : Int)) : t ∈ found c d ↔ isOut c d t = true := by
  have hp := (perC_facts w).1
  have ha := mem_found.mp (show a ∈ found c d by rw [hf]; simp)
  by_cases ht : t < perC c
  · rw [mem_found]
    exact ⟨fun q => q.2.2, fun q => ⟨by omega, ht, q⟩⟩
  · have e : isOut c d t = isOut c d (t - (perC c : Int)) := by
      have := out_per w (d := d) (h := t - (perC c : Int)) (Int.dvd_refl _)
      rw [← this]; congr 1; omega
    constructor
    · intro q
      exact (mem_found.mp q).2.2
    · intro q
      rw [e] at q
      have : t - (perC c : Int) ∈ found c d := mem_found.mpr ⟨by omega, by omega, q⟩
      have hs := found_lt c d
      rw [hf] at this hs
      rcases List.mem_cons.mp this with z | z
      · omega
      · have := (List.pairwise_cons.mp hs).1 _ z; omega
theorem delay_spec {c : Chan} (w : WF c) {d : Int} (hne : found c d ≠ []) : ∃ m, delayC c d = some m ∧ LD (isOut c d) m := by
  have hp := (perC_facts w).1
  obtain ⟨a, as, hf⟩ : ∃ a as, found c d = a :: as := by
    cases h : found c d with
    | nil => exact absurd h hne
    | cons a as => exact ⟨a, as, rfl⟩
  have ha0 : atI (found c d) 0 = a := by rw [hf]; rfl
  have hlt : ∀ x ∈ found c d, x < a + (perC c : Int) := fun x hx => by
    have := mem_found.mp hx
    have ha := mem_found.mp (show a ∈ found c d by rw [hf]; simp)
    omega
  have hge : ∀ x ∈ found c d, a ≤ x := fun x hx => by
    have hs := found_lt c d
    rw [hf] at hx hs
    rcases List.mem_cons.mp hx with z | z
    · omega
    · have := (List.pairwise_cons.mp hs).1 _ z; omega
  have hgn : gapsC c d ≠ [] := by
    intro z
    have := congrArg List.length z
    simp [gapsC, rngI_len, hf] at this
  obtain ⟨m, hm, hmem, hmax⟩ := maxI_sp hgn
  rw [gapsC_eq, ha0] at hmem hmax
  obtain ⟨g0, h, ⟨x, hx, hxh⟩, he, hrun⟩ := gapsL_run (found_lt c d) hlt hmem
  refine ⟨m, hm, g0, ⟨h, fun j j0 j1 => ?_⟩, fun t => ?_⟩
  · rw [Bool.eq_false_iff]
    intro q
    have := hge x hx
    exact hrun j j0 j1 ((found_win w hf (by omega) (by omega)).mpr q)
  · have e1 := Int.emod_nonneg (t - a - 1) (show (perC c : Int) ≠ 0 by omega)
    have e2 := Int.emod_lt_of_pos (t - a - 1) (show (0 : Int) < perC c by omega)
    have e3 : t - a - 1 = (t - a - 1) % (perC c : Int) + (perC c : Int) * ((t - a - 1) / (perC c : Int)) := (Int.emod_add_mul_ediv _ _).symm
    generalize hu : a + 1 + (t - a - 1) % (perC c : Int) = u
    obtain ⟨g, hg, j, j0, j1, hj⟩ := gapsL_hit (h := u) (found_lt c d) hlt ⟨a, by rw [hf]; rfl, by omega⟩ (by omega)
    refine ⟨j, j0, Int.le_trans j1 (hmax g hg), ?_⟩
    have e4 : isOut c d (t + j) = isOut c d (u + j) := by
      rw [← out_per w (d := d) (h := u + j) (m := (perC c : Int) * ((t - a - 1) / (perC c : Int))) (Int.dvd_mul_right _ _)]
      congr 1
      omega
    rw [e4]
    rcases hj with q | q
    · exact (mem_found.mp q).2.2
    · rw [q, out_per w (Int.dvd_refl _)]
      exact (mem_found.mp (show a ∈ found c d by rw [hf]; simp)).2.2
theorem delay_none {c : Chan} {d : Int} (h : found c d = []) : delayC c d = none := by
  simp [delayC, gapsC, h, rngI, maxI]
end TW
/-! TwWin2: the shortest passage, greatest and sure draughts, needless bars. -/
namespace TW
open PySem (Str Operator CmpOp)
variable {T : Tab}
/-! ### the shortest passage -/
def ltP (a b : Int × List Int) : Bool := if a.1 == b.1 then ltR a.2 b.2 else decide (a.1 < b.1)
def minP : List (Int × List Int) → Option (Int × List Int)
  | [] => none
  | x :: r => some (r.foldl (fun a b => if ltP b a then b else a) x)
def pairD (p : Int × List Int) : D := .tup [.int p.1, intsD p.2]
theorem ltR_irr : ∀ a : List Int, ltR a a = false
  | [] => rfl
  | x :: a => by simp [ltR, ltR_irr a]
theorem lt_pairD (a b : Int × List Int) : D.lt (pairD a) (pairD b) = ltP a b := by
  unfold pairD ltP
  show D.ltL [D.int a.1, intsD a.2] [D.int b.1, intsD b.2] = _
  simp only [D.ltL, D.eqv, D.lt, eqv_ints, lt_intsD]
  by_cases h : a.2 = b.2
  · simp [h, ltR_irr]
  · simp [h]
theorem fold_pairD : ∀ (ps : List (Int × List Int)) (x : Int × List Int), (ps.map pairD).foldl (fun a b => if D.lt b a then b else a) (pairD x) = pairD (ps.foldl (fun a b => if ltP b a then b else a) x)
  | [], x => rfl
  | p :: ps, x => by
    rw [List.map_cons, List.foldl_cons, List.foldl_cons, lt_pairD]
    rw [← fold_pairD ps]
    congr 1
    split <;> rfl
theorem like_pairs (ps : List (Int × List Int)) : likeAll (ps.map pairD) = true := by
  unfold likeAll
  simp only [Bool.and_eq_true, List.all_map, List.all_eq_true, Function.comp_def]
  refine ⟨fun r _ => ?_, fun r _ s _ => ?_⟩
  · show [D.int r.1, intsD r.2].all (D.ord 3) = true
    simp only [List.all_cons, List.all_nil, Bool.and_true, Bool.and_eq_true]
    exact ⟨rfl, ord_ints 2 r.2⟩
  · show D.likeL [D.int r.1, intsD r.2] [D.int s.1, intsD s.2] = true
    simp only [D.likeL, D.like, Bool.true_and, Bool.and_true]
    exact like_ints r.2 s.2
theorem b_minP (ps : List (Int × List Int)) : bltin "min" [.lst (ps.map pairD)] = (minP ps).map pairD := by
  cases ps with
  | nil => rfl
  | cons p ps =>
    show (match toInts ((p :: ps).map pairD) with | some ns => (minI ns).map D.int | none => if likeAll ((p :: ps).map pairD) then minD ((p :: ps).map pairD) else none) = _
    rw [show toInts ((p :: ps).map pairD) = none from rfl]
    simp only [like_pairs, if_true]
    show some ((ps.map pairD).foldl (fun a b => if D.lt b a then b else a) (pairD p)) = _
    rw [fold_pairD]
    rfl
def lenR (r : List Int) : Int := lastI r - r.head?.getD 0
def pairsOf (rows : List (List Int)) : List (Int × List Int) := rows.map fun r => (lenR r, r)
def pairsC (c : Chan) (d : Int) (hs : List Int) : List (Int × List Int) := hs.flatMap fun h => pairsOf (allFrom c d h)
def shortC (c : Chan) (d : Int) : Option (List Int) := (minP (pairsC c d (found c d))).map (·.2)
def optR : Option (List Int) → D
  | some r => intsD r
  | none => .non
@[simp] theorem der_optR (st : Store) (o : Option (List Int)) : der st (optR o) = optR o := by cases o <;> rfl
@[simp] theorem rd_optR (st : Store) (o : Option (List Int)) : rd st (optR o) = optR o := by cases o <;> rfl
@[simp] theorem frz_optR (k : Nat) (st : Store) (o : Option (List Int)) : frz k st (optR o) = some (optR o) := by cases o <;> simp [optR]
@[simp] theorem ne_optR (o : Option (List Int)) : cmpop .NotEq (optR o) (optR o) = some false := by
  cases o with
  | none => exact ne_same rfl
  | some r => exact ne_same (good_intsD 7 r)
theorem pairs_len {c : Chan} (w : WF c) (d : Int) : ∀ hs : List Int, (pairsC c d hs).length ≤ 16 * hs.length
  | [] => by simp [pairsC]
  | h :: hs => by
    have ih := pairs_len w d hs
    have n1 := w.n1
    have n3 := w.n3
    have := rows_cnt w d h (c.bars.length - 1) (by omega)
    have h4 : 4 ^ (c.bars.length - 1) ≤ 16 := Nat.le_trans (Nat.pow_le_pow_right (by omega) (show c.bars.length - 1 ≤ 2 by omega)) (by decide)
    unfold pairsC at ih ⊢
    rw [List.flatMap_cons, List.length_append, List.length_cons]
    unfold pairsOf at ih ⊢
    rw [List.length_map]
    unfold allFrom at ih ⊢
    omega
theorem good_pair (n : Nat) (p : Int × List Int) : D.good (n + 2) (pairD p) = true := by
  show [D.int p.1, intsD p.2].all (D.good (n + 1)) = true
  simp only [List.all_cons, List.all_nil, Bool.and_true, Bool.and_eq_true]
  exact ⟨rfl, good_intsD n p.2⟩
theorem ne_pairs0 (ps : List (Int × List Int)) : cmpop .NotEq (.lst (ps.map pairD)) (.lst []) = some (!ps.isEmpty) := by
  rw [ne_nil _ (good_map 7 pairD (good_pair 5) ps), List.isEmpty_map]
theorem ix_pair1 (p : Int × List Int) : idxop (pairD p) (.int 1) = some (intsD p.2) := rfl
@[simp] theorem rd_pairD (st : Store) (p : Int × List Int) : rd st (pairD p) = pairD p := nrfl rfl
@[simp] theorem der_pairD (st : Store) (p : Int × List Int) : der st (pairD p) = pairD p := nrfl rfl
theorem pairsC_snoc (c : Chan) (d : Int) (l : List Int) (h : Int) : pairsC c d (l ++ [h]) = pairsC c d l ++ pairsOf (allFrom c d h) := by simp [pairsC]
/-- min(rows)[1] if rows != [] else None -/
theorem min_pairs {env : Env} {st : Store} {i : Nat} {d : D} {ps : List (Int × List Int)} (h : getV env i st = .ok d st) (hd : rd st d = .lst (ps.map pairD)) : evE T (.ite (.cmp .NotEq (.var i) (.lst [])) (.idx (.blt "min" [.var i]) (.cst (.int 1))) (.cst .non)) env st = .ok (optR ((minP ps).map (·.2))) st := by
  simp [h, hd, ne_pairs0]
  cases ps with
  | nil => simp [optR, minP]
  | cons p ps =>
    have := b_minP (p :: ps)
    simp only [List.map_cons] at this hd
    simp [h, hd, this]
    simp [minP, optR, ix_pair1]
def S_short (f : Fn) : Prop := ∀ (c : Chan) (d : Int) (st : Store), WF c → 0 ≤ d → d ≤ 6 → f [chD c, .int d] st = .ok (optR (shortC c d)) st
theorem lc_pairs {st : Store} {ds : List D} {f : D → Store → R (List D)} {rows : List (List Int)} (h : ∀ r ∈ rows, f (intsD r) st = .ok [pairD (lenR r, r)] st) : lcL st ds f (rows.map intsD) st = .ok ((pairsOf rows).map pairD) st := by
  rw [lcL_map intsD (fun r => pairD (lenR r, r)) h]
  unfold pairsOf
  rw [List.map_map]; rfl
theorem r_short (h1 : S_chk2 (callT T "check_two")) (h2 : S_fhrs (callT T "found_hours")) (h3 : S_all (callT T "all_from")) : S_short (runDef T d_shortest) := by
  intro c d st w d0 d6
  have hl := found_len w d
  simp [runDef, d_shortest, h1 c d st w d0 d6, h2 c d _ w, -e_ite]
  refine lv_ok fun Z hZ => ?_
  refine for_seq D.int (fun l env st' => ∃ o3 o4, env = [some (chD c), some (.int d), some (.ref st.length), o3, o4] ∧ st' = st ++ [.lst ((pairsC c d l).map pairD)]) (fun _ _ _ _ => noref_der rfl _ _) ⟨none, none, rfl, rfl⟩ ?step ?rest
  case rest =>
    rintro env' st' ⟨o3, o4, rfl, rfl⟩
    simp only [xs_1, x_ret]
    rw [min_pairs (d := .ref st.length) (ps := pairsC c d (found c d)) (by simp) (by simp)]
    simp
    refine Ok.ok (hZ _ _ ?_)
    rw [leave_app]
    simp [shortC]
  case step =>
    rintro l h r env _ el ⟨o3, o4, rfl, rfl⟩ Q hQ
    have hll : l.length ≤ 512 := by
      have := congrArg List.length el
      simp at this
      omega
    have hpl := pairs_len w d l
    have hpl2 := pairs_len w d [h]
    simp [pairsC] at hpl2
    simp [h3 c d h _ w]
    rw [lc_pairs ?g]
    case g =>
      intro r hr
      have hn := all_ne hr
      have := pick_head hn
      rw [pick_0] at this
      simp [ix_ints, pick_neg1 hn, this, pairD, lenR]
    simp
    rw [ext_top (by rw [List.length_map, List.length_map]; unfold lim; omega)]
    simp
    exact Ok.ok (hQ _ _ ⟨_, _, rfl, by rw [pairsC_snoc, List.map_append]⟩)
/-! ### draughts -/
theorem WF.dep {c : Chan} (w : WF c) {k : Nat} (hk : k < c.bars.length) (t : Int) : 0 ≤ depB (barC c k) t ∧ depB (barC c k) t ≤ 6 := by
  have hb := barC_some hk
  obtain ⟨h1, _, h3, _⟩ := w.at hb
  exact h3 _ (depB_mem h1)
theorem out_zero {c : Chan} (w : WF c) {d h : Int} (hd : d ≤ 0) : isOut c d h = true := by
  have key : ∀ k, k < c.bars.length → rowsTo c d h k ≠ [] := by
    intro k
    induction k with
    | zero =>
      intro hk
      unfold rowsTo
      have := w.dep hk h
      rw [if_pos (by omega)]
      simp
    | succ k ih =>
      intro hk
      obtain ⟨r, hr⟩ := List.exists_mem_of_ne_nil _ (ih (by omega))
      have hw := w.wait _ (List.mem_of_getElem? (waitC_some (c := c) (k := k) (by have := w.nw; omega)))
      apply List.ne_nil_of_mem (a := r ++ [lastI r + legC c k + ((0 : Nat) : Int)])
      unfold rowsTo ext1
      rw [List.mem_filter, List.mem_flatMap]
      refine ⟨⟨r, hr, ?_⟩, ?_⟩
      · unfold more1
        exact List.mem_map.mpr ⟨0, List.mem_range.mpr (by omega), rfl⟩
      · have := w.dep hk (lastI (r ++ [lastI r + legC c k + ((0 : Nat) : Int)]))
        simp only [decide_eq_true_eq]
        omega
  unfold isOut allFrom
  have := key (c.bars.length - 1) (by have := w.n1; omega)
  cases h : rowsTo c d h (c.bars.length - 1) with
  | nil => exact absurd h this
  | cons => rfl
theorem found_zero {c : Chan} (w : WF c) {d : Int} (hd : d ≤ 0) : found c d = rngI 0 (perC c) := by
  unfold found
  rw [List.filter_eq_self]
  intro h _
  exact out_zero w hd
def greatL (c : Chan) : List Int := (rngI 0 7).filter fun d => !(found c d).isEmpty
def sureL (c : Chan) : List Int := (rngI 0 7).filter fun d => ((found c d).length : Int) == (perC c : Int)
def greatC (c : Chan) : Int := (maxI (greatL c)).getD 0
def sureC (c : Chan) : Int := (maxI (sureL c)).getD 0
theorem great_zero {c : Chan} (w : WF c) : 0 ∈ greatL c := by
  have hp := (perC_facts w).1
  unfold greatL
  rw [List.mem_filter, mem_rngI]
  refine ⟨by omega, ?_⟩
  rw [found_zero w (by omega)]
  have : rngI 0 (perC c) ≠ [] := fun z => by
    have := congrArg List.length z
    rw [rngI_len] at this; simp at this; omega
  cases h : rngI 0 (perC c) with
  | nil => exact absurd h this
  | cons => rfl
theorem sure_zero {c : Chan} (w : WF c) : 0 ∈ sureL c := by
  unfold sureL
  rw [List.mem_filter, mem_rngI]
  refine ⟨by omega, ?_⟩
  rw [found_zero w (by omega), rngI_len]
  simp
theorem great_max {c : Chan} (w : WF c) : maxI (greatL c) = some (greatC c) ∧ greatC c ∈ greatL c ∧ ∀ x ∈ greatL c, x ≤ greatC c := by
  obtain ⟨m, h1, h2, h3⟩ := maxI_sp (List.ne_nil_of_mem (great_zero w))
  unfold greatC
  rw [h1]
  exact ⟨rfl, h2, h3⟩
theorem sure_max {c : Chan} (w : WF c) : maxI (sureL c) = some (sureC c) ∧ sureC c ∈ sureL c ∧ ∀ x ∈ sureL c, x ≤ sureC c := by
  obtain ⟨m, h1, h2, h3⟩ := maxI_sp (List.ne_nil_of_mem (sure_zero w))
  unfold sureC
  rw [h1]
  exact ⟨rfl, h2, h3⟩
def S_int (g : Chan → Int) (f : Fn) : Prop := ∀ (c : Chan) (st : Store), WF c → f [chD c] st = .ok (.int (g c)) st
theorem r7 : -1000000 ≤ (7 : Int) ∧ (7 : Int) ≤ 1000000 := by omega
theorem r_great (h1 : S_chk (callT T "check_channel")) (h2 : S_fhrs (callT T "found_hours")) : S_int greatC (runDef T d_greatest_draught) := by
  intro c st w
  simp [runDef, d_greatest_draught, h1 c st w, it1 r7]
  rw [lc_fm (F := D.int) (fun d => !(found c d).isEmpty) D.int ?g]
  case g =>
    intro x _
    cases hx : (found c x).isEmpty <;> simp [h2 c x st w, hx]
  have := b_maxI (greatL c)
  rw [(great_max w).1] at this
  simp only [kLst_ok, kEs1_ok, es_nil, kEs2_ok, kBlt_ok, List.map_cons, List.map_nil, rd_lst]
  unfold greatL at this
  rw [this]
  simp
theorem r_sure (h1 : S_chk (callT T "check_channel")) (h2 : S_fhrs (callT T "found_hours")) (h3 : S_per (callT T "period_of")) : S_int sureC (runDef T d_sure_draught) := by
  intro c st w
  simp [runDef, d_sure_draught, h1 c st w, it1 r7]
  rw [lc_fm (F := D.int) (fun d => ((found c d).length : Int) == (perC c : Int)) D.int ?g]
  case g =>
    intro x _
    cases hx : (((found c x).length : Int) == (perC c : Int)) <;> simp [h2 c x st w, h3 c st w, hx]
  have := b_maxI (sureL c)
  rw [(sure_max w).1] at this
  simp only [kLst_ok, kEs1_ok, es_nil, kEs2_ok, kBlt_ok, List.map_cons, List.map_nil, rd_lst]
  unfold sureL at this
  rw [this]
  simp
/-! ### needless bars -/
def deepC (c : Chan) (k : Nat) : Chan := ⟨c.bars.set k (List.replicate (barC c k).length 6), c.legs, c.waits⟩
def isNeed (c : Chan) (k : Nat) : Bool := (rngI 0 7).all fun d => decide (found c d = found (deepC c k) d)
def needL (c : Chan) : List Int := (rngI 0 c.bars.length).filter fun k => isNeed c k.toNat
theorem WF.deep {c : Chan} (w : WF c) (k : Nat) : WF (deepC c k) := by
  refine ⟨by simp [deepC, w.n1], by simp [deepC, w.n3], fun b hb => ?_, by simp [deepC, w.nl], w.leg, by simp [deepC, w.nw], w.wait⟩
  by_cases hk : k < c.bars.length
  · rcases List.mem_or_eq_of_mem_set hb with q | q
    · exact w.bar b q
    · have := w.at (barC_some hk)
      subst q
      refine ⟨by simp; omega, by simp; omega, fun x hx => ?_⟩
      have := List.eq_of_mem_replicate hx
      omega
  · have : c.bars.set k (List.replicate (barC c k).length 6) = c.bars := List.set_eq_of_length_le (by omega)
    simp only [deepC, this] at hb
    exact w.bar b hb
theorem set_cut {α : Type} (xs : List α) (k : Nat) (h : k < xs.length) (y : α) : xs.take k ++ [y] ++ xs.drop (k + 1) = xs.set k y := by
  rw [List.set_eq_take_append_cons_drop, if_pos h]
  simp
def S_need1 (f : Fn) : Prop := ∀ (c : Chan) (k : Nat) (st : Store), WF c → k < c.bars.length → f [chD c, .int k] st = .ok (.bl (isNeed c k)) st
def S_need (f : Fn) : Prop := ∀ (c : Chan) (st : Store), WF c → f [chD c] st = .ok (intsD (needL c)) st
theorem mul_tup1 {x : D} {n : Nat} (h : n ≤ 1000) : binop .Mult (.tup [x]) (.int (n : Int)) = some (.tup (List.replicate n x)) := by
  have hc : -(2 ^ 63) ≤ (n : Int) ∧ (n : Int) ≤ 1000 ∧ [x].length ≤ 1000 := ⟨by omega, by omega, by simp⟩
  show (if _ then _ else _) = _
  rw [if_pos hc]
  congr 2
  rw [Int.toNat_natCast]
  induction n with
  | zero => rfl
  | succ n ih => rw [List.replicate_succ, List.flatten_cons, ih (by omega) (by omega)]; rfl
theorem slcT_to (xs : List D) (k : Nat) : slcop (.tup xs) none (some (k : Int)) = some (.tup (xs.take k)) := by
  show some (D.tup (cut xs none (some (k : Int)))) = _
  rw [cut_to]
theorem slcT_from (xs : List D) (k : Nat) : slcop (.tup xs) (some (k : Int)) none = some (.tup (xs.drop k)) := by
  show some (D.tup (cut xs (some (k : Int)) none)) = _
  rw [cut_from]
theorem add_tup {xs ys : List D} (h : xs.length + ys.length ≤ 1000) : binop .Add (.tup xs) (.tup ys) = some (.tup (xs ++ ys)) := by
  show (if xs.length + ys.length ≤ lim then _ else _) = _
  rw [if_pos (by unfold lim; omega)]
theorem chD_deep {c : Chan} {k : Nat} (hk : k < c.bars.length) : D.tup [.tup ((c.bars.map intsD).take k ++ [D.tup (List.replicate (barC c k).length (.int 6))] ++ (c.bars.map intsD).drop (k + 1)), intsD c.legs, intsD c.waits] = chD (deepC c k) := by
  rw [set_cut _ k (by simpa using hk)]
  unfold chD deepC
  rw [List.map_set]
  simp [intsD]
theorem r_need1 (h2 : S_fhrs (callT T "found_hours")) : S_need1 (runDef T d_is_needless) := by
  intro c k st w hk
  have gb := barC_some hk
  have hb := w.at gb
  have n3 := w.n3
  have sl2 : slcop (.tup (c.bars.map intsD)) (some ((k : Int) + 1)) none = some (.tup ((c.bars.map intsD).drop (k + 1))) := by
    rw [show ((k : Int) + 1) = ((k + 1 : Nat) : Int) by omega]
    exact slcT_from _ (k + 1)
  have a1 : binop .Add (.tup ((c.bars.map intsD).take k)) (.tup [D.tup (List.replicate (barC c k).length (.int 6))]) = some (.tup ((c.bars.map intsD).take k ++ [D.tup (List.replicate (barC c k).length (.int 6))])) := add_tup (by simp; omega)
  have a2 : binop .Add (.tup ((c.bars.map intsD).take k ++ [D.tup (List.replicate (barC c k).length (.int 6))])) (.tup ((c.bars.map intsD).drop (k + 1))) = some (.tup ((c.bars.map intsD).take k ++ [D.tup (List.replicate (barC c k).length (.int 6))] ++ (c.bars.map intsD).drop (k + 1))) := add_tup (by simp; omega)
  have h2' : ∀ d st, callT T "found_hours" [chD (deepC c k), .int d] st = .ok (hrsD (found (deepC c k) d)) st := fun d st => h2 _ d st (w.deep k)
  simp only [runDef, d_is_needless]
  simp [ix_bars, gb, mul_tup1 (show (barC c k).length ≤ 1000 by omega), slcT_to, sl2, a1, a2, it1 r7, -List.map_take, -List.map_drop, -List.append_assoc, -List.singleton_append]
  rw [chD_deep hk]
  rw [lcL_map D.int (fun d => D.bl (decide (found c d = found (deepC c k) d))) ?g]
  case g =>
    intro d _
    simp [h2 c d st w, h2', eq_hrs]
  simp [toBls_map, isNeed]
theorem r_need (h1 : S_chk (callT T "check_channel")) (h2 : S_need1 (callT T "is_needless")) : S_need (runDef T d_needless_bars) := by
  intro c st w
  have n3 := w.n3
  have hr : -1000000 ≤ (c.bars.length : Int) ∧ (c.bars.length : Int) ≤ 1000000 := by omega
  simp [runDef, d_needless_bars, h1 c st w, it1 hr]
  rw [lc_fm (F := D.int) (fun k => isNeed c k.toNat) D.int ?g]
  case g =>
    intro x hx
    rw [mem_rngI] at hx
    obtain ⟨k, rfl⟩ : ∃ k : Nat, x = (k : Int) := ⟨x.toNat, by omega⟩
    cases hx : isNeed c k <;> simp [h2 c k st w (by omega), hx]
  simp
  exact congrArg (fun o => ofO o st) (frz_intsD st.length st (needL c))
end TW
/-! TwCell: cells by their numbers. -/
namespace TW
open PySem (Str Operator CmpOp)
theorem lcL_none {α : Type} {F : α → D} {st : Store} {ds : List D} {f : D → Store → R (List D)} : ∀ {as : List α}, (∀ a ∈ as, f (F a) st = .ok [] st) → lcL st ds f (as.map F) st = .ok [] st
  | [], _ => rfl
  | a :: as, h => by
    rw [List.map_cons, lcL, h a List.mem_cons_self, R.bind_ok, chk_same, lcL_none (as := as) fun b hb => h b (List.mem_cons_of_mem _ hb)]
    rfl
@[simp] theorem ne_nilnil : cmpop .NotEq (.lst []) (.lst []) = some false := ne_nil [] rfl
@[simp] theorem eq_nilnil : cmpop .Eq (.lst []) (.lst []) = some true := eq_nil [] rfl
section
variable (xs ys : List D) (a b e : Cell) (r : Store) (d : D)
@[simp] theorem der_r0 : der (.lst xs :: r) (.ref 0) = .lst xs := nrfl rfl
@[simp] theorem der_r1 : der (a :: .lst xs :: r) (.ref 1) = .lst xs := nrfl rfl
@[simp] theorem der_r2 : der (a :: b :: .lst xs :: r) (.ref 2) = .lst xs := nrfl rfl
@[simp] theorem der_r3 : der (a :: b :: e :: .lst xs :: r) (.ref 3) = .lst xs := nrfl rfl
@[simp] theorem rd_r0 : rd (.lst xs :: r) (.ref 0) = .lst xs := nrfl rfl
@[simp] theorem rd_r1 : rd (a :: .lst xs :: r) (.ref 1) = .lst xs := nrfl rfl
@[simp] theorem rd_r2 : rd (a :: b :: .lst xs :: r) (.ref 2) = .lst xs := nrfl rfl
@[simp] theorem rd_r3 : rd (a :: b :: e :: .lst xs :: r) (.ref 3) = .lst xs := nrfl rfl
@[simp] theorem cell_r1 : cellOf (a :: .lst xs :: r) (.ref 1) = some (1, xs) := nrfl rfl
@[simp] theorem cell_r2 : cellOf (a :: b :: .lst xs :: r) (.ref 2) = some (2, xs) := nrfl rfl
@[simp] theorem cell_r3 : cellOf (a :: b :: e :: .lst xs :: r) (.ref 3) = some (3, xs) := nrfl rfl
variable {xs}
theorem app_r1 (h : xs.length < lim) : appC (a :: .lst xs :: r) (.ref 1) d = .ok .non (a :: .lst (xs ++ [d]) :: r) := by
  unfold appC; simp [h]
theorem app_r2 (h : xs.length < lim) : appC (a :: b :: .lst xs :: r) (.ref 2) d = .ok .non (a :: b :: .lst (xs ++ [d]) :: r) := by
  unfold appC; simp [h]
theorem app_r3 (h : xs.length < lim) : appC (a :: b :: e :: .lst xs :: r) (.ref 3) d = .ok .non (a :: b :: e :: .lst (xs ++ [d]) :: r) := by
  unfold appC; simp [h]
@[simp] theorem ix_lst (k : Int) : idxop (.lst xs) (.int k) = pick xs k := nrfl rfl
end
end TW
/-! L11: the law of whole windows, plainly. -/
namespace TW
open PySem (Str Operator CmpOp)
variable {T : Tab}
theorem range_pre {m a : Nat} {l r : List Nat} (e : List.range m = l ++ a :: r) : l = List.range l.length := by
  have h1 := range_split e
  have : (List.range m).take l.length = l := by rw [e]; simp
  rw [← this, List.take_range]
  congr 1
  simp
/-- the first place at which p holds -/
def srch (p : Int → Bool) : Nat → Int → Int
  | 0, j => j
  | n + 1, j => if p j then j else srch p n (j + 1)
theorem srch_ge (p : Int → Bool) : ∀ n j, j ≤ srch p n j ∧ srch p n j ≤ j + n
  | 0, j => by simp [srch]
  | n + 1, j => by
    unfold srch
    split
    · omega
    · have := srch_ge p n (j + 1); omega
theorem srch_not (p : Int → Bool) : ∀ n j i, j ≤ i → i < srch p n j → p i = false
  | 0, j, i, h1, h2 => by simp [srch] at h2; omega
  | n + 1, j, i, h1, h2 => by
    unfold srch at h2
    split at h2
    · omega
    · rename_i hp
      by_cases e : i = j
      · rw [e]; simpa using hp
      · exact srch_not p n (j + 1) i (by omega) h2
theorem srch_hit (p : Int → Bool) : ∀ (n : Nat) (j i : Int), j ≤ i → i ≤ j + n → p i = true → p (srch p n j) = true
  | 0, j, i, h1, h2, h => by
    have : i = j := by omega
    subst this; exact h
  | n + 1, j, i, h1, h2, h => by
    unfold srch
    split
    · assumption
    · rename_i hp
      by_cases e : i = j
      · subst e; exact absurd h hp
      · exact srch_hit p n (j + 1) i (by omega) (by omega) h
theorem whl_srch {C : Env → Store → R D} {B : Env → Store → R Out} {st : Store} (E : Int → Env) (p : Int → Bool) (hC : ∀ j, C (E j) st = .ok (.bl (!p j)) st) (hB : ∀ j, B (E j) st = .ok (.next (E (j + 1))) st) : ∀ (n : Nat) (j : Int) (N : Nat), n < N → p (srch p n j) = true → whlL C B N (E j) st = .ok (.next (E (srch p n j))) st
  | 0, j, 0, h, _ => by omega
  | 0, j, N + 1, _, hp => by
    have hp' : p j = true := hp
    rw [whlL, hC, hp']
    rfl
  | n + 1, j, 0, h, _ => by omega
  | n + 1, j, N + 1, h, hp => by
    rw [whlL, hC]
    unfold srch at hp ⊢
    by_cases hj : p j = true
    · rw [if_pos hj, hj]; rfl
    · rw [if_neg hj] at hp ⊢
      rw [show p j = false by simpa using hj]
      simp only [R.bind_ok, Bool.not_false]
      rw [hB]
      simp only [R.bind_ok]
      exact whl_srch E p hC hB n (j + 1) N (by omega) hp
theorem delays_spec {c : Chan} (w : WF c) {d : Int} (hne : found c d ≠ []) : (∀ h, isOut c d (h + srch (fun t => isOut c d (h + t)) (perC c) 0) = true) ∧ ∀ m, maxI ((rngI 0 (perC c)).map fun h => srch (fun t => isOut c d (h + t)) (perC c) 0) = some m → LD (isOut c d) m := by
  have hp := (perC_facts w).1
  have key : ∀ h, isOut c d (h + srch (fun t => isOut c d (h + t)) (perC c) 0) = true := by
    intro h
    obtain ⟨x, hx⟩ := List.exists_mem_of_ne_nil _ hne
    have hx' := mem_found.mp hx
    have e1 := Int.emod_nonneg (x - h) (show (perC c : Int) ≠ 0 by omega)
    have e2 := Int.emod_lt_of_pos (x - h) (show (0 : Int) < perC c by omega)
    have e3 : x - h = (x - h) % (perC c : Int) + (perC c : Int) * ((x - h) / (perC c : Int)) := (Int.emod_add_mul_ediv _ _).symm
    refine srch_hit (fun t => isOut c d (h + t)) (perC c) 0 ((x - h) % (perC c : Int)) e1 (by omega) ?_
    show isOut c d (h + (x - h) % (perC c : Int)) = true
    rw [← out_per w (m := (perC c : Int) * ((x - h) / (perC c : Int))) (Int.dvd_mul_right _ _), ← hx'.2.2]
    congr 1
    omega
  refine ⟨key, fun m hm => ?_⟩
  have hn : (rngI 0 (perC c)).map (fun h => srch (fun t => isOut c d (h + t)) (perC c) 0) ≠ [] := fun z => by
    have := congrArg List.length z
    simp [rngI_len] at this; omega
  obtain ⟨m', h1, h2, h3⟩ := maxI_sp hn
  rw [h1] at hm
  cases hm
  obtain ⟨h, hh, hm⟩ := List.mem_map.mp h2
  have g0 := srch_ge (fun t => isOut c d (h + t)) (perC c) 0
  refine ⟨by omega, ⟨h, fun j j0 j1 => ?_⟩, fun t => ?_⟩
  · exact srch_not (fun t => isOut c d (h + t)) (perC c) 0 j j0 (by omega)
  · have e1 := Int.emod_nonneg t (show (perC c : Int) ≠ 0 by omega)
    have e2 := Int.emod_lt_of_pos t (show (0 : Int) < perC c by omega)
    have hk := key (t % (perC c : Int))
    have hmem := h3 _ (List.mem_map.mpr ⟨t % (perC c : Int), mem_rngI.mpr ⟨e1, by omega⟩, rfl⟩)
    have g0 := srch_ge (fun u => isOut c d (t % (perC c : Int) + u)) (perC c) 0
    refine ⟨_, g0.1, hmem, ?_⟩
    rw [← out_per w (m := (perC c : Int) * (t / (perC c : Int))) (Int.dvd_mul_right _ _)] at hk
    rw [← hk]
    congr 1
    have := Int.emod_add_mul_ediv t (perC c : Int)
    omega
theorem ne_rowsT0 (rows : List (List Int)) : cmpop .NotEq (rowsT rows) (.tup []) = some (!rows.isEmpty) := by
  show (if D.good 8 (rowsT rows) && D.good 8 (.tup []) then some (!D.eqvL (rows.map intsD) []) else none) = _
  rw [good_rowsT]
  cases rows <;> rfl
theorem eq_rowsT0 (rows : List (List Int)) : cmpop .Eq (rowsT rows) (.tup []) = some (rows.isEmpty) := by
  show (if D.good 8 (rowsT rows) && D.good 8 (.tup []) then some (D.eqvL (rows.map intsD) []) else none) = _
  rw [good_rowsT]
  cases rows <;> rfl
def tblC (c : Chan) (n : Nat) : List D := (List.range n).map fun (k : Nat) => hrsD (found c (k : Int))
theorem law_k11 (hTown : S_town (callT T "_law_town")) (hDraw : S_draw (callT T "_law_draw")) (hChan : S_chan (callT T "_law_channel")) (hLP : S_per (callT T "_law_period")) (hLA : S_all (callT T "_law_all")) (hLO : S_fhrs (callT T "_law_out"))
    (hPass : S_passes (callT T "passages")) (hHours : S_hours (callT T "hours_out")) (hDelay : S_delay (callT T "longest_delay")) (hShort : S_short (callT T "shortest")) (hGreat : S_int greatC (callT T "greatest_draught")) (hSure : S_int sureC (callT T "sure_draught")) (ns : List Int) (hns : ns.length ≤ 63) :
    runDef T d_k11 [.scr ns] [] = .ok (.bl true) [] := by
  have t0 : Tn ns 0 [] [.lst (.int 0 :: ns.map .int)] := ⟨0, ns, rfl, by omega, by omega, rfl⟩
  obtain ⟨_, st1, e1, c, rfl, w, hk, hm, t1⟩ := hChan ns 0 [] _ 3 6 hns t0 (by unfold big; omega) (by omega) (by omega) (by omega) (by omega)
  obtain ⟨n1, rest1, rfl, n10, n1b, hr1⟩ := t1
  have pf := perC_facts w
  have q1 : ∀ st, callT T "_law_period" [chD c] st = .ok (.int (perC c)) st := fun st => hLP c st w
  simp [runDef, d_k11, hTown ns hns, e1, q1, it_r1 r7]
  refine lv_ok fun Z hZ => ?_
  unfold rngD
  refine for_seq (fun k : Nat => D.int (0 + (k : Int))) (fun l env st => ∃ o5 o6 o7, env = [some (.scr ns), some (.ref 0), some (chD c), some (.int (perC c)), some (.ref 1), o5, o6, o7, none, none, none, none, none] ∧ st = [.lst (.int n1 :: rest1.map .int), .lst (tblC c l.length)]) (fun _ _ _ _ => noref_der rfl _ _) ⟨none, none, none, rfl, rfl⟩ ?step ?rest
  case step =>
    rintro l k r env st el ⟨o5, o6, o7, rfl, rfl⟩ Q hQ
    obtain ⟨hk1, hk2⟩ := range_split el
    subst hk1
    have hlt : (tblC c l.length).length < lim := by simp [tblC, lim]; omega
    have etb : tblC c (l.length + 1) = tblC c l.length ++ [hrsD (found c (l.length : Int))] := by
      unfold tblC
      rw [List.range_succ, List.map_append]; rfl
    have a1 : ∀ st, callT T "hours_out" [chD c, .int (l.length : Int)] st = .ok (intsD (found c (l.length : Int))) st := fun st => hHours c _ st w (by omega) (by omega)
    have a2 : ∀ st, callT T "_law_out" [chD c, .int (l.length : Int)] st = .ok (hrsD (found c (l.length : Int))) st := fun st => hLO c _ st w
    simp [a1, a2, app_r1 _ _ _ hlt, ne_ints, ← etb]
    by_cases hz : 0 < l.length
    · have hz' : (0 : Int) < (l.length : Int) := by omega
      have pk : pick (tblC c (l.length + 1)) ((l.length : Int) - 1) = some (hrsD (found c ((l.length : Int) - 1))) := by
        rw [show ((l.length : Int) - 1) = ((l.length - 1 : Nat) : Int) by omega, pick_nat]
        unfold tblC
        rw [List.getElem?_map, List.getElem?_range (by omega)]; rfl
      simp [hz]
      rw [lcL_none ?g1]
      case g1 =>
        intro x hx
        have hx' := mem_found.mp hx
        have hin : x ∈ found c ((l.length : Int) - 1) := mem_found.mpr ⟨hx'.1, hx'.2.1, out_mono w (by omega) hx'.2.2⟩
        simp [pk, notin_hrs, hin]
      simp [ne_nil [] rfl]
      refine Ok.ok (hQ _ _ ⟨_, _, _, rfl, ?_⟩)
      simp
    · simp [hz]
      exact Ok.ok (hQ _ _ ⟨_, _, _, rfl, by simp⟩)
  case rest =>
    rintro env st ⟨o5, o6, o7, rfl, rfl⟩
    rw [List.length_range]
    have t2 : Tn ns (0 + 1000) [.lst (tblC c 7)] [.lst (.int n1 :: rest1.map .int), .lst (tblC c 7)] := ⟨n1, rest1, rfl, n10, n1b, hr1⟩
    obtain ⟨_, st3, e3, d, rfl, d0, d7, t3⟩ := hDraw ns _ _ _ 7 hns t2 (by unfold big; omega) (by omega) (by omega)
    obtain ⟨n3, rest3, rfl, n30, n3b, hr3⟩ := t3
    have pk : pick (tblC c 7) d = some (hrsD (found c d)) := by
      obtain ⟨k, rfl⟩ : ∃ k : Nat, d = (k : Int) := ⟨d.toNat, by omega⟩
      rw [pick_nat]
      unfold tblC
      rw [List.getElem?_map, List.getElem?_range (by omega)]; rfl
    have hpm : (0 : Int) < (perC c : Int) := by omega
    have a3 : ∀ st, callT T "longest_delay" [chD c, .int d] st = .ok (optI (delayC c d)) st := fun st => hDelay c d st w (by omega) (by omega)
    have a4 : ∀ st, callT T "shortest" [chD c, .int d] st = .ok (optR (shortC c d)) st := fun st => hShort c d st w (by omega) (by omega)
    have a5 : ∀ st, callT T "greatest_draught" [chD c] st = .ok (.int (greatC c)) st := fun st => hGreat c st w
    have a6 : ∀ st, callT T "sure_draught" [chD c] st = .ok (.int (sureC c)) st := fun st => hSure c st w
    generalize hdl : (fun h : Int => if found c d = [] then 0 else srch (fun t => isOut c d (h + t)) (perC c) 0) = dl
    simp [e3, pk, it1 (per_rng w)]
    refine for_seq D.int (fun l env st => ∃ o7 o9, env = [some (.scr ns), some (.ref 0), some (chD c), some (.int (perC c)), some (.ref 1), some (.int d), some (hrsD (found c d)), o7, some (.ref 2), o9, none, none, none] ∧ st = [.lst (.int n3 :: rest3.map .int), .lst (tblC c 7), .lst ((l.map dl).map .int)]) (fun _ _ _ _ => noref_der rfl _ _) ⟨o7, none, rfl, rfl⟩ ?step2 ?rest2
    case step2 =>
      rintro l h r env st el ⟨o7, o9, rfl, rfl⟩ Q hQ
      have hll : l.length < 1000 := by
        have := congrArg List.length el
        rw [rngI_len] at this
        simp at this; omega
      have hlt : ((l.map dl).map D.int).length < lim := by simp [lim]; omega
      have hpp : ∀ t, decide ((h + t) % (perC c : Int) ∈ found c d) = isOut c d (h + t) := fun t => by
        rw [Bool.eq_iff_iff, decide_eq_true_eq, mod_found w]
      by_cases hf : found c d = []
      · have hd0 : dl h = 0 := by rw [← hdl]; simp [hf]
        simp
        rw [whl_srch (fun j => [some (.scr ns), some (.ref 0), some (chD c), some (.int (perC c)), some (.ref 1), some (.int d), some (hrsD (found c d)), some (.int h), some (.ref 2), some (.int j), none, none, none]) (fun t => true) ?c0 ?b0 0 0 100000 (by omega) rfl]
        case c0 =>
          intro j
          simp [hf]
        case b0 =>
          intro j
          simp
        simp at hlt
        simp [app_r2 _ _ _ _ (show (l.map fun x => D.int (dl x)).length < lim by simpa using hlt), srch, Function.comp_def]
        exact Ok.ok (hQ _ _ ⟨_, _, rfl, by simp [hd0]⟩)
      · have hd0 : dl h = srch (fun t => isOut c d (h + t)) (perC c) 0 := by rw [← hdl]; simp [hf]
        have hne : (found c d).isEmpty = false := by simpa using hf
        simp
        rw [whl_srch (fun j => [some (.scr ns), some (.ref 0), some (chD c), some (.int (perC c)), some (.ref 1), some (.int d), some (hrsD (found c d)), some (.int h), some (.ref 2), some (.int j), none, none, none]) (fun t => isOut c d (h + t)) ?c1 ?b1 (perC c) 0 100000 (by omega) ((delays_spec w hf).1 h)]
        case c1 =>
          intro j
          simp [hne, o_mod hpm, notin_hrs, hpp]
        case b1 =>
          intro j
          simp
        simp at hlt
        simp [app_r2 _ _ _ _ (show (l.map fun x => D.int (dl x)).length < lim by simpa using hlt), Function.comp_def]
        exact Ok.ok (hQ _ _ ⟨_, _, rfl, by simp [hd0]⟩)
    case rest2 =>
      rintro env st ⟨o7, o9, rfl, rfl⟩
      have mx : ∀ st, st = [.lst (.int n3 :: rest3.map .int), .lst (tblC c 7), .lst (((rngI 0 (perC c)).map dl).map .int)] → evE T (.ite (.cmp .NotEq (.var 6) (.lst [])) (.blt "max" [.var 8]) (.cst .non)) [some (.scr ns), some (.ref 0), some (chD c), some (.int (perC c)), some (.ref 1), some (.int d), some (hrsD (found c d)), o7, some (.ref 2), o9, none, none, none] st = .ok (optI (delayC c d)) st := by
        intro st hst
        by_cases hf : found c d = []
        · simp [hf, delay_none hf, optI]
        · have hne : (found c d).isEmpty = false := by simpa using hf
          have hdl' : dl = fun h => srch (fun t => isOut c d (h + t)) (perC c) 0 := by
            rw [← hdl]; funext h; simp [hf]
          obtain ⟨m, hm1, hm2⟩ := delay_spec w hf
          have hn : (rngI 0 (perC c)).map dl ≠ [] := fun z => by
            have := congrArg List.length z
            simp [rngI_len] at this; omega
          obtain ⟨m', h1, _, _⟩ := maxI_sp hn
          have h1' := h1
          rw [hdl'] at h1'
          have := ((delays_spec w hf).2 m' h1').eq hm2
          subst this
          have hb := b_maxI ((rngI 0 (perC c)).map dl)
          rw [h1] at hb
          subst hst
          simp only [e_ite, e_cmp, e_var, getV_n, getV_0, kCmp1_ok, e_lst, es_nil, kLst_ok, kCmp2_ok, rd_hrsD, rd_lst, ne_hrs0, hne, Bool.not_false, ofB_some, kIte_t, e_blt, es_cons, kEs1_ok, kEs2_ok, kBlt_ok, List.map_cons, List.map_nil, rd_r2]
          rw [hb, hm1]
          simp [optI]
      simp only [xs_1, x_if, e_cmp, e_call, es_cons, e_var, getV_n, getV_0, kEs1_ok, es_nil, kEs2_ok, kCall_ok, a3, kCmp1_ok]
      rw [mx _ rfl]
      simp [-e_ite]
      refine for_seq D.int (fun l env st => ∃ o7 o11, env = [some (.scr ns), some (.ref 0), some (chD c), some (.int (perC c)), some (.ref 1), some (.int d), some (hrsD (found c d)), o7, some (.ref 2), o9, some (.lst ((pairsC c d l).map pairD)), o11, none] ∧ st = [.lst (.int n3 :: rest3.map .int), .lst (tblC c 7), .lst (((rngI 0 (perC c)).map dl).map .int)]) (fun _ _ _ _ => noref_der rfl _ _) ⟨o7, none, rfl, by simp⟩ ?step3 ?rest3
      case step3 =>
        rintro l h r env st el ⟨o7, o11, rfl, rfl⟩ Q hQ
        have hll : l.length ≤ 512 := by
          have h1 := congrArg List.length el
          have h2 := found_len w d
          simp at h1; omega
        have hpl := pairs_len w d l
        have hpl2 := pairs_len w d [h]
        simp [pairsC] at hpl2
        have ad : binop .Add (.lst ((pairsC c d l).map pairD)) (.lst ((pairsOf (allFrom c d h)).map pairD)) = some (.lst ((pairsC c d (l ++ [h])).map pairD)) := by
          show (if _ then _ else _) = _
          rw [if_pos (by rw [List.length_map, List.length_map]; unfold lim; omega), pairsC_snoc, List.map_append]
        simp [hLA c d h _ w]
        rw [lc_pairs ?g2]
        case g2 =>
          intro r hr
          have hn := all_ne hr
          have := pick_head hn
          rw [pick_0] at this
          simp [ix_ints, pick_last hn, this, pairD, lenR]
        simp [ad]
        exact Ok.ok (hQ _ _ ⟨_, _, rfl, by simp⟩)
      case rest3 =>
        rintro env st ⟨o7, o11, rfl, rfl⟩
        simp only [xs_1, x_if, e_cmp, e_call, es_cons, e_var, getV_n, getV_0, kEs1_ok, es_nil, kEs2_ok, kCall_ok, a4, kCmp1_ok]
        rw [min_pairs (d := .lst ((pairsC c d (found c d)).map pairD)) (ps := pairsC c d (found c d)) (by simp) (by simp)]
        rw [show (minP (pairsC c d (found c d))).map (·.2) = shortC c d from rfl]
        have pk7 : ∀ x ∈ rngI 0 7, pick (tblC c 7) x = some (hrsD (found c x)) := by
          intro x hx
          rw [mem_rngI] at hx
          obtain ⟨k, rfl⟩ : ∃ k : Nat, x = (k : Int) := ⟨x.toNat, by omega⟩
          rw [pick_nat]
          unfold tblC
          rw [List.getElem?_map, List.getElem?_range (by omega)]; rfl
        obtain ⟨g1, g2, g3⟩ := great_max w
        obtain ⟨s1, s2, s3⟩ := sure_max w
        have gb := b_maxI (greatL c)
        have sb := b_maxI (sureL c)
        rw [g1] at gb
        rw [s1] at sb
        simp [a5, it1 r7]
        rw [lc_fm (F := D.int) (fun d => !(found c d).isEmpty) D.int ?g3]
        case g3 =>
          intro x hx
          cases hx' : (found c x).isEmpty <;> simp [pk7 x hx, hx']
        unfold greatL at gb
        simp [gb, a6, it1 r7, -b_max_l]
        rw [lc_fm (F := D.int) (fun d => ((found c d).length : Int) == (perC c : Int)) D.int ?g4]
        case g4 =>
          intro x hx
          cases hx' : (((found c x).length : Int) == (perC c : Int)) <;> simp [pk7 x hx, hx']
        unfold sureL at sb
        have t4 : Tn ns (0 + 1000 + 1) [.lst (tblC c 7), .lst (((rngI 0 (perC c)).map dl).map .int)] [.lst (.int n3 :: rest3.map .int), .lst (tblC c 7), .lst (((rngI 0 (perC c)).map dl).map .int)] := ⟨n3, rest3, rfl, n30, n3b, hr3⟩
        obtain ⟨_, st5, e5, h, rfl, h0, h9, t5⟩ := hDraw ns _ _ _ 999 hns t4 (by unfold big; omega) (by omega) (by omega)
        have a7 : ∀ st, callT T "passages" [chD c, .int d, .int h] st = .ok (rowsT (allFrom c d h)) st := fun st => hPass c d h st w (by omega) (by omega) (by omega) (by omega)
        simp only [List.map_map] at e5
        simp [sb, -b_max_l, e5, a7, ne_rowsT0, o_mod hpm, in_hrs, mod_found w]
        refine Ok.ok (hZ _ _ ?_)
        rw [show (((!(allFrom c d h).isEmpty) == isOut c d h) = true) by simp [isOut]]
        exact leave_law _ _
end TW
/-! TwStay: stays and ways back; two channels. -/
namespace TW
open PySem (Str Operator CmpOp)
variable {T : Tab}
@[simp] theorem optI_s (i : Int) : optI (some i) = .int i := nrfl rfl
@[simp] theorem optI_n : optI none = .non := nrfl rfl
def soonC (c : Chan) (d h : Int) : Option Int := minI ((allFrom c d h).map lastI)
def homeL (c : Chan) (d b : Int) : List Int := (rngI b (perC c)).filterMap fun o => soonC (backC c) d o
def homeC (c : Chan) (d h s : Int) : Option Int := match soonC c d h with
  | none => none
  | some a => minI (homeL c d (a + s))
theorem minI_none {xs : List Int} : minI xs = none ↔ xs = [] := by cases xs <;> simp [minI]
theorem minI_mem {xs : List Int} {m : Int} (h : minI xs = some m) : m ∈ xs ∧ ∀ x ∈ xs, m ≤ x := by
  obtain ⟨m', h1, h2, h3⟩ := minI_sp (xs := xs) fun z => by rw [z] at h; cases h
  rw [h1] at h; cases h
  exact ⟨h2, h3⟩
theorem maxI_mem {xs : List Int} {m : Int} (h : maxI xs = some m) : m ∈ xs ∧ ∀ x ∈ xs, x ≤ m := by
  obtain ⟨m', h1, h2, h3⟩ := maxI_sp (xs := xs) fun z => by rw [z] at h; cases h
  rw [h1] at h; cases h
  exact ⟨h2, h3⟩
theorem lastI_mem {r : List Int} (h : r ≠ []) : lastI r ∈ r := by
  unfold lastI
  cases hq : r.getLast? with
  | none => simp at hq; exact absurd hq h
  | some y => exact List.mem_of_getLast? hq
theorem soon_some {c : Chan} (w : WF c) {d h a : Int} (e : soonC c d h = some a) : h ≤ a ∧ a ≤ h + 24 := by
  obtain ⟨h1, _⟩ := minI_mem e
  obtain ⟨r, hr, rfl⟩ := List.mem_map.mp h1
  exact all_bounds w hr _ (lastI_mem (all_ne hr))
theorem soon_out {c : Chan} {d h : Int} : soonC c d h = none ↔ isOut c d h = false := by
  unfold soonC isOut
  rw [minI_none]
  simp
theorem fm_opt (os : List (Option Int)) : (os.filter Option.isSome).map optI = (os.filterMap id).map D.int := by
  induction os with
  | nil => rfl
  | cons o os ih => cases o <;> simp [ih, optI]
def S_home (f : Fn) : Prop := ∀ (c : Chan) (d h s : Int) (st : Store), WF c → 0 ≤ h → h ≤ 2000 → 0 ≤ s → s ≤ 100 → f [chD c, .int d, .int h, .int s] st = .ok (optI (homeC c d h s)) st
theorem r_home (h1 : S_soonF (callT T "soonest_from")) (h2 : S_ch backC (callT T "back_of")) (h3 : S_per (callT T "period_of")) : S_home (runDef T d_home_after) := by
  intro c d h s st w a0 a1 s0 s1
  have e1 : ∀ st, callT T "soonest_from" [chD c, .int d, .int h] st = .ok (optI (soonC c d h)) st := fun st => h1 c d h st w
  have e2 : ∀ o st, callT T "soonest_from" [chD (backC c), .int d, .int o] st = .ok (optI (soonC (backC c) d o)) st := fun o st => h1 _ d o st w.back
  cases hs : soonC c d h with
  | none =>
    simp [runDef, d_home_after, e1, hs, homeC]
  | some a =>
    have hb := soon_some w hs
    have pf := perC_facts w
    have hr : -1000000 ≤ a + s ∧ a + s ≤ 1000000 ∧ -1000000 ≤ a + s + (perC c : Int) ∧ a + s + (perC c : Int) ≤ 1000000 := by omega
    have hn : (a + s + (perC c : Int) - (a + s)).toNat = perC c := by omega
    simp [runDef, d_home_after, e1, hs, homeC, h2 c st w, h3 c st w, it2 hr, -e_ite]
    rw [lcL_map D.int (fun o => optI (soonC (backC c) d o)) ?g1]
    case g1 =>
      intro o _
      simp [e2]
    have ex : (rngI (a + s) (perC c)).map (fun o => optI (soonC (backC c) d o)) = ((rngI (a + s) (perC c)).map (soonC (backC c) d)).map optI := by rw [List.map_map]; rfl
    rw [hn, ex]
    simp [-e_ite, -List.map_map]
    rw [lc_fm (F := optI) Option.isSome optI ?g2]
    case g2 =>
      intro o _
      cases o <;> simp 
    rw [fm_opt]
    have ex2 : ((rngI (a + s) (perC c)).map (soonC (backC c) d)).filterMap id = homeL c d (a + s) := by
      unfold homeL
      rw [List.filterMap_map]; rfl
    rw [ex2]
    simp only [kLst_ok, kAsg_ok, kSeq_n, xs_1, x_ret, List.set_cons_succ, List.set_cons_zero]
    rw [min_or (ns := homeL c d (a + s)) (by rfl)]
    simp 
def S_backA (f : Fn) : Prop := ∀ (c : Chan) (d h s : Int) (st : Store), WF c → 0 ≤ d → d ≤ 6 → 0 ≤ h → h ≤ 999 → 0 ≤ s → s ≤ 99 → f [chD c, .int d, .int h, .int s] st = .ok (optI (homeC c d h s)) st
theorem r_backA (h1 : S_chk3 (callT T "check_three")) (h2 : S_between (callT T "is_between")) (h3 : S_home (callT T "home_after")) : S_backA (runDef T d_back_again) := by
  intro c d h s st w d0 d6 a0 a1 s0 s1
  have e2 := h2 s 0 99 st
  rw [decide_eq_true s0, decide_eq_true s1] at e2
  simp [runDef, d_back_again, h1 c d h st w d0 d6 a0 a1, e2, h3 c d h s st w (by omega) (by omega) (by omega) (by omega)]
/-- a window of a whole period meets all hours -/
theorem window {P : Nat} (hP : 1 ≤ P) (b t : Int) : ∃ o, o ∈ rngI b P ∧ ∃ k : Int, o = t + (P : Int) * k := by
  have e1 := Int.emod_nonneg (t - b) (show (P : Int) ≠ 0 by omega)
  have e2 := Int.emod_lt_of_pos (t - b) (show (0 : Int) < P by omega)
  have e3 : t - b = (t - b) % (P : Int) + (P : Int) * ((t - b) / (P : Int)) := (Int.emod_add_mul_ediv _ _).symm
  refine ⟨b + (t - b) % (P : Int), mem_rngI.mpr ⟨by omega, by omega⟩, -((t - b) / (P : Int)), ?_⟩
  rw [Int.mul_neg]
  omega
theorem per_backN {c : Chan} (w : WF c) : perC (backC c) = perC c := per_back w
theorem homeL_ne {c : Chan} (w : WF c) {d b b' : Int} (h : homeL c d b ≠ []) : homeL c d b' ≠ [] := by
  obtain ⟨x, hx⟩ := List.exists_mem_of_ne_nil _ h
  unfold homeL at hx
  obtain ⟨o, ho, e⟩ := List.mem_filterMap.mp hx
  obtain ⟨o', ho', k, rfl⟩ := window (perC_facts w).1 b' o
  have hout : isOut (backC c) d o = true := by
    cases hq : isOut (backC c) d o with
    | true => rfl
    | false => rw [soon_out.mpr hq] at e; cases e
  have hout' : isOut (backC c) d (o + (perC c : Int) * k) = true := by
    rw [out_per w.back (by rw [per_backN w]; exact Int.dvd_mul_right _ _)]; exact hout
  cases hq : soonC (backC c) d (o + (perC c : Int) * k) with
  | none => rw [soon_out.mp hq] at hout'; cases hout'
  | some y => exact List.ne_nil_of_mem (List.mem_filterMap.mpr ⟨_, ho', hq⟩)
theorem home_some {c : Chan} (w : WF c) {d h s : Int} (hn : homeC c d h 0 ≠ none) : ∃ m, homeC c d h s = some m := by
  unfold homeC at hn ⊢
  cases hs : soonC c d h with
  | none => rw [hs] at hn; exact absurd rfl hn
  | some a =>
    rw [hs] at hn
    simp only at hn ⊢
    have : homeL c d (a + s) ≠ [] := homeL_ne w fun z => hn (minI_none.mpr z)
    obtain ⟨m, h1, _⟩ := minI_sp this
    exact ⟨m, h1⟩
def stayL (c : Chan) (d h e : Int) : List Int := (rngI 0 100).filter fun s => decide ((homeC c d h s).getD 0 ≤ e)
def stayC (c : Chan) (d h e : Int) : Option Int := if homeC c d h 0 = none then none else (stayL c d h e).getLast?
def S_stay (f : Fn) : Prop := ∀ (c : Chan) (d h e : Int) (st : Store), WF c → 0 ≤ d → d ≤ 6 → 0 ≤ h → h ≤ 999 → 0 ≤ e → e ≤ 999 → f [chD c, .int d, .int h, .int e] st = .ok (optI (stayC c d h e)) st
theorem r100 : -1000000 ≤ (100 : Int) ∧ (100 : Int) ≤ 1000000 := by omega
theorem r_stay (h1 : S_chk3 (callT T "check_three")) (h2 : S_chkR 0 999 (callT T "check_hour")) (h3 : S_home (callT T "home_after")) : S_stay (runDef T d_longest_stay) := by
  intro c d h e st w d0 d6 a0 a1 b0 b1
  have e3 : ∀ s, 0 ≤ s → s ≤ 100 → ∀ st, callT T "home_after" [chD c, .int d, .int h, .int s] st = .ok (optI (homeC c d h s)) st := fun s q1 q2 st => h3 c d h s st w (by omega) (by omega) q1 q2
  cases hs : homeC c d h 0 with
  | none =>
    simp [runDef, d_longest_stay, h1 c d h st w d0 d6 a0 a1, h2 e st b0 b1, e3 0 (by omega) (by omega), hs, stayC]
  | some m0 =>
    have hne : homeC c d h 0 ≠ none := by rw [hs]; simp
    simp [runDef, d_longest_stay, h1 c d h st w d0 d6 a0 a1, h2 e st b0 b1, e3 0 (by omega) (by omega), hs, it1 r100, -e_ite]
    rw [lc_fm (F := D.int) (fun s => decide ((homeC c d h s).getD 0 ≤ e)) D.int ?g1]
    case g1 =>
      intro s hss
      rw [mem_rngI] at hss
      obtain ⟨m, hm⟩ := home_some w (s := s) hne
      by_cases hq : m ≤ e <;> simp [e3 s (by omega) (by omega), hm, hq]
    have ex : (rngI 0 100).filter (fun s => decide ((homeC c d h s).getD 0 ≤ e)) = stayL c d h e := rfl
    rw [ex]
    have fin : ∀ (env : Env) (i : Nat), getV env i st = .ok (hrsD (stayL c d h e)) st → evE T (.ite (.cmp .NotEq (.var i) (.lst [])) (.idx (.var i) (.neg (.cst (.int 1)))) (.cst .non)) env st = .ok (optI (stayC c d h e)) st := by
      intro env i hg
      cases hl : stayL c d h e with
      | nil =>
        rw [hl] at hg
        simp [hg, stayC, hs, hl]
      | cons x xs =>
        rw [hl] at hg
        simp [hg, ix_hrs, pick_neg1 (List.cons_ne_nil x xs), stayC, hs, hl]
        rw [lastI, List.getLast?_cons]
        simp 
    simp only [kLst_ok, kAsg_ok, kSeq_n, xs_1, x_ret, List.set_cons_succ, List.set_cons_zero]
    rw [fin _ 4 rfl]
    simp
/-! ### two channels -/
def S_chkBo (f : Fn) : Prop := ∀ (c c' : Chan) (st : Store), WF c → WF c' → f [chD c, chD c'] st = .ok .non st
theorem r_chkBo (h1 : S_chk (callT T "check_channel")) : S_chkBo (runDef T d_check_both) := by
  intro c c' st w w'
  simp [runDef, d_check_both, h1 c st w, h1 c' st w']
def tripD (p : Int × Int × Bool) : D := .tup [.int p.1, .int p.2.1, .bl p.2.2]
def part1 (c c' : Chan) (d : Int) (hs : List Int) : List (Int × Int × Bool) := (hs.filter fun h => isOut c d h != isOut c' d h).map fun h => (d, h, isOut c d h)
def comC (c c' : Chan) : Nat := Nat.lcm (perC c) (perC c')
def partL (c c' : Chan) (ds : List Int) : List (Int × Int × Bool) := ds.flatMap fun d => part1 c c' d (rngI 0 (comC c c'))
def partC (c c' : Chan) : List (Int × Int × Bool) := partL c c' (rngI 0 7)
def tripsD (ps : List (Int × Int × Bool)) : D := .lst (ps.map tripD)
theorem under_trips (k : Nat) (ps : List (Int × Int × Bool)) : D.underL k (ps.map tripD) = true := under_map k tripD (fun a => by simp [tripD, D.under, D.underL]) ps
@[simp] theorem der_tripsD (st : Store) (ps : List (Int × Int × Bool)) : der st (tripsD ps) = tripsD ps := nrfl rfl
@[simp] theorem rd_tripsD (st : Store) (ps : List (Int × Int × Bool)) : rd st (tripsD ps) = tripsD ps := nrfl rfl
@[simp] theorem it_tripsD (ps : List (Int × Int × Bool)) : iter .seq [tripsD ps] = some (ps.map tripD) := nrfl rfl
theorem good_trip (n : Nat) (p : Int × Int × Bool) : D.good (n + 1) (tripD p) = true := by
  show [D.int p.1, .int p.2.1, .bl p.2.2].all (D.good n) = true
  cases n <;> rfl
theorem good_trips (n : Nat) (ps : List (Int × Int × Bool)) : (ps.map tripD).all (D.good (n + 1)) = true := good_map _ tripD (good_trip n) ps
@[simp] theorem eq_trips0 (ps : List (Int × Int × Bool)) : cmpop .Eq (tripsD ps) (.lst []) = some ps.isEmpty := by
  unfold tripsD
  rw [eq_nil _ (good_trips 6 ps), List.isEmpty_map]
@[simp] theorem ne_trips0 (ps : List (Int × Int × Bool)) : cmpop .NotEq (tripsD ps) (.lst []) = some (!ps.isEmpty) := by
  unfold tripsD
  rw [ne_nil _ (good_trips 6 ps), List.isEmpty_map]
theorem com_facts {c c' : Chan} (w : WF c) (w' : WF c') : 1 ≤ comC c c' ∧ comC c c' ≤ 262144 ∧ perC c ∣ comC c c' ∧ perC c' ∣ comC c c' ∧ ((perC c : Int) * (perC c' : Int) / ((Nat.gcd (perC c) (perC c') : Nat) : Int) = (comC c c' : Int)) := by
  have p1 := perC_facts w
  have p2 := perC_facts w'
  have hpos : 0 < comC c c' := Nat.lcm_pos (by omega) (by omega)
  refine ⟨hpos, ?_, Nat.dvd_lcm_left _ _, Nat.dvd_lcm_right _ _, ?_⟩
  · have h1 : comC c c' ∣ perC c * perC c' := Nat.lcm_dvd (Nat.dvd_mul_right _ _) (Nat.dvd_mul_left _ _)
    have h2 : comC c c' ≤ perC c * perC c' := Nat.le_of_dvd (Nat.mul_pos (by omega) (by omega)) h1
    have h3 : perC c * perC c' ≤ 512 * 512 := Nat.mul_le_mul (by omega) (by omega)
    omega
  · unfold comC Nat.lcm
    rw [Int.natCast_ediv, Int.natCast_mul]
def S_part (f : Fn) : Prop := ∀ (c c' : Chan) (st : Store), WF c → WF c' → f [chD c, chD c'] st = .ok (tripsD (partC c c')) st
theorem part1_len (c c' : Chan) (d : Int) (hs : List Int) : (part1 c c' d hs).length ≤ hs.length := by
  unfold part1
  rw [List.length_map]
  exact List.length_filter_le _ _
theorem partL_len (c c' : Chan) : ∀ ds : List Int, (partL c c' ds).length ≤ comC c c' * ds.length
  | [] => by simp [partL]
  | d :: ds => by
    have ih := partL_len c c' ds
    have := part1_len c c' d (rngI 0 (comC c c'))
    rw [rngI_len] at this
    unfold partL at ih ⊢
    rw [List.flatMap_cons, List.length_append, List.length_cons, Nat.mul_add]
    omega
theorem r_part (h1 : S_per (callT T "period_of")) (h2 : S_div (callT T "divisor")) (h3 : S_out (callT T "is_out")) : S_part (runDef T d_found_partings) := by
  intro c c' st w w'
  have p1 := perC_facts w
  have p2 := perC_facts w'
  obtain ⟨c1, c2, _, _, c3⟩ := com_facts w w'
  have hm : -(2 ^ 64) < (perC c' : Int) ∧ (perC c' : Int) < 2 ^ 64 := by omega
  have hg : 0 < Nat.gcd (perC c) (perC c') := Nat.gcd_pos_of_pos_right _ (by omega)
  have hg2 : Nat.gcd (perC c) (perC c') ≤ perC c' := Nat.gcd_le_right _ (by omega)
  have hq : 0 < ((Nat.gcd (perC c) (perC c') : Nat) : Int) ∧ ((Nat.gcd (perC c) (perC c') : Nat) : Int) < 1073741824 := by omega
  have hd : ∀ st, callT T "divisor" [.int (perC c), .int (perC c')] st = .ok (.int (Nat.gcd (perC c) (perC c'))) st := fun st => h2 _ _ st (by omega)
  have hr : -1000000 ≤ (comC c c' : Int) ∧ (comC c c' : Int) ≤ 1000000 := by omega
  simp [runDef, d_found_partings, h1 c st w, h1 c' st w', it1 r7]
  refine lv_ok fun Z hZ => ?_
  refine for_seq D.int (fun l env st' => ∃ o5 o6 o7, env = [some (chD c), some (chD c'), some (.int (perC c)), some (.int (perC c')), some (.ref st.length), o5, o6, o7] ∧ st' = st ++ [.lst ((partL c c' l).map tripD)]) (fun _ _ _ _ => noref_der rfl _ _) ⟨none, none, none, rfl, rfl⟩ ?step ?rest
  case rest =>
    rintro env' st' ⟨o5, o6, o7, rfl, rfl⟩
    simp
    refine Ok.ok (hZ _ _ ?_)
    rw [leave_app, frz_ref (under_trips _ _)]
    rfl
  case step =>
    rintro l d r env _ el ⟨o5, o6, o7, rfl, rfl⟩ Q hQ
    have hll : l.length < 7 := by
      have := congrArg List.length el
      rw [rngI_len] at this; simp at this; omega
    have hpl := partL_len c c' l
    have hml : comC c c' * l.length ≤ comC c c' * 7 := Nat.mul_le_mul_left _ (by omega)
    simp [o_mul hm, hd, o_div hq, c3, it1 hr]
    refine for_seq D.int (fun l2 env st' => ∃ o6 o7, env = [some (chD c), some (chD c'), some (.int (perC c)), some (.int (perC c')), some (.ref st.length), some (.int d), o6, o7] ∧ st' = st ++ [.lst ((partL c c' l ++ part1 c c' d l2).map tripD)]) (fun _ _ _ _ => noref_der rfl _ _) ⟨o6, o7, rfl, by simp [part1]⟩ ?step2 ?rest2
    case rest2 =>
      rintro env' st' ⟨o6, o7, rfl, rfl⟩
      simp
      refine Ok.ok (hQ _ _ ⟨_, _, _, rfl, ?_⟩)
      simp [partL]
    case step2 =>
      rintro l2 h r2 env _ el2 ⟨o6, o7, rfl, rfl⟩ Q2 hQ2
      have hl2 : l2.length < comC c c' := by
        have := congrArg List.length el2
        rw [rngI_len] at this; simp at this; omega
      have hp1 := part1_len c c' d l2
      have hlim : ((partL c c' l ++ part1 c c' d l2).map tripD).length < lim := by
        rw [List.length_map, List.length_append]; unfold lim; omega
      by_cases hx : isOut c d h = isOut c' d h
      · have ex : part1 c c' d (l2 ++ [h]) = part1 c c' d l2 := by simp [part1, hx]
        simp [h3 c d h _ w, h3 c' d h _ w', hx]
        refine Ok.ok (hQ2 _ _ ⟨_, _, rfl, ?_⟩)
        rw [ex]; simp
      · have ex : part1 c c' d (l2 ++ [h]) = part1 c c' d l2 ++ [(d, h, isOut c d h)] := by simp [part1, hx]
        have hx' : (isOut c d h == isOut c' d h) = false := by simpa using hx
        simp only [List.map_append] at hlim
        simp [h3 c d h _ w, h3 c' d h _ w', hx', app_top hlim]
        refine Ok.ok (hQ2 _ _ ⟨_, _, rfl, ?_⟩)
        rw [ex]; simp [tripD]
def S_alike (f : Fn) : Prop := ∀ (c c' : Chan) (st : Store), WF c → WF c' → f [chD c, chD c'] st = .ok (.bl (partC c c').isEmpty) st
def firstC (c c' : Chan) : Option (Int × Int) := (partC c c').head?.map fun p => (p.1, p.2.1)
def opt2 : Option (Int × Int) → D
  | none => .non
  | some p => .tup [.int p.1, .int p.2]
def S_first (f : Fn) : Prop := ∀ (c c' : Chan) (st : Store), WF c → WF c' → f [chD c, chD c'] st = .ok (opt2 (firstC c c')) st
def S_worse (f : Fn) : Prop := ∀ (c c' : Chan) (st : Store), WF c → WF c' → f [chD c, chD c'] st = .ok (.bl ((partC c c').all fun p => p.2.2)) st
theorem r_alike (h1 : S_chkBo (callT T "check_both")) (h2 : S_part (callT T "found_partings")) : S_alike (runDef T d_are_alike) := by
  intro c c' st w w'
  simp [runDef, d_are_alike, h1 c c' st w w', h2 c c' st w w']
theorem r_first (h1 : S_chkBo (callT T "check_both")) (h2 : S_part (callT T "found_partings")) : S_first (runDef T d_first_parting) := by
  intro c c' st w w'
  cases hp : partC c c' with
  | nil =>
    have h2' := h2 c c' st w w'
    rw [hp] at h2'
    simp [runDef, d_first_parting, h1 c c' st w w', h2', firstC, hp, opt2]
  | cons p ps =>
    have h2' := h2 c c' st w w'
    rw [hp] at h2'
    have e1 : idxop (tripsD (p :: ps)) (.int 0) = some (tripD p) := rfl
    have e2 : slcop (tripD p) none (some 2) = some (.tup [.int p.1, .int p.2.1]) := rfl
    have e3 : der st (tripD p) = tripD p := rfl
    simp [runDef, d_first_parting, h1 c c' st w w', h2', firstC, hp, opt2, e1, e2, e3]
    rw [frz_tup _ _ _ (by simp [D.underL, D.under])]
    simp
theorem r_worse (h1 : S_chkBo (callT T "check_both")) (h2 : S_part (callT T "found_partings")) : S_worse (runDef T d_is_never_worse) := by
  intro c c' st w w'
  simp [runDef, d_is_never_worse, h1 c c' st w w', h2 c c' st w w']
  rw [lcL_map tripD (fun p => D.bl p.2.2) ?g1]
  case g1 =>
    intro p _
    have e3 : rd st (tripD p) = tripD p := rfl
    have e1 : idxop (tripD p) (.int 2) = some (.bl p.2.2) := rfl
    simp [e3, e1]
  simp [toBls_map, Function.comp_def]
end TW
/-! TwDig: diggings, pairs of ships, what was seen. -/
namespace TW
open PySem (Str Operator CmpOp)
variable {T : Tab}
/-! ### a for that returns at the first that fits -/
theorem forL_find {α : Type} (F : α → D) (E : List α → Env) (p : α → Bool) (g : α → D) {st : Store} {ds : List D} {f : D → Env → Store → R Out} : ∀ {as pre : List α}, (∀ (l : List α) (a : α) (r : List α), pre ++ as = l ++ a :: r → f (F a) (E l) st = if p a = true then .ok (.ret (g a)) st else .ok (.next (E (l ++ [a]))) st) →
    forL st ds f (as.map F) (E pre) st = match as.find? p with | some a => .ok (.ret (g a)) st | none => .ok (.next (E (pre ++ as))) st
  | [], pre, _ => by rw [List.append_nil]; rfl
  | a :: as, pre, h => by
    rw [List.map_cons, forL, h pre a as rfl]
    cases hp : p a with
    | true =>
      rw [if_pos rfl, List.find?_cons, hp]
      rfl
    | false =>
      rw [if_neg (by simp), R.bind_ok, List.find?_cons, hp]
      show chk st ds st _ = _
      rw [chk_same, forL_find F E p g (as := as) (pre := pre ++ [a]) fun l b r e => h l b r (by rw [← e]; simp)]
      simp
theorem forL_fnd {α : Type} (F : α → D) (E : List α → Env) (p : α → Bool) (g : α → D) {st : Store} {ds : List D} {f : D → Env → Store → R Out} {as : List α} {env : Env} (hE : E [] = env) (h : ∀ (l : List α) (a : α) (r : List α), as = l ++ a :: r → f (F a) (E l) st = if p a = true then .ok (.ret (g a)) st else .ok (.next (E (l ++ [a]))) st) :
    forL st ds f (as.map F) env st = match as.find? p with | some a => .ok (.ret (g a)) st | none => .ok (.next (E as)) st := by
  subst hE
  exact forL_find F E p g (pre := []) fun l a r e => h l a r (by simpa using e)
/-! ### deeper -/
def digB (m : Int) (b : List Int) : List Int := b.map fun x => if x + m < 6 then x + m else 6
def deeperC (c : Chan) (dg : List Int) : Chan := ⟨(c.bars.zip dg).map fun p => digB p.2 p.1, c.legs, c.waits⟩
theorem zipD_eq : ∀ (bs : List (List Int)) (ms : List Int), zipD (bs.map intsD) (ms.map .int) = (bs.zip ms).map fun p => .tup [intsD p.1, .int p.2]
  | [], _ => by simp [zipD]
  | _ :: _, [] => by simp [zipD]
  | b :: bs, m :: ms => by simp [zipD, zipD_eq bs ms]
theorem WF.dig {c : Chan} (w : WF c) {dg : List Int} (hl : dg.length = c.bars.length) (hd : ∀ x ∈ dg, 0 ≤ x ∧ x ≤ 6) : WF (deeperC c dg) := by
  refine ⟨by simp [deeperC, hl, w.n1], by simp [deeperC, hl, w.n3], fun b hb => ?_, by simp [deeperC, w.nl, hl], w.leg, by simp [deeperC, w.nw, hl], w.wait⟩
  simp only [deeperC, List.mem_map] at hb
  obtain ⟨⟨b0, m⟩, hp, rfl⟩ := hb
  obtain ⟨h1, h2⟩ := List.of_mem_zip hp
  obtain ⟨b1, b2, b3⟩ := w.bar b0 h1
  have hm := hd m h2
  refine ⟨by simp [digB]; omega, by simp [digB]; omega, fun x hx => ?_⟩
  simp only [digB, List.mem_map] at hx
  obtain ⟨y, hy, rfl⟩ := hx
  have := b3 y hy
  split <;> omega
def S_deeper (f : Fn) : Prop := ∀ (c : Chan) (dg : List Int) (st : Store), WF c → f [chD c, intsD dg] st = .ok (chD (deeperC c dg)) st
theorem it_zbars (bs : List (List Int)) (ms : List Int) : iter .zip2 [.tup (bs.map intsD), intsD ms] = some ((bs.zip ms).map fun p => .tup [intsD p.1, .int p.2]) := by
  rw [← zipD_eq]; rfl
theorem r_deeper : S_deeper (runDef T d_deeper) := by
  intro c dg st w
  simp [runDef, d_deeper, it_zbars]
  rw [lcL_map (fun p : List Int × Int => D.tup [intsD p.1, .int p.2]) (fun p => intsD (digB p.2 p.1)) ?g1]
  case g1 =>
    intro p _
    simp
    rw [lcL_map D.int (fun x => D.int (if x + p.2 < 6 then x + p.2 else 6)) ?g2]
    case g2 =>
      intro x _
      simp
    simp [intsD, digB, Function.comp_def]
  simp
  have := frz_chD st.length st (deeperC c dg)
  simp only [chD, deeperC, List.map_map, Function.comp_def] at this ⊢
  rw [this]
  rfl
theorem r_lawDug : S_deeper (runDef T d_law_dug) := by
  intro c dg st w
  simp [runDef, d_law_dug, it_zbars]
  refine lv_ok fun Z hZ => ?_
  refine for_seq (fun p : List Int × Int => D.tup [intsD p.1, .int p.2]) (fun l env st' => ∃ o3 o4 o5, env = [some (chD c), some (intsD dg), some (.ref st.length), o3, o4, o5] ∧ st' = st ++ [.lst (l.map fun p => intsD (digB p.2 p.1))]) (fun _ _ _ _ => noref_der rfl _ _) ⟨none, none, none, rfl, rfl⟩ ?step ?rest
  case rest =>
    rintro env' st' ⟨o3, o4, o5, rfl, rfl⟩
    simp
    refine Ok.ok (hZ _ _ ?_)
    rw [leave_app]
    have := frz_chD st.length (st ++ [.lst ((c.bars.zip dg).map fun p => intsD (digB p.2 p.1))]) (deeperC c dg)
    simp only [chD, deeperC, List.map_map, Function.comp_def] at this ⊢
    rw [this]
    rfl
  case step =>
    rintro l p r env _ el ⟨o3, o4, o5, rfl, rfl⟩ Q hQ
    have hll : (l.map fun p => intsD (digB p.2 p.1)).length < lim := by
      have h1 := congrArg List.length el
      have := w.n3
      rw [List.length_map]
      simp at h1
      unfold lim
      omega
    simp
    rw [lcL_map D.int (fun x => D.int (if x + p.2 < 6 then x + p.2 else 6)) ?g1]
    case g1 =>
      intro x _
      simp
    simp [app_top hll]
    refine Ok.ok (hQ _ _ ⟨_, _, _, rfl, ?_⟩)
    simp [intsD, digB, Function.comp_def]
def S_dug (f : Fn) : Prop := ∀ (c : Chan) (dg : List Int) (st : Store), WF c → dg.length = c.bars.length → (∀ x ∈ dg, 0 ≤ x ∧ x ≤ 6) → f [chD c, intsD dg] st = .ok (chD (deeperC c dg)) st
theorem r_dug (h1 : S_chk (callT T "check_channel")) (h2 : S_are (callT T "are_between")) (h3 : S_deeper (callT T "deeper")) : S_dug (runDef T d_dug) := by
  intro c dg st w hl hd
  have e := h2 dg c.bars.length 0 6 st
  rw [decide_eq_true (show (dg.length : Int) = (c.bars.length : Int) by omega), show (dg.all fun v => decide (0 ≤ v) && decide (v ≤ 6)) = true by simpa using hd] at e
  simp [runDef, d_dug, h1 c st w, e, h3 c dg st w]
/-! ### enough -/
def aimD (o : Bool) : D := .str (nameOf (if o then "once" else "always"))
@[simp] theorem eq_aim (o : Bool) : cmpop .Eq (aimD o) (.str (nameOf "once")) = some o := by cases o <;> decide +kernel
@[simp] theorem der_aim (st : Store) (o : Bool) : der st (aimD o) = aimD o := by cases o <;> rfl
@[simp] theorem rd_aim (st : Store) (o : Bool) : rd st (aimD o) = aimD o := by cases o <;> rfl
def enoughC (c : Chan) (d : Int) (o : Bool) : Bool := if o then (rngI 0 (perC c)).any (isOut c d) else (rngI 0 (perC c)).all (isOut c d)
def S_enough (f : Fn) : Prop := ∀ (c : Chan) (d : Int) (o : Bool) (st : Store), WF c → f [chD c, .int d, aimD o] st = .ok (.bl (enoughC c d o)) st
theorem r_enough (h1 : S_per (callT T "period_of")) (h2 : S_out (callT T "is_out")) : S_enough (runDef T d_is_enough) := by
  intro c d o st w
  simp [runDef, d_is_enough, h1 c st w, it1 (per_rng w)]
  rw [lcL_map D.int (fun h => D.bl (isOut c d h)) ?g1]
  case g1 =>
    intro h _
    simp [h2 c d h st w]
  cases o <;> simp [toBls_map, enoughC, Function.comp_def]
theorem found_any {c : Chan} {d : Int} : (rngI 0 (perC c)).any (isOut c d) = !(found c d).isEmpty := by
  unfold found
  rw [Bool.eq_iff_iff]
  simp
theorem found_all {c : Chan} {d : Int} : (rngI 0 (perC c)).all (isOut c d) = (((found c d).length : Int) == (perC c : Int)) := by
  unfold found
  rw [Bool.eq_iff_iff]
  have := rngI_len 0 (perC c)
  simp only [List.all_eq_true, beq_iff_eq]
  constructor
  · intro h
    rw [List.filter_eq_self.mpr h, this]
  · intro h
    have h' : ((rngI 0 (perC c)).filter (isOut c d)).length = (rngI 0 (perC c)).length := by omega
    exact List.filter_eq_self.mp (List.length_filter_eq_length_iff.mp h' |> fun q => List.filter_eq_self.mpr q)
theorem r_serves (h1 : S_fhrs (callT T "_law_out")) (h2 : S_per (callT T "_law_period")) : S_enough (runDef T d_law_serves) := by
  intro c d o st w
  cases o <;> simp [runDef, d_law_serves, h1 c d st w, h2 c st w, enoughC, found_any, found_all]
/-! ### the least digging -/
def digsN : Nat → List (List Int)
  | 0 => [[]]
  | n + 1 => (digsN n).flatMap fun r => (rngI 0 7).map fun m => r ++ [m]
theorem digsN_mem : ∀ (n : Nat) (r : List Int), r ∈ digsN n ↔ r.length = n ∧ ∀ x ∈ r, 0 ≤ x ∧ x ≤ 6
  | 0, r => by
    unfold digsN
    constructor
    · intro h; simp at h; subst h; simp
    · rintro ⟨h, _⟩; simp at h; simp [h]
  | n + 1, r => by
    unfold digsN
    rw [List.mem_flatMap]
    constructor
    · rintro ⟨q, hq, hr⟩
      obtain ⟨m, hm, rfl⟩ := List.mem_map.mp hr
      rw [mem_rngI] at hm
      obtain ⟨h1, h2⟩ := (digsN_mem n q).mp hq
      refine ⟨by simp [h1], fun x hx => ?_⟩
      rcases List.mem_append.mp hx with z | z
      · exact h2 x z
      · simp at z; omega
    · rintro ⟨h1, h2⟩
      obtain ⟨q, m, rfl, hl⟩ := split_last h1
      have hm := h2 m (by simp)
      exact ⟨q, (digsN_mem n q).mpr ⟨hl, fun x hx => h2 x (by simp [hx])⟩, List.mem_map.mpr ⟨m, mem_rngI.mpr ⟨by omega, by omega⟩, rfl⟩⟩
theorem digsN_len : ∀ n : Nat, (digsN n).length = 7 ^ n
  | 0 => rfl
  | n + 1 => by
    unfold digsN
    have : ∀ l : List (List Int), (l.flatMap fun r => (rngI 0 7).map fun m => r ++ [m]).length = l.length * 7 := by
      intro l
      induction l with
      | nil => rfl
      | cons a l ih => rw [List.flatMap_cons, List.length_append, ih, List.length_map, rngI_len, List.length_cons]; omega
    rw [this, digsN_len n, Nat.pow_succ]
def sumP (r : List Int) : Int × List Int := (r.sum, r)
def leP (a b : Int × List Int) : Bool := !ltP b a
def digsS (n : Nat) : List (Int × List Int) := ((digsN n).map sumP).mergeSort leP
def leastP (c : Chan) (d : Int) (o : Bool) : Option (Int × List Int) := (digsS c.bars.length).find? fun p => enoughC (deeperC c p.2) d o
def leastC (c : Chan) (d : Int) (o : Bool) : Option (List Int) := (leastP c d o).map (·.2)
def S_least (f : Fn) : Prop := ∀ (c : Chan) (d : Int) (o : Bool) (st : Store), WF c → 0 ≤ d → d ≤ 6 → f [chD c, .int d, aimD o] st = .ok (optR (leastC c d o)) st
theorem sorted_pairs (ps : List (Int × List Int)) : bltin "sorted" [.lst (ps.map pairD)] = some (.lst ((ps.mergeSort leP).map pairD)) := by
  have h2 : sortOk (ps.map pairD) = true := by
    unfold sortOk
    rw [Bool.or_eq_true]
    left
    simp only [List.all_map, List.all_eq_true]
    intro r hr
    rfl
  show (if likeAll (ps.map pairD) && sortOk (ps.map pairD) then some (D.lst (sortD (ps.map pairD))) else none) = _
  rw [like_pairs, h2]
  unfold sortD
  rw [← List.map_mergeSort (r := leP) (s := leD) (f := pairD) (l := ps) (fun a _ b _ => by unfold leP leD; rw [lt_pairD])]
  rfl
theorem isi_aim (o : Bool) : isTy (aimD o) "str" = some true := by cases o <;> rfl
theorem notin_aim (o : Bool) : cmpop .NotIn (aimD o) (.tup [.str (nameOf "once"), .str (nameOf "always")]) = some false := by cases o <;> decide +kernel
theorem r_least (h1 : S_chk (callT T "check_channel")) (h2 : S_chkR 0 6 (callT T "check_draught")) (h3 : S_deeper (callT T "deeper")) (h4 : S_enough (callT T "is_enough")) : S_least (runDef T d_least_digging) := by
  intro c d o st w d0 d6
  have n3 := w.n3
  simp [runDef, d_least_digging, h1 c st w, h2 d st d0 d6, isi_aim, notin_aim]
  rw [forL_run intsD (fun l => [some (chD c), some (.int d), some (aimD o), some (rowsD (digsN l.length)), l.getLast?.map intsD, none, none, none]) ?hE ?h]
  case hE => rfl
  case h =>
    intro l b r e
    have hll : l.length < 3 := by
      have := congrArg List.length e
      simp at this; omega
    simp
    rw [lc2_rows (g := fun r => (rngI 0 7).map fun m => r ++ [m]) ?g1]
    case g1 =>
      intro r hr
      have hr' := (digsN_mem _ r).mp hr
      simp [it1 r7]
      rw [lcL_map D.int (fun m => intsD (r ++ [m])) ?g2]
      case g2 =>
        intro m _
        simp [add_ints (show r.length ≤ 100 by omega)]
      simp [Function.comp_def]
    have ex : (digsN l.length).flatMap (fun r => (rngI 0 7).map fun m => r ++ [m]) = digsN (l.length + 1) := rfl
    rw [ex]
    have hlim : ((digsN (l.length + 1)).map intsD).length ≤ lim := by
      rw [List.length_map, digsN_len]
      have : 7 ^ (l.length + 1) ≤ 7 ^ 3 := Nat.pow_le_pow_right (by omega) (by omega)
      unfold lim
      omega
    unfold limited
    rw [R.bind_ok, if_pos hlim]
    simp [rowsD]
  simp
  rw [lcL_map intsD (fun r => pairD (sumP r)) ?g3]
  case g3 =>
    intro r _
    simp [b_sumT, pairD, sumP]
  have ex : (digsN c.bars.length).map (fun r => pairD (sumP r)) = ((digsN c.bars.length).map sumP).map pairD := by rw [List.map_map]; rfl
  rw [ex]
  simp only [kLst_ok, kEs1_ok, es_nil, kEs2_ok, kBlt_ok, List.map_cons, List.map_nil, rd_lst]
  rw [sorted_pairs]
  simp only [ofO_some, kEs1_ok, es_nil, kEs2_ok, kFor1_ok, List.map_cons, List.map_nil, rd_lst, it_l, kFor2_ok]
  rw [forL_fnd pairD (fun l => [some (chD c), some (.int d), some (aimD o), some (rowsD (digsN c.bars.length)), c.bars.getLast?.map intsD, l.getLast?.map fun p => intsD p.2, none, l.getLast?.map fun p => .int p.1]) (fun p => enoughC (deeperC c p.2) d o) (fun p => intsD p.2) ?hE2 ?g4]
  case hE2 => rfl
  case g4 =>
    intro l p r e
    have hp : p ∈ digsS c.bars.length := by
      show p ∈ ((digsN c.bars.length).map sumP).mergeSort leP
      rw [e]; simp
    unfold digsS at hp
    rw [List.mem_mergeSort] at hp
    obtain ⟨q, hq, rfl⟩ := List.mem_map.mp hp
    obtain ⟨q1, q2⟩ := (digsN_mem _ q).mp hq
    have a1 : ∀ st, callT T "deeper" [chD c, intsD q] st = .ok (chD (deeperC c q)) st := fun st => h3 c q st w
    have a2 : ∀ st, callT T "is_enough" [chD (deeperC c q), .int d, aimD o] st = .ok (.bl (enoughC (deeperC c q) d o)) st := fun st => h4 _ d o st (w.dig q1 q2)
    cases hx : enoughC (deeperC c q) d o <;> simp [pairD, sumP, a1, a2, hx]
  have ex3 : (((digsN c.bars.length).map sumP).mergeSort leP).find? (fun p => enoughC (deeperC c p.2) d o) = leastP c d o := rfl
  rw [ex3]
  unfold leastC
  cases leastP c d o with
  | none => simp [optR]
  | some p => simp [optR]
/-! ### pairs -/
def untilL (c : Chan) (d : Int) (hs : List Int) : List (List Int) := hs.flatMap (allFrom c d)
def untilC (c : Chan) (d e : Int) : List (List Int) := untilL c d (rngI 0 (e + 1).toNat)
theorem until_len {c : Chan} (w : WF c) (d : Int) : ∀ hs : List Int, (untilL c d hs).length ≤ 16 * hs.length
  | [] => by simp [untilL]
  | h :: hs => by
    have ih := until_len w d hs
    have n1 := w.n1
    have n3 := w.n3
    have := rows_cnt w d h (c.bars.length - 1) (by omega)
    have h4 : 4 ^ (c.bars.length - 1) ≤ 16 := Nat.le_trans (Nat.pow_le_pow_right (by omega) (show c.bars.length - 1 ≤ 2 by omega)) (by decide)
    unfold untilL at ih ⊢
    rw [List.flatMap_cons, List.length_append, List.length_cons]
    unfold allFrom at ih ⊢
    omega
def S_until (f : Fn) : Prop := ∀ (c : Chan) (d e : Int) (st : Store), WF c → 0 ≤ e → e ≤ 1000 → f [chD c, .int d, .int e] st = .ok (rowsD (untilC c d e)) st
theorem r_until (h1 : S_all (callT T "all_from")) : S_until (runDef T d_all_until) := by
  intro c d e st w e0 e1
  have hr : -1000000 ≤ e + 1 ∧ e + 1 ≤ 1000000 := by omega
  simp [runDef, d_all_until, it1 hr]
  refine lv_ok fun Z hZ => ?_
  refine for_seq D.int (fun l env st' => ∃ o4, env = [some (chD c), some (.int d), some (.int e), some (.ref st.length), o4] ∧ st' = st ++ [.lst ((untilL c d l).map intsD)]) (fun _ _ _ _ => noref_der rfl _ _) ⟨none, rfl, rfl⟩ ?step ?rest
  case rest =>
    rintro env' st' ⟨o4, rfl, rfl⟩
    simp
    refine Ok.ok (hZ _ _ ?_)
    rw [leave_app, frz_ref (under_rows _ _)]
    rfl
  case step =>
    rintro l h r env _ el ⟨o4, rfl, rfl⟩ Q hQ
    have hll : l.length < 1002 := by
      have := congrArg List.length el
      rw [rngI_len] at this; simp at this; omega
    have h2 := until_len w d l
    have h3 := until_len w d [h]
    simp [untilL] at h3
    simp [h1 c d h _ w]
    rw [show rowsD (allFrom c d h) = .lst ((allFrom c d h).map intsD) from rfl, ext_top (by rw [List.length_map, List.length_map]; unfold lim; omega)]
    simp
    refine Ok.ok (hQ _ _ ⟨_, rfl, ?_⟩)
    simp [untilL]
def diffs (a b : List Int) : List Int := (a.zip b).map fun p => if p.1 - p.2 < 0 then -(p.1 - p.2) else p.1 - p.2
def gapOk (g : Int) (a b : List Int) : Bool := decide (g ≤ (minI (diffs a b)).getD 0)
def pairIn (g : Int) (others : List (List Int)) (one : List Int) : Option (List Int × List Int) := (others.find? (gapOk g one)).map fun o => (one, o)
def pairC (c : Chan) (d d' g e : Int) : Option (List Int × List Int) := (untilC c d e).findSome? (pairIn g (untilC c d' e))
def optP : Option (List Int × List Int) → D
  | none => .non
  | some p => .tup [intsD p.1, intsD p.2]
theorem zipI_eq : ∀ (a b : List Int), zipD (a.map .int) (b.map .int) = (a.zip b).map fun p => .tup [.int p.1, .int p.2]
  | [], _ => by simp [zipD]
  | _ :: _, [] => by simp [zipD]
  | x :: a, y :: b => by simp [zipD, zipI_eq a b]
theorem it_zints (a b : List Int) : iter .zip2 [intsD a, intsD b] = some ((a.zip b).map fun p => .tup [.int p.1, .int p.2]) := by
  rw [← zipI_eq]; rfl
/-- a for over rows that may return -/
theorem forL_findSome {α β : Type} (F : α → D) (I : Env → Prop) (q : α → Option β) (g : β → D) {st : Store} {ds : List D} {f : D → Env → Store → R Out} : ∀ {as : List α} {env : Env}, I env → (∀ a ∈ as, ∀ env, I env → (∃ b, q a = some b ∧ f (F a) env st = .ok (.ret (g b)) st) ∨ (q a = none ∧ ∃ env', I env' ∧ f (F a) env st = .ok (.next env') st)) →
    (∃ b, as.findSome? q = some b ∧ forL st ds f (as.map F) env st = .ok (.ret (g b)) st) ∨ (as.findSome? q = none ∧ ∃ env', I env' ∧ forL st ds f (as.map F) env st = .ok (.next env') st)
  | [], env, hI, _ => .inr ⟨rfl, env, hI, rfl⟩
  | a :: as, env, hI, h => by
    rw [List.map_cons, forL]
    rcases h a List.mem_cons_self env hI with ⟨b, h1, h2⟩ | ⟨h1, env', hI', h2⟩
    · left
      rw [h2, List.findSome?_cons, h1]
      exact ⟨b, rfl, rfl⟩
    · rw [h2, List.findSome?_cons, h1, R.bind_ok]
      show (∃ b, _ ∧ chk st ds st _ = _) ∨ _ ∧ ∃ e, _ ∧ chk st ds st _ = _
      rw [chk_same]
      exact forL_findSome F I q g hI' fun x hx => h x (List.mem_cons_of_mem _ hx)
def S_pair (f : Fn) : Prop := ∀ (c : Chan) (d d' g e : Int) (st : Store), WF c → 0 ≤ d → d ≤ 6 → 0 ≤ d' → d' ≤ 6 → 0 ≤ g → g ≤ 9 → 0 ≤ e → e ≤ 24 → f [chD c, .int d, .int d', .int g, .int e] st = .ok (optP (pairC c d d' g e)) st
theorem mem_until {c : Chan} {d e : Int} {r : List Int} : r ∈ untilC c d e ↔ ∃ h, 0 ≤ h ∧ h ≤ e ∧ r ∈ allFrom c d h := by
  unfold untilC untilL
  rw [List.mem_flatMap]
  constructor
  · rintro ⟨h, hh, hr⟩
    rw [mem_rngI] at hh
    exact ⟨h, by omega, by omega, hr⟩
  · rintro ⟨h, h0, h1, hr⟩
    exact ⟨h, mem_rngI.mpr ⟨by omega, by omega⟩, hr⟩
theorem diffs_ne {a b : List Int} (ha : a ≠ []) (hb : b ≠ []) : diffs a b ≠ [] := by
  cases a with
  | nil => exact absurd rfl ha
  | cons x a => cases b with
    | nil => exact absurd rfl hb
    | cons y b => simp [diffs]
theorem r_pair (h1 : S_chk (callT T "check_channel")) (h2 : S_chkR 0 6 (callT T "check_draught")) (h3 : S_between (callT T "is_between")) (h4 : S_until (callT T "all_until")) : S_pair (runDef T d_pair_of_passages) := by
  intro c d d' g e st w d0 d6 d0' d6' g0 g9 e0 e24
  have k1 := h3 g 0 9 st
  rw [decide_eq_true g0, decide_eq_true g9] at k1
  have k2 := h3 e 0 24 st
  rw [decide_eq_true e0, decide_eq_true e24] at k2
  have u1 : ∀ st, callT T "all_until" [chD c, .int d, .int e] st = .ok (rowsD (untilC c d e)) st := fun st => h4 c d e st w e0 (by omega)
  have u2 : ∀ st, callT T "all_until" [chD c, .int d', .int e] st = .ok (rowsD (untilC c d' e)) st := fun st => h4 c d' e st w e0 (by omega)
  have ne1 : ∀ r ∈ untilC c d e, r ≠ [] := fun r hr => by
    obtain ⟨_, _, _, q⟩ := mem_until.mp hr
    exact all_ne q
  have ne2 : ∀ r ∈ untilC c d' e, r ≠ [] := fun r hr => by
    obtain ⟨_, _, _, q⟩ := mem_until.mp hr
    exact all_ne q
  simp [runDef, d_pair_of_passages, h1 c st w, h2 d st d0 d6, h2 d' st d0' d6', k1, k2, u1, u2]
  generalize hds : ([rowsD (untilC c d e)] : List D) = ds
  have key := forL_findSome intsD (fun env => ∃ o6 o7, env = [some (chD c), some (.int d), some (.int d'), some (.int g), some (.int e), some (rowsD (untilC c d' e)), o6, o7, none, none]) (pairIn g (untilC c d' e)) (fun p => D.tup [intsD p.1, intsD p.2]) (st := st) (ds := ds) (f := forT T (.nm 6) [.for_ (.nm 7) .seq [.var 5] [
      .ite (.cmp .GtE (.blt "min" [.lc (.blt "abs" [.bin .Sub (.var 8) (.var 9)]) (.tp [8, 9]) .zip2 [.var 6, .var 7] [] [8, 9]]) (.var 3)) [
        .ret (.tup [.var 6, .var 7])] []]]) (as := untilC c d e) (env := [some (chD c), some (.int d), some (.int d'), some (.int g), some (.int e), some (rowsD (untilC c d' e)), none, none, none, none]) ⟨none, none, rfl⟩ ?stp
  case stp =>
    rintro one hone env ⟨o6, o7, rfl⟩
    have hin := forL_findSome intsD (fun env => ∃ o7, env = [some (chD c), some (.int d), some (.int d'), some (.int g), some (.int e), some (rowsD (untilC c d' e)), some (intsD one), o7, none, none]) (fun o => if gapOk g one o then some (one, o) else none) (fun p => D.tup [intsD p.1, intsD p.2]) (st := st) (ds := [rowsD (untilC c d' e)]) (f := forT T (.nm 7) [
      .ite (.cmp .GtE (.blt "min" [.lc (.blt "abs" [.bin .Sub (.var 8) (.var 9)]) (.tp [8, 9]) .zip2 [.var 6, .var 7] [] [8, 9]]) (.var 3)) [
        .ret (.tup [.var 6, .var 7])] []]) (as := untilC c d' e) (env := [some (chD c), some (.int d), some (.int d'), some (.int g), some (.int e), some (rowsD (untilC c d' e)), some (intsD one), o7, none, none]) ⟨o7, rfl⟩ ?stp2
    case stp2 =>
      rintro oth hoth env ⟨o7, rfl⟩
      have hlc : ∀ (f : D → Store → R (List D)) ds, (∀ p ∈ one.zip oth, f (.tup [.int p.1, .int p.2]) st = .ok [.int (if p.1 - p.2 < 0 then -(p.1 - p.2) else p.1 - p.2)] st) → lcL st ds f ((one.zip oth).map fun p => .tup [.int p.1, .int p.2]) st = .ok ((diffs one oth).map .int) st := by
        intro f ds q
        rw [lcL_map (fun p : Int × Int => D.tup [.int p.1, .int p.2]) (fun p => D.int (if p.1 - p.2 < 0 then -(p.1 - p.2) else p.1 - p.2)) q]
        unfold diffs
        rw [List.map_map]; rfl
      obtain ⟨m, m1, _⟩ := minI_sp (diffs_ne (ne1 one hone) (ne2 oth hoth))
      have hb := b_minI (diffs one oth)
      rw [m1] at hb
      by_cases hg : g ≤ m
      · left
        have hgo : gapOk g one oth = true := by simp [gapOk, m1, hg]
        refine ⟨(one, oth), by simp [hgo], ?_⟩
        simp [it_zints]
        rw [hlc _ _ fun p _ => by simp]
        simp [hb, hg]
      · right
        have hgo : gapOk g one oth = false := by simp [gapOk, m1, hg]
        refine ⟨by simp [hgo], [some (chD c), some (.int d), some (.int d'), some (.int g), some (.int e), some (rowsD (untilC c d' e)), some (intsD one), some (intsD oth), none, none], ⟨_, rfl⟩, ?_⟩
        simp [it_zints]
        rw [hlc _ _ fun p _ => by simp]
        simp [hb, hg]
    have hfs : (untilC c d' e).findSome? (fun o => if gapOk g one o then some (one, o) else none) = pairIn g (untilC c d' e) one := by
      unfold pairIn
      generalize untilC c d' e = l
      induction l with
      | nil => rfl
      | cons a l ih =>
        rw [List.findSome?_cons, List.find?_cons]
        cases hga : gapOk g one a <;> simp [ih]
    rw [hfs] at hin
    rcases hin with ⟨b, b1, b2⟩ | ⟨b1, env', ⟨o7', rfl⟩, b2⟩
    · left
      refine ⟨b, b1, ?_⟩
      simp [b2]
    · right
      refine ⟨b1, _, ⟨some (intsD one), o7', rfl⟩, ?_⟩
      simp [b2]
  rw [← hds] at key
  rcases key with ⟨b, b1, b2⟩ | ⟨b1, env', ⟨o6, o7, rfl⟩, b2⟩
  · rw [hds] at b2
    rw [b2]
    have : pairC c d d' g e = some b := b1
    rw [this]
    simp [optP]
    rw [frz_tup _ _ _ (by simp [D.underL])]
    simp
  · rw [hds] at b2
    rw [b2]
    have : pairC c d d' g e = none := b1
    rw [this]
    simp [optP]
/-! ### what was seen -/
def seen1 (p : Int × Bool) : D := .tup [.int p.1, .bl p.2]
def seenD (s : List (Int × Bool)) : D := .tup (s.map seen1)
@[simp] theorem der_seenD (st : Store) (s : List (Int × Bool)) : der st (seenD s) = seenD s := nrfl rfl
@[simp] theorem rd_seenD (st : Store) (s : List (Int × Bool)) : rd st (seenD s) = seenD s := nrfl rfl
@[simp] theorem it_seenD (s : List (Int × Bool)) : iter .seq [seenD s] = some (s.map seen1) := nrfl rfl
@[simp] theorem len_seenD (s : List (Int × Bool)) : bltin "len" [seenD s] = some (.int s.length) := by simp [seenD]
@[simp] theorem ty_seenD (s : List (Int × Bool)) (t : String) : isTy (seenD s) t = some (t == "tuple") := nrfl rfl
structure OkSeen (s : List (Int × Bool)) : Prop where
  len : s.length ≤ 12
  rng : ∀ p ∈ s, 0 ≤ p.1 ∧ p.1 ≤ 999
  asc : s.Pairwise fun a b => a.1 < b.1
def S_chkS (f : Fn) : Prop := ∀ (s : List (Int × Bool)) (st : Store), OkSeen s → f [seenD s] st = .ok .non st
theorem ix_seen {s : List (Int × Bool)} {k : Nat} (h : k < s.length) : idxop (seenD s) (.int (k : Int)) = some (seen1 s[k]) := by
  show pick (s.map seen1) (k : Int) = _
  rw [pick_nat, List.getElem?_map, List.getElem?_eq_getElem h]; rfl
theorem r_chkS (h3 : S_between (callT T "is_between")) : S_chkS (runDef T d_check_seen) := by
  intro s st hs
  have hl := hs.len
  have hl' : ¬ ((12 : Int) < (s.length : Int)) := by omega
  simp [runDef, d_check_seen, hl']
  rw [forL_run seen1 (fun l => [some (seenD s), l.getLast?.map seen1, none]) ?hE ?h]
  case hE => rfl
  case h =>
    intro l p r e
    have hp := hs.rng p (by rw [e]; simp)
    have k1 := h3 p.1 0 999 st
    rw [decide_eq_true hp.1, decide_eq_true hp.2] at k1
    have e1 : idxop (seen1 p) (.int 0) = some (.int p.1) := rfl
    have e2 : idxop (seen1 p) (.int 1) = some (.bl p.2) := rfl
    have e3 : rd st (seen1 p) = seen1 p := rfl
    have e4 : der st (seen1 p) = seen1 p := rfl
    have e5 : bltin "len" [seen1 p] = some (.int 2) := rfl
    have e6 : isTy (seen1 p) "tuple" = some true := rfl
    have e7 : isTy (.bl p.2) "bool" = some true := rfl
    simp [e1, e2, e3, e4, e5, e6, k1, e7]
  have hr : -1000000 ≤ (s.length : Int) - 1 ∧ (s.length : Int) - 1 ≤ 1000000 := by omega
  simp [it1 hr]
  rw [lcL_map D.int (fun _ => D.bl true) ?g1]
  case g1 =>
    intro x hx
    rw [mem_rngI] at hx
    obtain ⟨k, rfl⟩ : ∃ k : Nat, x = (k : Int) := ⟨x.toNat, by omega⟩
    have h1 : k < s.length := by omega
    have h2 : k + 1 < s.length := by omega
    have hlt : s[k].1 < s[k + 1].1 := (List.pairwise_iff_getElem.mp hs.asc) k (k + 1) h1 h2 (by omega)
    have i2 := ix_seen h2
    rw [show ((k + 1 : Nat) : Int) = (k : Int) + 1 by omega] at i2
    have e1 : ∀ p, idxop (seen1 p) (.int 0) = some (.int p.1) := fun p => rfl
    have e3 : ∀ p, rd st (seen1 p) = seen1 p := fun p => rfl
    simp [ix_seen h1, i2, e1, e3, hlt]
  have e8 : toBls ((rngI 0 (s.length - 1)).map fun _ => D.bl true) = some ((rngI 0 (s.length - 1)).map fun _ => true) := toBls_map (fun _ => true) _
  have e9 : ((rngI 0 (s.length - 1)).map fun _ => true).all id = true := by simp
  simp only [kLst_ok, kEs1_ok, es_nil, kEs2_ok, kBlt_ok, List.map_cons, List.map_nil, rd_lst, b_all, e8, Option.map_some, e9]
  simp
def agreeC (c : Chan) (d : Int) (s : List (Int × Bool)) : Bool := s.all fun p => isOut c d p.1 == p.2
def S_agree (f : Fn) : Prop := ∀ (c : Chan) (d : Int) (s : List (Int × Bool)) (st : Store), WF c → f [chD c, .int d, seenD s] st = .ok (.bl (agreeC c d s)) st
theorem r_agree (h1 : S_out (callT T "is_out")) : S_agree (runDef T d_does_agree) := by
  intro c d s st w
  simp [runDef, d_does_agree]
  rw [lcL_map seen1 (fun p => D.bl (isOut c d p.1 == p.2)) ?g1]
  case g1 =>
    intro p _
    simp [seen1, h1 c d p.1 st w]
  simp [toBls_map, agreeC, Function.comp_def]
def S_drFor (f : Fn) : Prop := ∀ (c : Chan) (s : List (Int × Bool)) (st : Store), WF c → OkSeen s → f [chD c, seenD s] st = .ok (intsD ((rngI 0 7).filter fun d => agreeC c d s)) st
theorem r_drFor (h1 : S_chk (callT T "check_channel")) (h2 : S_chkS (callT T "check_seen")) (h3 : S_agree (callT T "does_agree")) : S_drFor (runDef T d_draughts_for) := by
  intro c s st w hs
  simp [runDef, d_draughts_for, h1 c st w, h2 s st hs, it1 r7]
  rw [lc_fm (F := D.int) (fun d => agreeC c d s) D.int ?g1]
  case g1 =>
    intro d _
    cases hx : agreeC c d s <;> simp [h3 c d s st w, hx]
  simp
  exact congrArg (fun o => ofO o st) (frz_intsD st.length st _)
def hrsFor (c : Chan) (d : Int) (s : List (Int × Bool)) (hs : List Int) : List Int := hs.filter fun h => agreeC (shC c h) d s
def S_hrFor (f : Fn) : Prop := ∀ (c : Chan) (d : Int) (s : List (Int × Bool)) (st : Store), WF c → 0 ≤ d → d ≤ 6 → OkSeen s → f [chD c, .int d, seenD s] st = .ok (intsD (hrsFor c d s (rngI 0 (perC c)))) st
theorem r_hrFor (h1 : S_chk (callT T "check_channel")) (h0 : S_chkR 0 6 (callT T "check_draught")) (h2 : S_chkS (callT T "check_seen")) (h3 : S_agree (callT T "does_agree")) (h4 : S_per (callT T "period_of")) (h5 : S_shift (callT T "shifted")) : S_hrFor (runDef T d_hours_for) := by
  intro c d s st w d0 d6 hs
  have pf := perC_facts w
  simp [runDef, d_hours_for, h1 c st w, h0 d st d0 d6, h2 s st hs, h4 c _ w, it1 (per_rng w)]
  refine lv_ok fun Z hZ => ?_
  refine for_seq D.int (fun l env st' => ∃ o4, env = [some (chD c), some (.int d), some (seenD s), some (.ref st.length), o4] ∧ st' = st ++ [.lst ((hrsFor c d s l).map .int)]) (fun _ _ _ _ => noref_der rfl _ _) ⟨none, rfl, rfl⟩ ?step ?rest
  case rest =>
    rintro env' st' ⟨o4, rfl, rfl⟩
    simp
    refine Ok.ok (hZ _ _ ?_)
    rw [leave_app]
    exact congrArg (fun o => ofO o st) (frz_intsD st.length _ _)
  case step =>
    rintro l h r env _ el ⟨o4, rfl, rfl⟩ Q hQ
    have hll : l.length < 1002 := by
      have := congrArg List.length el
      rw [rngI_len] at this; simp at this; omega
    have hh : h ∈ rngI 0 (perC c) := by rw [el]; simp
    rw [mem_rngI] at hh
    have hlim : ((hrsFor c d s l).map D.int).length < lim := by
      rw [List.length_map]
      have : (hrsFor c d s l).length ≤ l.length := List.length_filter_le _ _
      unfold lim; omega
    have a1 : ∀ st, callT T "shifted" [chD c, .int h] st = .ok (chD (shC c h)) st := fun st => h5 c h st w (by omega) (by omega)
    have a2 : ∀ st, callT T "does_agree" [chD (shC c h), .int d, seenD s] st = .ok (.bl (agreeC (shC c h) d s)) st := fun st => h3 _ d s st (w.sh h)
    cases hx : agreeC (shC c h) d s
    · simp [a1, a2, hx]
      refine Ok.ok (hQ _ _ ⟨_, rfl, ?_⟩)
      simp [hrsFor, hx]
    · simp [a1, a2, hx, app_top hlim]
      refine Ok.ok (hQ _ _ ⟨_, rfl, ?_⟩)
      simp [hrsFor, hx]
end TW
/-! TwLeast: the order of rows; what the least digging is. -/
namespace TW
open PySem (Str Operator CmpOp)
variable {T : Tab}
theorem ltR_trans : ∀ {a b c : List Int}, ltR a b = true → ltR b c = true → ltR a c = true
  | _, _, [], _, h => by simp [ltR] at h
  | _, [], _ :: _, h, _ => by simp [ltR] at h
  | [], _ :: _, _ :: _, _, _ => by simp [ltR]
  | x :: a, y :: b, z :: c, h1, h2 => by
    simp only [ltR] at h1 h2 ⊢
    by_cases e1 : x = y
    · subst e1
      simp at h1
      by_cases e2 : x = z
      · subst e2
        simp at h2 ⊢
        exact ltR_trans h1 h2
      · have : (x == z) = false := by simpa using e2
        rw [this] at h2 ⊢
        exact h2
    · have q1 : (x == y) = false := by simpa using e1
      rw [q1] at h1
      simp at h1
      by_cases e2 : y = z
      · subst e2
        rw [q1]
        simpa using h1
      · have q2 : (y == z) = false := by simpa using e2
        rw [q2] at h2
        simp at h2
        have : (x == z) = false := by simp; omega
        rw [this]
        simp
        omega
theorem ltR_tri : ∀ {a b : List Int}, ltR a b = false → ltR b a = false → a = b
  | [], [], _, _ => rfl
  | [], _ :: _, h, _ => by simp [ltR] at h
  | _ :: _, [], _, h => by simp [ltR] at h
  | x :: a, y :: b, h1, h2 => by
    simp only [ltR] at h1 h2
    by_cases e : x = y
    · subst e
      simp at h1 h2
      rw [ltR_tri h1 h2]
    · have q1 : (x == y) = false := by simpa using e
      have q2 : (y == x) = false := by simpa using fun z : y = x => e z.symm
      rw [q1] at h1
      rw [q2] at h2
      simp at h1 h2
      omega
theorem ltP_trans {a b c : Int × List Int} (h1 : ltP a b = true) (h2 : ltP b c = true) : ltP a c = true := by
  unfold ltP at *
  by_cases e1 : a.1 = b.1
  · by_cases e2 : b.1 = c.1
    · simp [e1, e2] at h1 h2 ⊢
      exact ltR_trans h1 h2
    · have q : (b.1 == c.1) = false := by simpa using e2
      rw [q] at h2
      rw [e1, q]
      exact h2
  · have q1 : (a.1 == b.1) = false := by simpa using e1
    simp [q1] at h1
    by_cases e2 : b.1 = c.1
    · have : (a.1 == c.1) = false := by simp; omega
      simp [this]; omega
    · have q2 : (b.1 == c.1) = false := by simpa using e2
      simp [q2] at h2
      have : (a.1 == c.1) = false := by simp; omega
      simp [this]; omega
theorem ltP_asymm {a b : Int × List Int} (h : ltP a b = true) : ltP b a = false := by
  unfold ltP at *
  by_cases e1 : a.1 = b.1
  · simp [e1] at h ⊢
    exact ltR_asymm h
  · have q1 : (a.1 == b.1) = false := by simpa using e1
    have q2 : (b.1 == a.1) = false := by simpa using fun z : b.1 = a.1 => e1 z.symm
    simp [q1] at h
    simp [q2]
    omega
theorem ltP_tri {a b : Int × List Int} (h1 : ltP a b = false) (h2 : ltP b a = false) : a = b := by
  unfold ltP at *
  by_cases e1 : a.1 = b.1
  · simp [e1] at h1 h2
    exact Prod.ext e1 (ltR_tri h1 h2)
  · have q1 : (a.1 == b.1) = false := by simpa using e1
    have q2 : (b.1 == a.1) = false := by simpa using fun z : b.1 = a.1 => e1 z.symm
    simp [q1] at h1
    simp [q2] at h2
    omega
theorem leP_trans {a b c : Int × List Int} (h1 : leP a b = true) (h2 : leP b c = true) : leP a c = true := by
  unfold leP at *
  simp at *
  cases hx : ltP c a with
  | false => rfl
  | true =>
    exfalso
    cases hy : ltP b c with
    | true => exact absurd (ltP_trans hy hx) (by simp [h1])
    | false =>
      have := ltP_tri h2 hy
      subst this
      rw [hx] at h1; cases h1
theorem leP_total (a b : Int × List Int) : (leP a b || leP b a) = true := by
  unfold leP
  cases h : ltP b a with
  | false => rfl
  | true => rw [ltP_asymm h]; rfl
theorem digsS_sorted (n : Nat) : (digsS n).Pairwise fun a b => leP a b = true := by
  unfold digsS
  exact List.pairwise_mergeSort (le := leP) (fun a b c h1 h2 => leP_trans h1 h2) leP_total _
theorem find_first {α : Type} {p : α → Bool} {R : α → α → Prop} : ∀ {l : List α} {a : α}, l.Pairwise R → l.find? p = some a → ∀ b ∈ l, p b = true → b = a ∨ R a b
  | [], _, _, h, _, _, _ => by cases h
  | x :: l, a, hp, h, b, hb, pb => by
    rw [List.find?_cons] at h
    have hp' := List.pairwise_cons.mp hp
    cases hx : p x with
    | true =>
      rw [hx] at h
      cases h
      rcases List.mem_cons.mp hb with q | q
      · exact .inl q
      · exact .inr (hp'.1 b q)
    | false =>
      rw [hx] at h
      rcases List.mem_cons.mp hb with q | q
      · subst q; rw [hx] at pb; cases pb
      · exact find_first hp'.2 h b q pb
theorem mem_digsS {n : Nat} {p : Int × List Int} : p ∈ digsS n ↔ p.1 = p.2.sum ∧ p.2 ∈ digsN n := by
  unfold digsS
  rw [List.mem_mergeSort, List.mem_map]
  constructor
  · rintro ⟨r, hr, rfl⟩; exact ⟨rfl, hr⟩
  · rintro ⟨h1, h2⟩; exact ⟨p.2, h2, Prod.ext h1.symm rfl⟩
theorem least_some {c : Chan} {d : Int} {o : Bool} {r : List Int} (h : leastC c d o = some r) : r ∈ digsN c.bars.length ∧ enoughC (deeperC c r) d o = true ∧ ∀ q ∈ digsN c.bars.length, enoughC (deeperC c q) d o = true → q = r ∨ leP (sumP r) (sumP q) = true := by
  unfold leastC at h
  cases hp : leastP c d o with
  | none => rw [hp] at h; cases h
  | some p =>
    rw [hp] at h
    cases h
    have hm := mem_digsS.mp (List.mem_of_find?_eq_some hp)
    have he : p = sumP p.2 := Prod.ext hm.1 rfl
    refine ⟨hm.2, (by have := List.find?_some (p := fun p : Int × List Int => enoughC (deeperC c p.2) d o) hp; exact this), fun q hq he' => ?_⟩
    rcases find_first (digsS_sorted _) hp (sumP q) (mem_digsS.mpr ⟨rfl, hq⟩) he' with z | z
    · left
      have := congrArg Prod.snd z
      exact this
    · right
      rw [← he]; exact z
theorem least_of {c : Chan} {d : Int} {o : Bool} {r : List Int} (h1 : r ∈ digsN c.bars.length) (h2 : enoughC (deeperC c r) d o = true) (h3 : ∀ q ∈ digsN c.bars.length, enoughC (deeperC c q) d o = true → ltP (sumP q) (sumP r) = false) : leastC c d o = some r := by
  cases hl : leastC c d o with
  | none =>
    unfold leastC at hl
    cases hp : leastP c d o with
    | some p => rw [hp] at hl; cases hl
    | none =>
      have := List.find?_eq_none.mp hp (sumP r) (mem_digsS.mpr ⟨rfl, h1⟩)
      exact absurd h2 this
  | some r' =>
    obtain ⟨a, b, e⟩ := least_some hl
    rcases e r h1 h2 with z | z
    · rw [z]
    · have q := h3 r' a b
      have : ltP (sumP r) (sumP r') = false := by simpa [leP] using z
      have := ltP_tri this q
      rw [show r = r' from congrArg Prod.snd this]
theorem least_ex {c : Chan} {d : Int} {o : Bool} {r : List Int} (h1 : r ∈ digsN c.bars.length) (h2 : enoughC (deeperC c r) d o = true) : ∃ q, leastC c d o = some q := by
  cases hl : leastC c d o with
  | some q => exact ⟨q, rfl⟩
  | none =>
    unfold leastC at hl
    cases hp : leastP c d o with
    | some p => rw [hp] at hl; cases hl
    | none =>
      have := List.find?_eq_none.mp hp (sumP r) (mem_digsS.mpr ⟨rfl, h1⟩)
      exact absurd h2 this
end TW
/-! L20: the law of whole stays, plainly. -/
namespace TW
open PySem (Str Operator CmpOp)
variable {T : Tab}
theorem minI_eq {A B : List Int} (h1 : ∀ x ∈ A, ∃ y ∈ B, y ≤ x) (h2 : ∀ y ∈ B, ∃ x ∈ A, x ≤ y) : minI A = minI B := by
  cases ha : minI A with
  | none =>
    have ha' := minI_none.mp ha
    cases hb : minI B with
    | none => rfl
    | some m =>
      obtain ⟨x, hx, _⟩ := h2 m (minI_mem hb).1
      rw [ha'] at hx; cases hx
  | some m =>
    obtain ⟨a1, a2⟩ := minI_mem ha
    obtain ⟨y, hy, hym⟩ := h1 m a1
    cases hb : minI B with
    | none => rw [minI_none.mp hb] at hy; cases hy
    | some n =>
      obtain ⟨b1, b2⟩ := minI_mem hb
      obtain ⟨x, hx, hxn⟩ := h2 n b1
      have := a2 x hx
      have := b2 y hy
      congr 1
      omega
def arrL (c : Chan) (d : Int) (os : List Int) : List Int := os.flatMap fun o => (allFrom c d o).map lastI
theorem arr_len {c : Chan} (w : WF c) (d : Int) (os : List Int) : (arrL c d os).length ≤ 16 * os.length := by
  have := until_len w d os
  unfold untilL at this
  unfold arrL
  rw [List.length_flatMap] at this ⊢
  simpa using this
theorem lastI_add {r : List Int} (h : r ≠ []) (s : Int) : lastI (r.map (· + s)) = lastI r + s := by
  unfold lastI
  rw [List.getLast?_map]
  cases hq : r.getLast? with
  | none => exact absurd (by simpa using hq) h
  | some y => rfl
theorem minI_add : ∀ (xs : List Int) (s : Int), minI (xs.map (· + s)) = (minI xs).map (· + s) := by
  intro xs s
  cases hx : minI xs with
  | none => rw [minI_none.mp hx]; rfl
  | some m =>
    obtain ⟨h1, h2⟩ := minI_mem hx
    have hne : xs.map (· + s) ≠ [] := List.ne_nil_of_mem (List.mem_map.mpr ⟨m, h1, rfl⟩)
    obtain ⟨m', e, q1, q2⟩ := minI_sp hne
    rw [e]
    obtain ⟨y, hy, rfl⟩ := List.mem_map.mp q1
    have a := h2 y hy
    have b := q2 (m + s) (List.mem_map.mpr ⟨m, h1, rfl⟩)
    simp only [Option.map_some, Option.some.injEq]
    omega
theorem soon_move {c c' : Chan} {d d' s : Int} {h : Int} (e : allFrom c' d' (h + s) = (allFrom c d h).map fun r => r.map (· + s)) : soonC c' d' (h + s) = (soonC c d h).map (· + s) := by
  unfold soonC
  rw [e, List.map_map, ← minI_add, List.map_map]
  congr 1
  exact List.map_congr_left fun r hr => lastI_add (all_ne hr) s
theorem soon_per {c : Chan} (w : WF c) {d h m : Int} (hm : (perC c : Int) ∣ m) : soonC c d (h + m) = (soonC c d h).map (· + m) := soon_move (all_per w hm)
theorem home_arr {c : Chan} (w : WF c) (d b : Int) : minI (arrL (backC c) d (rngI b (2 * perC c))) = minI (homeL c d b) := by
  have pf := perC_facts w
  apply minI_eq
  · intro x hx
    unfold arrL at hx
    obtain ⟨o, ho, hx⟩ := List.mem_flatMap.mp hx
    rw [mem_rngI] at ho
    have key : ∀ o x, x ∈ (allFrom (backC c) d o).map lastI → b ≤ o → o < b + perC c → ∃ y ∈ homeL c d b, y ≤ x := by
      intro o x hx o1 o2
      obtain ⟨m, m1, m2, m3⟩ := minI_sp (List.ne_nil_of_mem hx)
      exact ⟨m, List.mem_filterMap.mpr ⟨o, mem_rngI.mpr ⟨o1, o2⟩, m1⟩, m3 x hx⟩
    by_cases h : o < b + perC c
    · exact key o x hx ho.1 h
    · have e := all_per w.back (d := d) (h := o - (perC c : Int)) (m := (perC c : Int)) (by rw [per_backN w]; exact Int.dvd_refl _)
      rw [show o - (perC c : Int) + (perC c : Int) = o by omega] at e
      rw [e, List.map_map] at hx
      obtain ⟨r, hr, rfl⟩ := List.mem_map.mp hx
      obtain ⟨y, hy, hyx⟩ := key (o - (perC c : Int)) (lastI r) (List.mem_map.mpr ⟨r, hr, rfl⟩) (by omega) (by omega)
      refine ⟨y, hy, ?_⟩
      simp only [Function.comp_def]
      rw [lastI_add (all_ne hr)]
      omega
  · intro y hy
    unfold homeL at hy
    obtain ⟨o, ho, e⟩ := List.mem_filterMap.mp hy
    rw [mem_rngI] at ho
    refine ⟨y, ?_, by omega⟩
    unfold arrL
    exact List.mem_flatMap.mpr ⟨o, mem_rngI.mpr ⟨ho.1, by omega⟩, (minI_mem e).1⟩
theorem home_mono {c : Chan} (w : WF c) {d b b' m m' : Int} (hb : b ≤ b') (h : minI (homeL c d b) = some m) (h' : minI (homeL c d b') = some m') : m ≤ m' := by
  have pf := perC_facts w
  obtain ⟨a1, a2⟩ := minI_mem h
  obtain ⟨b1, b2⟩ := minI_mem h'
  obtain ⟨o', ho', e'⟩ := List.mem_filterMap.mp b1
  rw [mem_rngI] at ho'
  have e1 := Int.emod_nonneg (o' - b) (show (perC c : Int) ≠ 0 by omega)
  have e2 := Int.emod_lt_of_pos (o' - b) (show (0 : Int) < perC c by omega)
  have e3 : o' - b = (o' - b) % (perC c : Int) + (perC c : Int) * ((o' - b) / (perC c : Int)) := (Int.emod_add_mul_ediv _ _).symm
  have e4 : 0 ≤ (o' - b) / (perC c : Int) := Int.ediv_nonneg (by omega) (by omega)
  have e5 : 0 ≤ (perC c : Int) * ((o' - b) / (perC c : Int)) := Int.mul_nonneg (by omega) e4
  generalize hq : (perC c : Int) * ((o' - b) / (perC c : Int)) = q at *
  have sp := soon_per w.back (d := d) (h := o' - q) (m := q) (by rw [per_backN w, ← hq]; exact Int.dvd_mul_right _ _)
  rw [show o' - q + q = o' by omega, e'] at sp
  cases hs : soonC (backC c) d (o' - q) with
  | none => rw [hs] at sp; cases sp
  | some y =>
    rw [hs] at sp
    simp at sp
    have := a2 y (List.mem_filterMap.mpr ⟨o' - q, mem_rngI.mpr ⟨by omega, by omega⟩, hs⟩)
    omega
theorem homeC_mono {c : Chan} (w : WF c) {d h s s' m m' : Int} (hs : s ≤ s') (h1 : homeC c d h s = some m) (h2 : homeC c d h s' = some m') : m ≤ m' := by
  unfold homeC at h1 h2
  cases ha : soonC c d h with
  | none => rw [ha] at h1; cases h1
  | some a =>
    rw [ha] at h1 h2
    exact home_mono w (by omega) h1 h2
theorem home_none {c : Chan} (w : WF c) {d h s : Int} (hn : homeC c d h 0 = none) : homeC c d h s = none := by
  unfold homeC at hn ⊢
  cases hs : soonC c d h with
  | none => rfl
  | some a =>
    rw [hs] at hn
    simp only at hn ⊢
    rw [minI_none] at hn ⊢
    apply Classical.byContradiction
    intro z
    exact homeL_ne w z hn
theorem home_bound {c : Chan} (w : WF c) {d h s m : Int} (h1 : homeC c d h s = some m) : h + s ≤ m ∧ m ≤ h + s + 600 := by
  have pf := perC_facts w
  unfold homeC at h1
  cases hs : soonC c d h with
  | none => rw [hs] at h1; cases h1
  | some a =>
    rw [hs] at h1
    have hb := soon_some w hs
    obtain ⟨o, ho, e⟩ := List.mem_filterMap.mp (minI_mem h1).1
    rw [mem_rngI] at ho
    have := soon_some w.back e
    omega
theorem r_lawHome (h1 : S_all (callT T "_law_all")) (h2 : S_per (callT T "_law_period")) : S_home (runDef T d_law_home) := by
  intro c d h s st w a0 a1 s0 s1
  have pf := perC_facts w
  have hA : ∀ h st, callT T "_law_all" [chD c, .int d, .int h] st = .ok (rowsD (allFrom c d h)) st := fun h st => h1 c d h st w
  have hB : ∀ h st, callT T "_law_all" [chD (backC c), .int d, .int h] st = .ok (rowsD (allFrom (backC c) d h)) st := fun h st => h1 _ d h st w.back
  have u1 : ∀ env : Env, kUnp2 env [6, 7, 8] (chD c) = fun st => .ok (.next (((env.set 6 (some (.tup (c.bars.map intsD)))).set 7 (some (intsD c.legs))).set 8 (some (intsD c.waits)))) st := fun env => rfl
  simp [runDef, d_law_home, hA, -e_ite]
  rw [lcL_map intsD (fun r => D.int (lastI r)) ?g1]
  case g1 =>
    intro r hr
    simp [ix_ints, pick_last (all_ne hr)]
  have e1 : D.lst ((allFrom c d h).map fun r => D.int (lastI r)) = hrsD ((allFrom c d h).map lastI) := by
    unfold hrsD
    rw [List.map_map]; rfl
  cases hs : soonC c d h with
  | none =>
    have hn : (allFrom c d h).map lastI = [] := minI_none.mp hs
    simp [e1, hn, homeC, hs]
  | some a =>
    have hb := soon_some w hs
    have hne : ((allFrom c d h).map lastI).isEmpty = false := by
      cases hq : (allFrom c d h).map lastI with
      | nil => unfold soonC at hs; rw [hq] at hs; cases hs
      | cons => rfl
    have hmin : bltin "min" [hrsD ((allFrom c d h).map lastI)] = some (.int a) := by
      show bltin "min" [.lst (((allFrom c d h).map lastI).map .int)] = _
      rw [b_minI]
      unfold soonC at hs
      rw [hs]; rfl
    have eb : D.tup [.tup (c.bars.map intsD).reverse, intsD c.legs.reverse, intsD c.waits.reverse] = chD (backC c) := by
      rw [← List.map_reverse]; rfl
    have m2 : -(2 ^ 64) < (2 : Int) ∧ (2 : Int) < 2 ^ 64 := by omega
    have hr : -1000000 ≤ a + s ∧ a + s ≤ 1000000 ∧ -1000000 ≤ a + s + 2 * (perC c : Int) ∧ a + s + 2 * (perC c : Int) ≤ 1000000 := by omega
    have hn : (a + s + 2 * (perC c : Int) - (a + s)).toNat = 2 * perC c := by omega
    simp [e1, hne, u1, eb, hmin, h2 c _ w, o_mul' m2, it2 hr, homeC, hs, -e_ite]
    rw [hn]
    refine lv_ok fun Z hZ => ?_
    refine for_seq D.int (fun l env st' => ∃ o11, env = [some (chD c), some (.int d), some (.int h), some (.int s), some (hrsD ((allFrom c d h).map lastI)), none, some (.tup (c.bars.map intsD)), some (intsD c.legs), some (intsD c.waits), some (chD (backC c)), some (hrsD (arrL (backC c) d l)), o11] ∧ st' = st) (fun _ _ _ _ => noref_der rfl _ _) ⟨none, rfl, rfl⟩ ?step ?rest
    case step =>
      rintro l o r env st' el ⟨o11, rfl, rfl⟩ Q hQ
      have hll : l.length < 2000 := by
        have := congrArg List.length el
        rw [rngI_len] at this; simp at this; omega
      have k1 := arr_len w.back d l
      have k2 := arr_len w.back d [o]
      simp [arrL] at k2
      simp [hB]
      rw [lcL_map intsD (fun r => D.int (lastI r)) ?g2]
      case g2 =>
        intro r hr
        simp [ix_ints, pick_last (all_ne hr)]
      have e2 : D.lst ((allFrom (backC c) d o).map fun r => D.int (lastI r)) = hrsD ((allFrom (backC c) d o).map lastI) := by
        unfold hrsD
        rw [List.map_map]; rfl
      simp [e2, add_hrs (show (arrL (backC c) d l).length + ((allFrom (backC c) d o).map lastI).length ≤ 100000 by rw [List.length_map]; omega)]
      refine Ok.ok (hQ _ _ ⟨some (.int o), ?_, rfl⟩)
      simp [arrL]
    case rest =>
      rintro env st' ⟨o11, rfl, rfl⟩
      simp only [xs_1, x_ret]
      rw [min_or (ns := arrL (backC c) d (rngI (a + s) (2 * perC c))) (by simp [hrsD])]
      rw [home_arr w]
      simp
      exact Ok.ok (hZ _ _ (by simp))
theorem sorted_ints (xs : List Int) : bltin "sorted" [hrsD xs] = some (hrsD (xs.mergeSort fun a b => !decide (b < a))) := by
  have h1 : likeAll (xs.map D.int) = true := by
    unfold likeAll
    simp only [Bool.and_eq_true, List.all_map, List.all_eq_true, Function.comp_def]
    exact ⟨fun _ _ => rfl, fun _ _ _ _ => rfl⟩
  have h2 : sortOk (xs.map D.int) = true := by
    unfold sortOk
    rw [Bool.or_eq_true]
    right
    simp only [List.all_map, List.all_eq_true]
    intro r hr
    rfl
  show (if likeAll (xs.map D.int) && sortOk (xs.map D.int) then some (D.lst (sortD (xs.map D.int))) else none) = _
  rw [h1, h2]
  unfold sortD
  rw [← List.map_mergeSort (r := fun a b => !decide (b < a)) (s := leD) (f := D.int) (l := xs) (fun a _ b _ => by unfold leD; rfl)]
  rfl
theorem sorted_le (xs : List Int) : (xs.mergeSort fun a b => !decide (b < a)).Pairwise (· ≤ ·) := by
  have := List.pairwise_mergeSort (le := fun a b : Int => !decide (b < a)) (fun a b c h1 h2 => by simp at *; omega) (fun a b => by simp; omega) xs
  exact this.imp fun {a b} h => by simp at h; omega
theorem stayL_mem {c : Chan} {d h e s : Int} : s ∈ stayL c d h e ↔ 0 ≤ s ∧ s < 100 ∧ (homeC c d h s).getD 0 ≤ e := by
  unfold stayL
  rw [List.mem_filter, mem_rngI]
  simp
  constructor
  · rintro ⟨⟨a, b⟩, q⟩; exact ⟨a, b, q⟩
  · rintro ⟨a, b, q⟩; exact ⟨⟨a, b⟩, q⟩
theorem stayL_last {c : Chan} {d h e s : Int} (hl : (stayL c d h e).getLast? = some s) : s ∈ stayL c d h e ∧ ∀ x ∈ stayL c d h e, x ≤ s := by
  refine ⟨List.mem_of_getLast? hl, fun x hx => ?_⟩
  have hp : (stayL c d h e).Pairwise (· < ·) := (rngI_lt 0 100).filter _
  obtain ⟨pre, hpre⟩ : ∃ pre, stayL c d h e = pre ++ [s] := by
    rw [List.getLast?_eq_some_iff] at hl
    exact hl
  rw [hpre] at hx hp
  rcases List.mem_append.mp hx with q | q
  · have := (List.pairwise_append.mp hp).2.2 x q s (by simp)
    omega
  · simp at q; omega
theorem law_k20 (hTown : S_town (callT T "_law_town")) (hDraw : S_draw (callT T "_law_draw")) (hChan : S_chan (callT T "_law_channel")) (hLH : S_home (callT T "_law_home")) (hBack : S_backA (callT T "back_again")) (hStay : S_stay (callT T "longest_stay")) (ns : List Int) (hns : ns.length ≤ 63) :
    runDef T d_k20 [.scr ns] [] = .ok (.bl true) [] := by
  have t0 : Tn ns 0 [] [.lst (.int 0 :: ns.map .int)] := ⟨0, ns, rfl, by omega, by omega, rfl⟩
  obtain ⟨_, st1, e1, c, rfl, w, hk, hm, t1⟩ := hChan ns 0 [] _ 3 5 hns t0 (by unfold big; omega) (by omega) (by omega) (by omega) (by omega)
  obtain ⟨_, st2, e2, d, rfl, d0, d5, t2⟩ := hDraw ns _ [] st1 5 hns t1 (by unfold big; omega) (by omega) (by omega)
  obtain ⟨_, st3, e3, h, rfl, h0, h3, t3⟩ := hDraw ns _ [] st2 300 hns t2 (by unfold big; omega) (by omega) (by omega)
  obtain ⟨_, st4, e4, s1, rfl, s10, s11, t4⟩ := hDraw ns _ [] st3 100 hns t3 (by unfold big; omega) (by omega) (by omega)
  obtain ⟨_, st5, e5, s2, rfl, s20, s21, t5⟩ := hDraw ns _ [] st4 30 hns t4 (by unfold big; omega) (by omega) (by omega)
  obtain ⟨_, st6, e6, s3, rfl, s30, s31, t6⟩ := hDraw ns _ [] st5 6 hns t5 (by unfold big; omega) (by omega) (by omega)
  have q1 : ∀ s st, 0 ≤ s → s ≤ 100 → callT T "_law_home" [chD c, .int d, .int h, .int s] st = .ok (optI (homeC c d h s)) st := fun s st a b => hLH c d h s st w (by omega) (by omega) a b
  have q2 : ∀ s st, 0 ≤ s → s ≤ 99 → callT T "back_again" [chD c, .int d, .int h, .int s] st = .ok (optI (homeC c d h s)) st := fun s st a b => hBack c d h s st w (by omega) (by omega) (by omega) (by omega) a b
  have q3 : ∀ e st, 0 ≤ e → e ≤ 999 → callT T "longest_stay" [chD c, .int d, .int h, .int e] st = .ok (optI (stayC c d h e)) st := fun e st a b => hStay c d h e st w (by omega) (by omega) (by omega) (by omega) a b
  generalize hss : ([s1, s2, s3].mergeSort fun a b => !decide (b < a)) = ss
  have hsm : ∀ s ∈ ss, 0 ≤ s ∧ s ≤ 99 := by
    intro s hs
    rw [← hss, List.mem_mergeSort] at hs
    simp at hs
    omega
  have hsp : ss.Pairwise (· ≤ ·) := by rw [← hss]; exact sorted_le _
  have eso : bltin "sorted" [.lst [.int s1, .int s2, .int s3]] = some (hrsD ss) := by rw [← hss]; exact sorted_ints [s1, s2, s3]
  simp [runDef, d_k20, hTown ns hns, e1, e2, e3, e4, e5, e6, eso]
  refine lv_ok fun Z hZ => ?_
  refine for_seq D.int (fun l env st => ∃ o6 o7, env = [some (.scr ns), some (.ref 0), some (chD c), some (.int d), some (.int h), some (match l.getLast? with | none => .non | some s => optI (homeC c d h s)), o6, o7, none, none] ∧ st = st6) (fun _ _ _ _ => noref_der rfl _ _) ⟨none, none, rfl, rfl⟩ ?step ?rest
  case step =>
    rintro l s r env st el ⟨o6, o7, rfl, rfl⟩ Q hQ
    have hs := hsm s (by rw [el]; simp)
    have fin : ∀ x : D, x = (match (l ++ [s]).getLast? with | none => .non | some s => optI (homeC c d h s)) → x = optI (homeC c d h s) := fun x hx => by rw [hx]; simp
    cases hg : l.getLast? with
    | none =>
      simp [q1 s _ hs.1 (by omega), q2 s _ hs.1 hs.2]
      refine Ok.ok (hQ _ _ ⟨some (.int s), some (optI (homeC c d h s)), ?_, rfl⟩)
      simp
    | some s' =>
      cases hh : homeC c d h s' with
      | none =>
        simp [q1 s _ hs.1 (by omega), q2 s _ hs.1 hs.2, hh]
        refine Ok.ok (hQ _ _ ⟨some (.int s), some (optI (homeC c d h s)), ?_, rfl⟩)
        simp
      | some m' =>
        have hn0 : homeC c d h 0 ≠ none := fun z => by rw [home_none w z] at hh; cases hh
        obtain ⟨m, hm⟩ := home_some w (s := s) hn0
        have hss' : s' ≤ s := by
          rw [el] at hsp
          exact (List.pairwise_append.mp hsp).2.2 s' (List.mem_of_getLast? hg) s (by simp)
        have hmm := homeC_mono w hss' hh hm
        have hlt : ¬ m < m' := by omega
        simp [q1 s _ hs.1 (by omega), q2 s _ hs.1 hs.2, hh, hm, hlt]
        refine Ok.ok (hQ _ _ ⟨some (.int s), some (.int m), ?_, rfl⟩)
        simp [hm]
  case rest =>
    rintro env st ⟨o6, o7, rfl, rfl⟩
    obtain ⟨_, st7, e7, x, rfl, x0, x40, t7⟩ := hDraw ns _ [] st 40 hns t6 (by unfold big; omega) (by omega) (by omega)
    cases hf : homeC c d h 0 with
    | none =>
      have hst : stayC c d h 999 = none := by simp [stayC, hf]
      simp [q1 0 _ (by omega) (by omega), q2 0 _ (by omega) (by omega), q3 999 _ (by omega) (by omega), hf, hst]
      exact Ok.ok (hZ _ _ (leave_law _ _))
    | some f =>
      have hb := home_bound w hf
      have hn0 : homeC c d h 0 ≠ none := by rw [hf]; simp
      have all : ∀ s, ∃ m, homeC c d h s = some m ∧ (0 ≤ s → f ≤ m) := fun s => by
        obtain ⟨m, hm⟩ := home_some w (s := s) hn0
        exact ⟨m, hm, fun q => homeC_mono w q hf hm⟩
      have k1 : ∃ u, stayC c d h f = some u := by
        have : (0 : Int) ∈ stayL c d h f := stayL_mem.mpr ⟨by omega, by omega, by rw [hf]; simp⟩
        simp only [stayC, hf]
        cases hq : (stayL c d h f).getLast? with
        | none => simp at hq; rw [hq] at this; cases this
        | some u => exact ⟨u, by simp [hq]⟩
      obtain ⟨u, hu⟩ := k1
      have k2 : stayC c d h (f - 1) = none := by
        have : stayL c d h (f - 1) = [] := by
          rw [List.eq_nil_iff_forall_not_mem]
          intro s hs
          obtain ⟨a, b, e⟩ := stayL_mem.mp hs
          obtain ⟨m, hm, hfm⟩ := all s
          rw [hm] at e
          have := hfm a
          simp at e
          omega
        simp [stayC, this]
      have k3 : ∃ t, stayC c d h (f + x) = some t ∧ 0 ≤ t ∧ t < 100 ∧ (∃ m, homeC c d h t = some m ∧ m ≤ f + x) ∧ (t = 99 ∨ ∃ m, homeC c d h (t + 1) = some m ∧ f + x < m) := by
        have h0m : (0 : Int) ∈ stayL c d h (f + x) := stayL_mem.mpr ⟨by omega, by omega, by rw [hf]; simp; omega⟩
        cases hq : (stayL c d h (f + x)).getLast? with
        | none => simp at hq; rw [hq] at h0m; cases h0m
        | some t =>
          obtain ⟨l1, l2⟩ := stayL_last hq
          obtain ⟨a, b, e⟩ := stayL_mem.mp l1
          refine ⟨t, by simp [stayC, hf, hq], a, b, ?_, ?_⟩
          · obtain ⟨m, hm, _⟩ := all t
            rw [hm] at e
            exact ⟨m, hm, by simpa using e⟩
          · by_cases h99 : t = 99
            · exact .inl h99
            · right
              obtain ⟨m, hm, _⟩ := all (t + 1)
              refine ⟨m, hm, ?_⟩
              apply Classical.byContradiction
              intro z
              have := l2 (t + 1) (stayL_mem.mpr ⟨by omega, by omega, by rw [hm]; simp; omega⟩)
              omega
      obtain ⟨t, ht, t0', t100, ⟨m, hm, hmx⟩, ht2⟩ := k3
      have hmx' : ¬ (f + x < m) := by omega
      have fin : ∀ (P : Prop) [Decidable P], True := fun _ _ => trivial
      by_cases hfp : 0 < f
      · simp [q1 0 _ (by omega) (by omega), hf, q3 f _ (by omega) (by omega), hu, hfp, q3 (f - 1) _ (by omega) (by omega), k2, e7, q3 (f + x) _ (by omega) (by omega), ht, q1 t _ (by omega) (by omega), hm, hmx']
        by_cases h99 : t = 99
        · subst h99
          simp
          exact Ok.ok (hZ _ _ (leave_law _ _))
        · obtain ⟨m', hm', hlt⟩ := ht2.resolve_left h99
          have h99' : (t == 99) = false := by simpa using h99
          simp [h99', q1 (t + 1) _ (by omega) (by omega), hm', hlt]
          exact Ok.ok (hZ _ _ (leave_law _ _))
      · simp [q1 0 _ (by omega) (by omega), hf, q3 f _ (by omega) (by omega), hu, hfp, e7, q3 (f + x) _ (by omega) (by omega), ht, q1 t _ (by omega) (by omega), hm, hmx']
        by_cases h99 : t = 99
        · subst h99
          simp
          exact Ok.ok (hZ _ _ (leave_law _ _))
        · obtain ⟨m', hm', hlt⟩ := ht2.resolve_left h99
          have h99' : (t == 99) = false := by simpa using h99
          simp [h99', q1 (t + 1) _ (by omega) (by omega), hm', hlt]
          exact Ok.ok (hZ _ _ (leave_law _ _))
end TW
/-! L61: moved and raised, plainly. -/
namespace TW
open PySem (Str Operator CmpOp)
variable {T : Tab}
theorem evSs_app : ∀ (a b : List S) (env : Env) (st : Store), evSs T (a ++ b) env st = kSeq T b (evSs T a env st)
  | [], b, env, st => by simp
  | x :: a, b, env, st => by
    rw [List.cons_append, xs_1, xs_1]
    cases evS T x env st with
    | ok o st' => cases o with
      | next env' =>
        simp only [kSeq_n]
        exact evSs_app a b env' st'
      | ret d => simp
    | exc c st' => simp
    | stuck => rfl
theorem seq_seq (a b : List S) (o : R Out) : kSeq T b (kSeq T a o) = kSeq T (a ++ b) o := by
  cases o with
  | ok o st' => cases o with
    | next env' =>
      simp only [kSeq_n]
      exact (evSs_app a b env' st').symm
    | ret d => simp
  | exc c st' => simp
  | stuck => rfl
theorem rows_move2 {c c' : Chan} {d d' s : Int} (N : Nat) (hb : ∀ k t, k ≤ N → ((d ≤ depB (barC c k) t) ↔ (d' ≤ depB (barC c' k) (t + s)))) (hl : c'.legs = c.legs) (hw : c'.waits = c.waits) (h : Int) : ∀ k, k ≤ N → rowsTo c' d' (h + s) k = (rowsTo c d h k).map fun r => r.map (· + s)
  | 0, _ => by
    unfold rowsTo
    by_cases q : d ≤ depB (barC c 0) h
    · rw [if_pos q, if_pos ((hb 0 h (by omega)).mp q)]; rfl
    · rw [if_neg q, if_neg fun z => q ((hb 0 h (by omega)).mpr z)]; rfl
  | k + 1, hk => by
    have ih := rows_move2 N hb hl hw h k (by omega)
    have el : legC c' k = legC c k := by unfold legC; rw [hl]
    have ew : waitC c' k = waitC c k := by unfold waitC; rw [hw]
    unfold rowsTo ext1
    rw [ih, el, ew]
    have hne : ∀ r ∈ rowsTo c d h k, r ≠ [] := fun r hr z => by
      have := rows_len c d h k r hr
      rw [z] at this; simp at this
    have e1 : ((rowsTo c d h k).map fun r => r.map (· + s)).flatMap (more1 (legC c k) (waitC c k)) = ((rowsTo c d h k).flatMap (more1 (legC c k) (waitC c k))).map fun r => r.map (· + s) := by
      rw [List.flatMap_map, List.map_flatMap]
      refine rows_move.flatMap_congr_mem fun r hr => ?_
      unfold more1
      rw [List.map_map]
      refine List.map_congr_left fun m _ => ?_
      simp only [Function.comp_def, List.map_append, List.map_cons, List.map_nil]
      rw [lastI_add (hne r hr)]
      congr 2
      omega
    rw [e1, List.filter_map]
    congr 1
    refine List.filter_congr fun r hr => ?_
    obtain ⟨pre, _, hm⟩ := List.mem_flatMap.mp hr
    obtain ⟨m, _, rfl⟩ := List.mem_map.mp hm
    simp only [Function.comp_def, List.map_append, List.map_cons, List.map_nil, lastI_append]
    exact decide_eq_decide.mpr (hb (k + 1) _ hk).symm
theorem all_move2 {c c' : Chan} {d d' s : Int} (w : WF c) (hb : ∀ k t, k < c.bars.length → ((d ≤ depB (barC c k) t) ↔ (d' ≤ depB (barC c' k) (t + s)))) (hl : c'.legs = c.legs) (hw : c'.waits = c.waits) (hn : c'.bars.length = c.bars.length) (h : Int) : allFrom c' d' (h + s) = (allFrom c d h).map fun r => r.map (· + s) := by
  unfold allFrom
  rw [hn]
  have := w.n1
  exact rows_move2 (c.bars.length - 1) (fun k t hk => hb k t (by omega)) hl hw h _ (Nat.le_refl _)
theorem barC_none {c : Chan} {k : Nat} (h : c.bars.length ≤ k) : barC c k = [] := by
  unfold barC
  rw [List.getElem?_eq_none h]; rfl
theorem barC_map {c c' : Chan} {f : List Int → List Int} (h : c'.bars = c.bars.map f) (hf : f [] = []) (k : Nat) : barC c' k = f (barC c k) := by
  unfold barC
  rw [h, List.getElem?_map]
  cases c.bars[k]? <;> simp [hf]
theorem dep_sh {c : Chan} (w : WF c) (s : Int) (k : Nat) (t : Int) : depB (barC (shC c s) k) (t + s) = depB (barC c k) t := by
  rw [barC_map (c := c) (c' := shC c s) (f := shB s) rfl rfl]
  by_cases hk : k < c.bars.length
  · have := (w.at (barC_some hk)).1
    rw [depB_sh this]
    congr 1
    omega
  · rw [barC_none (by omega)]; rfl
theorem all_sh {c : Chan} (w : WF c) (d h s : Int) : allFrom (shC c s) d (h + s) = (allFrom c d h).map fun r => r.map (· + s) :=
  all_move (c := c) (c' := shC c s) (d := d) (d' := d) (s := s) (fun k t => by rw [dep_sh w]) rfl rfl (by simp [shC]) h
theorem out_sh {c : Chan} (w : WF c) (d h s : Int) : isOut (shC c s) d (h + s) = isOut c d h := by
  unfold isOut
  rw [all_sh w, List.isEmpty_map]
theorem out_sh' {c : Chan} (w : WF c) (d h s : Int) : isOut (shC c s) d h = isOut c d (h - s) := by
  have := out_sh w d (h - s) s
  rwa [show h - s + s = h by omega] at this
theorem per_sh (c : Chan) (s : Int) : perC (shC c s) = perC c := by
  unfold perC shC
  simp only [List.map_map]
  congr 1
  exact List.map_congr_left fun b _ => shB_len s b
theorem asc_eq : ∀ {a b : List Int}, a.Pairwise (· < ·) → b.Pairwise (· < ·) → (∀ x, x ∈ a ↔ x ∈ b) → a = b
  | [], [], _, _, _ => rfl
  | [], y :: b, _, _, h => by have := (h y).mpr (by simp); cases this
  | x :: a, [], _, _, h => by have := (h x).mp (by simp); cases this
  | x :: a, y :: b, ha, hb, h => by
    have ha' := List.pairwise_cons.mp ha
    have hb' := List.pairwise_cons.mp hb
    have e : x = y := by
      have h1 := (h x).mp (by simp)
      have h2 := (h y).mpr (by simp)
      rcases List.mem_cons.mp h1 with q | q
      · exact q
      · rcases List.mem_cons.mp h2 with q' | q'
        · exact q'.symm
        · have := hb'.1 x q
          have := ha'.1 y q'
          omega
    subst e
    rw [asc_eq ha'.2 hb'.2 fun z => ?_]
    constructor
    · intro hz
      rcases List.mem_cons.mp ((h z).mp (List.mem_cons_of_mem _ hz)) with q | q
      · have := ha'.1 z hz; omega
      · exact q
    · intro hz
      rcases List.mem_cons.mp ((h z).mpr (List.mem_cons_of_mem _ hz)) with q | q
      · have := hb'.1 z hz; omega
      · exact q
theorem found_eq_iff {c c' : Chan} (w : WF c) (w' : WF c') (hp : perC c = perC c') {d d' : Int} : found c d = found c' d' ↔ ∀ h, isOut c d h = isOut c' d' h := by
  constructor
  · intro e h
    rw [Bool.eq_iff_iff, ← mod_found w d h, ← mod_found w' d' h, e, hp]
  · intro e
    refine asc_eq (found_lt c d) (found_lt c' d') fun x => ?_
    rw [mem_found, mem_found, e x, hp]
theorem found_sh {c : Chan} (w : WF c) (d s : Int) : found (shC c s) d = ((found c d).map fun h => (h + s) % (perC c : Int)).mergeSort fun a b => !decide (b < a) := by
  have pf := perC_facts w
  refine asc_eq (found_lt _ d) ?_ fun x => ?_
  · have h1 := sorted_le ((found c d).map fun h => (h + s) % (perC c : Int))
    have h2 : ((found c d).map fun h => (h + s) % (perC c : Int)).Nodup := by
      rw [List.nodup_iff_pairwise_ne, List.pairwise_map]
      refine (List.Pairwise.imp_of_mem ?_ (found_lt c d))
      intro a b ha hb hab e
      have ha' := mem_found.mp ha
      have hb' := mem_found.mp hb
      have h3 := Int.emod_emod_of_dvd (a + s) (Int.dvd_refl (perC c : Int))
      have h4 : (b - a) % (perC c : Int) = 0 := by
        have : (b - a) = (b + s) - (a + s) := by omega
        rw [this, Int.sub_emod, e]
        simp
      have h5 : (perC c : Int) ∣ (b - a) := Int.dvd_of_emod_eq_zero h4
      have := Int.le_of_dvd (by omega) h5
      omega
    have h3 : (((found c d).map fun h => (h + s) % (perC c : Int)).mergeSort fun a b => !decide (b < a)).Nodup := (List.mergeSort_perm _ _).nodup_iff.mpr h2
    rw [List.nodup_iff_pairwise_ne] at h3
    exact (h1.and h3).imp fun {a b} q => by omega
  · rw [List.mem_mergeSort, List.mem_map, mem_found, out_sh' w, per_sh]
    constructor
    · rintro ⟨x0, x1, hx⟩
      refine ⟨(x - s) % (perC c : Int), (mod_found w d _).mpr hx, ?_⟩
      rw [Int.emod_add_emod, show x - s + s = x by omega, Int.emod_eq_of_lt x0 x1]
    · rintro ⟨y, hy, rfl⟩
      have hy' := mem_found.mp hy
      refine ⟨Int.emod_nonneg _ (by omega), Int.emod_lt_of_pos _ (by omega), ?_⟩
      rw [← hy'.2.2, ← out_mod w d ((y + s) % (perC c : Int) - s), Int.emod_sub_emod, show y + s - s = y by omega, out_mod w]
theorem found_sh_len {c : Chan} (w : WF c) (d s : Int) : (found (shC c s) d).length = (found c d).length := by
  rw [found_sh w, List.length_mergeSort, List.length_map]
theorem LD_sh {c : Chan} (w : WF c) {d s m : Int} (h : LD (isOut c d) m) : LD (isOut (shC c s) d) m := by
  obtain ⟨h0, ⟨x, hx⟩, hy⟩ := h
  refine ⟨h0, ⟨x + s, fun j j0 j1 => ?_⟩, fun t => ?_⟩
  · rw [out_sh' w, show x + s + j - s = x + j by omega]
    exact hx j j0 j1
  · obtain ⟨j, j0, j1, hj⟩ := hy (t - s)
    refine ⟨j, j0, j1, ?_⟩
    rw [out_sh' w, show t + j - s = t - s + j by omega]
    exact hj
theorem delay_eq {c c' : Chan} (w : WF c) (w' : WF c') {d d' : Int} (hn : found c d = [] ↔ found c' d' = []) (h : ∀ m, LD (isOut c d) m → LD (isOut c' d') m) : delayC c d = delayC c' d' := by
  by_cases he : found c d = []
  · rw [delay_none he, delay_none (hn.mp he)]
  · obtain ⟨m, e1, l1⟩ := delay_spec w he
    obtain ⟨m', e2, l2⟩ := delay_spec w' fun z => he (hn.mpr z)
    rw [e1, e2, (h m l1).eq l2]
theorem nil_len {a b : List Int} (h : a.length = b.length) : a = [] ↔ b = [] := by
  rw [← List.length_eq_zero_iff, ← List.length_eq_zero_iff, h]
theorem delay_sh {c : Chan} (w : WF c) (d s : Int) : delayC (shC c s) d = delayC c d :=
  (delay_eq w (w.sh s) (nil_len (found_sh_len w d s).symm) fun m h => LD_sh w h).symm
theorem great_sh {c : Chan} (w : WF c) (s : Int) : greatC (shC c s) = greatC c := by
  unfold greatC greatL
  congr 2
  refine List.filter_congr fun d _ => ?_
  have := found_sh_len w d s
  cases h1 : found (shC c s) d <;> cases h2 : found c d <;> rw [h1, h2] at this <;> simp at this ⊢
theorem sure_sh {c : Chan} (w : WF c) (s : Int) : sureC (shC c s) = sureC c := by
  unfold sureC sureL
  congr 2
  refine List.filter_congr fun d _ => ?_
  rw [found_sh_len w d s, per_sh]
theorem shB_rep (s : Int) (n : Nat) : shB s (List.replicate n 6) = List.replicate n 6 := by
  apply List.ext_getElem
  · simp [shB]
  · intro i h1 h2
    simp only [shB, List.getElem_map, List.getElem_range, List.getElem_replicate]
    unfold depB
    have hn : 1 ≤ (List.replicate n (6 : Int)).length := by simp at h2; simp; omega
    obtain ⟨j, hj, ej⟩ := mod_idx (h := (i : Int) - s) hn
    rw [ej, Int.toNat_natCast, List.getElem?_eq_getElem hj]
    simp
theorem deep_sh (c : Chan) (k : Nat) (s : Int) : deepC (shC c s) k = shC (deepC c k) s := by
  unfold deepC
  rw [barC_map (c := c) (c' := shC c s) (f := shB s) rfl rfl, shB_len]
  unfold shC
  simp only [List.map_set, shB_rep]
theorem per_deep (c : Chan) (k : Nat) : perC (deepC c k) = perC c := by
  unfold perC deepC
  congr 1
  simp only [List.map_set, List.length_replicate]
  unfold barC
  by_cases hk : k < c.bars.length
  · rw [List.getElem?_eq_getElem hk]
    simp only [Option.getD_some]
    apply List.ext_getElem
    · simp
    · intro i h1 h2
      rw [List.getElem_set]
      split
      · rename_i e; subst e; simp
      · rfl
  · exact List.set_eq_of_length_le (by simp; omega)
theorem need_sh {c : Chan} (w : WF c) (s : Int) : needL (shC c s) = needL c := by
  unfold needL
  rw [show (shC c s).bars.length = c.bars.length by simp [shC]]
  refine List.filter_congr fun k _ => ?_
  unfold isNeed
  congr 1
  funext d
  rw [deep_sh]
  rw [decide_eq_decide, found_eq_iff (w.sh s) ((w.deep _).sh s) (by rw [per_sh, per_sh, per_deep]), found_eq_iff w (w.deep _) (by rw [per_deep])]
  constructor
  · intro h t
    have := h (t + s)
    rwa [out_sh w, out_sh (w.deep _)] at this
  · intro h t
    rw [out_sh' w, out_sh' (w.deep _)]
    exact h _
theorem back_sh (c : Chan) (s : Int) : backC (shC c s) = shC (backC c) s := by
  unfold backC shC
  simp
theorem rngI_add (a s : Int) (n : Nat) : rngI (a + s) n = (rngI a n).map (· + s) := by
  unfold rngI
  rw [List.map_map]
  refine List.map_congr_left fun k _ => ?_
  simp only [Function.comp_def]
  omega
theorem home_sh {c : Chan} (w : WF c) (d h s x : Int) : homeC (shC c s) d (h + s) x = (homeC c d h x).map (· + s) := by
  unfold homeC
  rw [soon_move (all_sh w d h s)]
  cases soonC c d h with
  | none => rfl
  | some a =>
    simp only [Option.map_some]
    rw [← minI_add]
    congr 1
    unfold homeL
    rw [per_sh, show a + s + x = a + x + s by omega, rngI_add, List.filterMap_map, List.map_filterMap]
    congr 1
    funext o
    simp only [Function.comp_def]
    rw [back_sh, soon_move (all_sh w.back d o s)]
def ones (n : Nat) : List Int := List.replicate n 1
theorem raise_bars {c : Chan} : (deeperC c (ones c.bars.length)).bars = c.bars.map (digB 1) := by
  unfold deeperC ones
  simp only
  generalize c.bars = bs
  induction bs with
  | nil => rfl
  | cons b bs ih =>
    rw [List.length_cons, List.replicate_succ, List.zip_cons_cons, List.map_cons, ih, List.map_cons]
theorem ones_ok (n : Nat) : (ones n).length = n ∧ ∀ x ∈ ones n, 0 ≤ x ∧ x ≤ 6 := by
  refine ⟨by simp [ones], fun x hx => ?_⟩
  have := List.eq_of_mem_replicate hx
  omega
theorem dep_dig {b : List Int} (hb : 1 ≤ b.length) (m t : Int) : depB (digB m b) t = if depB b t + m < 6 then depB b t + m else 6 := by
  obtain ⟨j, hj, ej⟩ := mod_idx (h := t) hb
  unfold depB digB
  rw [List.length_map, ej, Int.toNat_natCast, List.getElem?_map, List.getElem?_eq_getElem hj]
  rfl
theorem per_map {c c' : Chan} {f : List Int → List Int} (h : c'.bars = c.bars.map f) (hf : ∀ b, (f b).length = b.length) : perC c' = perC c := by
  unfold perC
  rw [h, List.map_map]
  congr 1
  exact List.map_congr_left fun b _ => hf b
theorem digB_len (m : Int) (b : List Int) : (digB m b).length = b.length := by simp [digB]
/-- deeper bars lose no passage -/
theorem out_deeper {c c' : Chan} (w : WF c) (w' : WF c') (hl : c'.legs = c.legs) (hw : c'.waits = c.waits) (hn : c'.bars.length = c.bars.length) {d h : Int} (hb : ∀ k t, k < c.bars.length → depB (barC c k) t ≤ depB (barC c' k) t) (ho : isOut c d h = true) : isOut c' d h = true := by
  obtain ⟨r, hr⟩ := out_iff.mp ho
  refine out_iff.mpr ⟨r, ?_⟩
  rw [mem_all w] at hr
  rw [mem_all w']
  refine ⟨by rw [hn]; exact hr.1, hr.2.1, ?_⟩
  have := hr.2.2
  rw [okRow_iff] at this ⊢
  intro j hj
  have hq := this j hj
  have hb' := hb j (atI r j) (by omega)
  unfold okAt at hq ⊢
  unfold legC waitC at hq ⊢
  rw [hl, hw]
  simp only [Bool.and_eq_true, decide_eq_true_eq] at hq ⊢
  exact ⟨by omega, hq.2⟩
theorem part_self (c : Chan) : partC c c = [] := by
  unfold partC partL part1
  simp
theorem mem_part {c c' : Chan} {p : Int × Int × Bool} (h : p ∈ partC c c') : p.2.2 = isOut c p.1 p.2.1 ∧ isOut c p.1 p.2.1 ≠ isOut c' p.1 p.2.1 := by
  unfold partC partL part1 at h
  obtain ⟨d, _, h⟩ := List.mem_flatMap.mp h
  obtain ⟨x, hx, rfl⟩ := List.mem_map.mp h
  rw [List.mem_filter] at hx
  exact ⟨rfl, by simpa using hx.2⟩
theorem worse_of {c c' : Chan} (h : ∀ d t, isOut c' d t = true → isOut c d t = true) : ((partC c c').all fun p => p.2.2) = true := by
  rw [List.all_eq_true]
  intro p hp
  obtain ⟨h1, h2⟩ := mem_part hp
  rw [h1]
  cases h3 : isOut c p.1 p.2.1 with
  | true => rfl
  | false =>
    rw [h3] at h2
    cases h4 : isOut c' p.1 p.2.1 with
    | false => exact absurd h4.symm h2
    | true => rw [h _ _ h4] at h3; cases h3
theorem law_k61 (hTown : S_town (callT T "_law_town")) (hDraw : S_draw (callT T "_law_draw")) (hChan : S_chan (callT T "_law_channel")) (hLP : S_per (callT T "_law_period")) (hLater : S_shift (callT T "later")) (hHours : S_hours (callT T "hours_out")) (hDelay : S_delay (callT T "longest_delay")) (hGreat : S_int greatC (callT T "greatest_draught")) (hSure : S_int sureC (callT T "sure_draught")) (hNeed : S_need (callT T "needless_bars"))
    (hPass : S_passes (callT T "passages")) (hBack : S_backA (callT T "back_again")) (hDug : S_dug (callT T "dug")) (hWorse : S_worse (callT T "is_never_worse")) (hAlike : S_alike (callT T "are_alike")) (ns : List Int) (hns : ns.length ≤ 63) :
    runDef T d_k61 [.scr ns] [] = .ok (.bl true) [] := by
  have t0 : Tn ns 0 [] [.lst (.int 0 :: ns.map .int)] := ⟨0, ns, rfl, by omega, by omega, rfl⟩
  obtain ⟨_, st1, e1, c, rfl, w, hk, hm, t1⟩ := hChan ns 0 [] _ 3 5 hns t0 (by unfold big; omega) (by omega) (by omega) (by omega) (by omega)
  obtain ⟨_, st2, e2, s, rfl, s0, s50, t2⟩ := hDraw ns _ [] st1 50 hns t1 (by unfold big; omega) (by omega) (by omega)
  obtain ⟨_, st3, e3, d, rfl, d0, d5, t3⟩ := hDraw ns _ [] st2 5 hns t2 (by unfold big; omega) (by omega) (by omega)
  obtain ⟨_, st4, e4, h, rfl, h0, h3, t4⟩ := hDraw ns _ [] st3 300 hns t3 (by unfold big; omega) (by omega) (by omega)
  have pf := perC_facts w
  have hpm : (0 : Int) < (perC c : Int) := by omega
  have q1 : ∀ st, callT T "_law_period" [chD c] st = .ok (.int (perC c)) st := fun st => hLP c st w
  have q2 : ∀ st, callT T "later" [chD c, .int s] st = .ok (chD (shC c s)) st := fun st => hLater c s st w s0 (by omega)
  have w2 := w.sh s
  have q3 : ∀ x st, 0 ≤ x → x ≤ 6 → callT T "hours_out" [chD c, .int x] st = .ok (intsD (found c x)) st := fun x st a b => hHours c x st w a b
  have q4 : ∀ x st, 0 ≤ x → x ≤ 6 → callT T "hours_out" [chD (shC c s), .int x] st = .ok (intsD (found (shC c s) x)) st := fun x st a b => hHours _ x st w2 a b
  have q5 : ∀ x st, 0 ≤ x → x ≤ 6 → callT T "longest_delay" [chD c, .int x] st = .ok (optI (delayC c x)) st := fun x st a b => hDelay c x st w a b
  have q6 : ∀ x st, 0 ≤ x → x ≤ 6 → callT T "longest_delay" [chD (shC c s), .int x] st = .ok (optI (delayC c x)) st := fun x st a b => by rw [hDelay _ x st w2 a b, delay_sh w]
  have q7 : ∀ st, callT T "greatest_draught" [chD c] st = .ok (.int (greatC c)) st := fun st => hGreat c st w
  have q8 : ∀ st, callT T "greatest_draught" [chD (shC c s)] st = .ok (.int (greatC c)) st := fun st => by rw [hGreat _ st w2, great_sh w]
  have q9 : ∀ st, callT T "sure_draught" [chD c] st = .ok (.int (sureC c)) st := fun st => hSure c st w
  have qa : ∀ st, callT T "sure_draught" [chD (shC c s)] st = .ok (.int (sureC c)) st := fun st => by rw [hSure _ st w2, sure_sh w]
  have qb : ∀ st, callT T "needless_bars" [chD c] st = .ok (intsD (needL c)) st := fun st => hNeed c st w
  have qc : ∀ st, callT T "needless_bars" [chD (shC c s)] st = .ok (intsD (needL c)) st := fun st => by rw [hNeed _ st w2, need_sh w]
  have qd : ∀ st, callT T "passages" [chD c, .int d, .int h] st = .ok (rowsT (allFrom c d h)) st := fun st => hPass c d h st w (by omega) (by omega) (by omega) (by omega)
  have qe : ∀ st, callT T "passages" [chD (shC c s), .int d, .int (h + s)] st = .ok (rowsT ((allFrom c d h).map fun r => r.map (· + s))) st := fun st => by rw [hPass _ d (h + s) st w2 (by omega) (by omega) (by omega) (by omega), all_sh w]
  have qf : ∀ st, callT T "back_again" [chD c, .int d, .int h, .int 5] st = .ok (optI (homeC c d h 5)) st := fun st => hBack c d h 5 st w (by omega) (by omega) (by omega) (by omega) (by omega) (by omega)
  have qg : ∀ st, callT T "back_again" [chD (shC c s), .int d, .int (h + s), .int 5] st = .ok (optI ((homeC c d h 5).map (· + s))) st := fun st => by rw [hBack _ d (h + s) 5 st w2 (by omega) (by omega) (by omega) (by omega) (by omega) (by omega), home_sh w]
  generalize hr : deeperC c (ones c.bars.length) = c2
  have ho := ones_ok c.bars.length
  have w3 : WF c2 := by rw [← hr]; exact w.dig ho.1 ho.2
  have b3 : c2.bars = c.bars.map (digB 1) := by rw [← hr]; exact raise_bars
  have p3 : perC c2 = perC c := per_map b3 (digB_len 1)
  have l3 : c2.legs = c.legs := by rw [← hr]; rfl
  have ww3 : c2.waits = c.waits := by rw [← hr]; rfl
  have n3 : c2.bars.length = c.bars.length := by rw [b3]; simp
  have bar3 : ∀ k, barC c2 k = digB 1 (barC c k) := fun k => barC_map b3 rfl k
  have qh : ∀ st, callT T "dug" [chD c, .tup (List.replicate c.bars.length (.int 1))] st = .ok (chD c2) st := fun st => by
    have := hDug c (ones c.bars.length) st w ho.1 ho.2
    rw [hr] at this
    rw [← this]
    simp [intsD, ones]
  have n3' := w.n3
  have n1' := w.n1
  have qi : ∀ st, callT T "is_never_worse" [chD c2, chD c] st = .ok (.bl true) st := fun st => by
    rw [hWorse c2 c st w3 w, worse_of fun d t ho => out_deeper w w3 l3 ww3 n3 (fun k t hk => ?_) ho]
    rw [bar3, dep_dig (w.at (barC_some hk)).1]
    have := w.dep hk t
    split <;> omega
  have qj : ∀ st, callT T "later" [chD c, .int (perC c)] st = .ok (chD c) st := fun st => by rw [hLater c _ st w (by omega) (by omega), shC_id w fun b hb => Int.natCast_dvd_natCast.mpr (pf.2.2.1 b hb)]
  have qk : ∀ st, callT T "are_alike" [chD c, chD c] st = .ok (.bl true) st := fun st => by rw [hAlike c c st w w, part_self]; rfl
  have eR : D.tup ((allFrom c d h).map fun r => intsD (r.map (· + s))) = rowsT ((allFrom c d h).map fun r => r.map (· + s)) := by
    unfold rowsT
    rw [List.map_map]; rfl
  simp [runDef, d_k61, hTown ns hns, e1, e2, q1, q2, it1 r7]
  refine lv_ok fun Z hZ => ?_
  refine for_seq D.int (fun l env st => ∃ o6 o7, env = [some (.scr ns), some (.ref 0), some (chD c), some (.int (perC c)), some (.int s), some (chD (shC c s)), o6, o7, none, none, none, none, none, none, none, none] ∧ st = st2) (fun _ _ _ _ => noref_der rfl _ _) ⟨none, none, rfl, rfl⟩ ?step ?rest
  case step =>
    rintro l x r env st el ⟨o6, o7, rfl, rfl⟩ Q hQ
    have hx : x ∈ rngI 0 7 := by rw [el]; simp
    rw [mem_rngI] at hx
    simp [q3 x _ (by omega) (by omega), q4 x _ (by omega) (by omega)]
    rw [lcL_map D.int (fun t => D.int ((t + s) % (perC c : Int))) ?g1]
    case g1 =>
      intro t _
      simp [o_mod hpm]
    have eH : D.lst ((found c x).map fun t => D.int ((t + s) % (perC c : Int))) = hrsD ((found c x).map fun t => (t + s) % (perC c : Int)) := by
      unfold hrsD
      rw [List.map_map]; rfl
    simp [eH, sorted_ints, ← found_sh w, ne_ints, q5 x _ (by omega) (by omega), q6 x _ (by omega) (by omega)]
    exact Ok.ok (hQ _ _ ⟨_, _, rfl, rfl⟩)
  case rest =>
    rintro env st ⟨o6, o7, rfl, rfl⟩
    simp [q7, q8, q9, qa, qb, qc, ne_ints, e3, e4, qd, -e_ite]
    rw [lcL_map intsD (fun r => intsD (r.map (· + s))) ?g2]
    case g2 =>
      intro r hr
      simp
      rw [lcL_map D.int (fun x => D.int (x + s)) ?g3]
      case g3 =>
        intro x _
        simp
      simp [intsD, Function.comp_def]
    have eIte : ∀ {st} (env : Env), getV env 13 st = .ok (optI (homeC c d h 5)) st → getV env 4 st = .ok (.int s) st → evE T (.ite (.cmp .IsNot (.var 13) (.cst .non)) (.bin .Add (.var 13) (.var 4)) (.cst .non)) env st = .ok (optI ((homeC c d h 5).map (· + s))) st := by
      intro st env g1 g2
      cases hh : homeC c d h 5 with
      | none => rw [hh] at g1; simp [g1]
      | some m => rw [hh] at g1; simp [g1, g2]
    simp [eR, qe, qf, qg, -e_ite]
    rw [eIte _ (by simp) (by simp)]
    simp [mul_tup1 (show c.bars.length ≤ 1000 by omega), qh, -e_ite]
    rw [lcL_map intsD (fun b => D.int ((maxI b).getD 0)) ?g4]
    case g4 =>
      intro b hb
      have hb1 := (w.bar b hb).1
      obtain ⟨m, hm, _⟩ := maxI_sp (xs := b) (fun z => by rw [z] at hb1; simp at hb1)
      simp [b_maxT, hm]
    have eM : (c.bars.map fun b => D.int ((maxI b).getD 0)) = (c.bars.map fun b => (maxI b).getD 0).map D.int := by rw [List.map_map]; rfl
    obtain ⟨mm, mm1, mm2, mm3⟩ := maxI_sp (xs := c.bars.map fun b => (maxI b).getD 0) (fun z => by
      have := congrArg List.length z
      simp at this
      rw [this] at n1'; simp at n1')
    have eMM := b_maxI (c.bars.map fun b => (maxI b).getD 0)
    rw [mm1] at eMM
    have hmax : mm ≤ 5 → ∀ k t, k < c.bars.length → depB (barC c k) t ≤ 5 := fun h5 k t hk => by
      have gb := barC_some hk
      have hb := w.at gb
      obtain ⟨m, hm, _, hm3⟩ := maxI_sp (xs := barC c k) (fun z => by have := hb.1; rw [z] at this; simp at this)
      have h1 := hm3 _ (depB_mem (h := t) hb.1)
      have h2 := mm3 m (List.mem_map.mpr ⟨barC c k, List.mem_of_getElem? gb, by rw [hm]; rfl⟩)
      omega
    simp only [kLst_ok, kEs1_ok, es_nil, kEs2_ok, kBlt_ok, List.map_cons, List.map_nil, rd_lst, eM, eMM]
    by_cases h5 : mm ≤ 5
    · have dep1 : ∀ k t, k < c.bars.length → depB (barC c2 k) t = depB (barC c k) t + 1 := fun k t hk => by
        rw [bar3, dep_dig (w.at (barC_some hk)).1]
        have := hmax h5 k t hk
        split <;> omega
      have outR : ∀ x t, 1 ≤ x → isOut c2 x t = isOut c (x - 1) t := fun x t hx1 => by
        unfold isOut
        have := all_move2 (c := c) (c' := c2) (d := x - 1) (d' := x) (s := 0) w (fun k t hk => by
          rw [show t + 0 = t by omega, dep1 k t hk]; omega) l3 ww3 n3 t
        rw [show t + 0 = t by omega] at this
        rw [this, List.isEmpty_map]
      have fR : ∀ x, 1 ≤ x → found c2 x = found c (x - 1) := fun x hx1 => (found_eq_iff w3 w p3).mpr fun t => outR x t hx1
      have gR : greatC c2 = greatC c + 1 := by
        obtain ⟨_, g2, g3⟩ := great_max w
        obtain ⟨_, g2', g3'⟩ := great_max w3
        have hlt : greatC c ≤ 5 := by
          unfold greatL at g2
          rw [List.mem_filter, mem_rngI] at g2
          apply Classical.byContradiction
          intro z
          have e6 : greatC c = 6 := by omega
          have : found c 6 = [] := by
            rw [List.eq_nil_iff_forall_not_mem]
            intro y hy
            have ho := (mem_found.mp hy).2.2
            obtain ⟨r, hr⟩ := out_iff.mp ho
            have h7 := ((mem_all w).mp hr).2.2
            rw [okRow_iff] at h7
            have h8 := h7 0 (by rw [((mem_all w).mp hr).1]; omega)
            unfold okAt at h8
            simp at h8
            have := hmax h5 0 (atI r 0) (by omega)
            omega
          rw [e6, this] at g2
          simp at g2
        have a1 : greatC c + 1 ∈ greatL c2 := by
          unfold greatL at g2 ⊢
          rw [List.mem_filter, mem_rngI] at g2 ⊢
          refine ⟨by omega, ?_⟩
          rw [fR _ (by omega), show greatC c + 1 - 1 = greatC c by omega]
          exact g2.2
        have a2 := g3' _ a1
        have a3 : greatC c2 - 1 ∈ greatL c := by
          unfold greatL at g2' ⊢
          rw [List.mem_filter, mem_rngI] at g2' ⊢
          have : 0 ≤ greatC c := by
            unfold greatL at g2
            rw [List.mem_filter, mem_rngI] at g2
            omega
          refine ⟨by omega, ?_⟩
          rw [← fR _ (by omega)]
          exact g2'.2
        have := g3 _ a3
        omega
      have ql : ∀ st, callT T "greatest_draught" [chD c2] st = .ok (.int (greatC c + 1)) st := fun st => by rw [hGreat c2 st w3, gR]
      have qm : ∀ x st, 1 ≤ x → x ≤ 6 → callT T "hours_out" [chD c2, .int x] st = .ok (intsD (found c (x - 1))) st := fun x st a b => by rw [hHours c2 x st w3 (by omega) b, fR x a]
      have hr2 : -1000000 ≤ (1 : Int) ∧ (1 : Int) ≤ 1000000 ∧ -1000000 ≤ (7 : Int) ∧ (7 : Int) ≤ 1000000 := by omega
      simp [h5, it2 hr2]
      rw [seq_seq]
      refine for_seq D.int (fun l env st' => ∃ o6, env = [some (.scr ns), some (.ref 0), some (chD c), some (.int (perC c)), some (.int s), some (chD (shC c s)), o6, o7, some (.int h), some (rowsT (allFrom c d h)), some (rowsT ((allFrom c d h).map fun r => r.map (· + s))), none, none, some (optI (homeC c d h 5)), some (chD c2), none] ∧ st' = st4) (fun _ _ _ _ => noref_der rfl _ _) ⟨some (.int d), rfl, rfl⟩ ?step2 ?rest2
      case step2 =>
        rintro l x r env st' el ⟨o6, rfl, rfl⟩ Q hQ
        have hx : x ∈ rngI 1 6 := by rw [el]; simp
        rw [mem_rngI] at hx
        simp [qm x _ (by omega) (by omega), q3 (x - 1) _ (by omega) (by omega), ne_ints]
        exact Ok.ok (hQ _ _ ⟨_, rfl, rfl⟩)
      case rest2 =>
        rintro env st' ⟨o6, rfl, rfl⟩
        simp [ql, q7, qi, qj, qk]
        exact Ok.ok (hZ _ _ (leave_law _ _))
    · simp [h5, qi, qj, qk]
      exact Ok.ok (hZ _ _ (leave_law _ _))
end TW
/-! L15: parts of channels, plainly. -/
namespace TW
open PySem (Str Operator CmpOp)
variable {T : Tab}
/-! ### a single bar -/
def sngC (b : List Int) : Chan := ⟨[b], [], []⟩
theorem sng_wf {b : List Int} (h : 1 ≤ b.length ∧ b.length ≤ 8 ∧ ∀ x ∈ b, 0 ≤ x ∧ x ≤ 6) : WF (sngC b) :=
  ⟨by simp [sngC], by simp [sngC], fun x hx => by simp [sngC] at hx; subst hx; exact h, by simp [sngC], by simp [sngC], by simp [sngC], by simp [sngC]⟩
theorem sng_per (b : List Int) : perC (sngC b) = b.length := by simp [perC, sngC, Nat.lcm_one_left]
theorem one_out {c : Chan} (hn : c.bars.length = 1) (d h : Int) : isOut c d h = decide (d ≤ depB (barC c 0) h) := by
  unfold isOut allFrom
  rw [hn]
  show (!(if d ≤ depB (barC c 0) h then [[h]] else []).isEmpty) = _
  by_cases q : d ≤ depB (barC c 0) h <;> simp [q]
theorem one_great {c : Chan} (w : WF c) (hn : c.bars.length = 1) (hp : perC c = (barC c 0).length) : some (greatC c) = maxI (barC c 0) ∧ some (sureC c) = minI (barC c 0) := by
  have gb := barC_some (c := c) (k := 0) (by omega)
  have hb := w.at gb
  have hne : barC c 0 ≠ [] := fun z => by have := hb.1; rw [z] at this; simp at this
  have atD : ∀ x ∈ barC c 0, ∃ t, 0 ≤ t ∧ t < (perC c : Int) ∧ depB (barC c 0) t = x := by
    intro x hx
    obtain ⟨k, hk, e⟩ := List.mem_iff_getElem.mp hx
    exact ⟨(k : Int), by omega, by omega, by rw [depB_nat hk]; exact e⟩
  obtain ⟨m, m1, m2, m3⟩ := maxI_sp hne
  obtain ⟨n, n1, n2, n3⟩ := minI_sp hne
  obtain ⟨_, g2, g3⟩ := great_max w
  obtain ⟨_, s2, s3⟩ := sure_max w
  rw [m1, n1]
  unfold greatL at g2 g3
  unfold sureL at s2 s3
  rw [List.mem_filter, mem_rngI] at g2 s2
  have hm6 := hb.2.2.1 m m2
  have hn6 := hb.2.2.1 n n2
  constructor
  · congr 1
    have a1 : m ≤ greatC c := by
      refine g3 m ?_
      rw [List.mem_filter, mem_rngI]
      refine ⟨by omega, ?_⟩
      obtain ⟨t, t0, t1, e⟩ := atD m m2
      have : t ∈ found c m := mem_found.mpr ⟨t0, t1, by rw [one_out hn]; simp [e]⟩
      cases hf : found c m with
      | nil => rw [hf] at this; cases this
      | cons => rfl
    have a2 : greatC c ≤ m := by
      have : found c (greatC c) ≠ [] := by
        intro z
        have := g2.2
        rw [z] at this; simp at this
      obtain ⟨t, ht⟩ := List.exists_mem_of_ne_nil _ this
      have := (mem_found.mp ht).2.2
      rw [one_out hn] at this
      simp at this
      exact Int.le_trans this (m3 _ (depB_mem hb.1))
    omega
  · congr 1
    have a1 : n ≤ sureC c := by
      refine s3 n ?_
      rw [List.mem_filter, mem_rngI]
      refine ⟨by omega, ?_⟩
      rw [← found_all, List.all_eq_true]
      intro t _
      rw [one_out hn]
      exact decide_eq_true (n3 _ (depB_mem hb.1))
    have a2 : sureC c ≤ n := by
      have h1 := s2.2
      rw [← found_all, List.all_eq_true] at h1
      obtain ⟨t, t0, t1, e⟩ := atD n n2
      have := h1 t (mem_rngI.mpr ⟨t0, by omega⟩)
      rw [one_out hn] at this
      simp [e] at this
      exact this
    omega
theorem one_need {c : Chan} (w : WF c) (hn : c.bars.length = 1) {m : Int} (hm : minI (barC c 0) = some m) : needL c = if m < 6 then [] else [0] := by
  have gb := barC_some (c := c) (k := 0) (by omega)
  have hb := w.at gb
  obtain ⟨m2, m3⟩ := minI_mem hm
  have hm6 := hb.2.2.1 m m2
  have pf := perC_facts w
  have hp : (perC c : Int) = (barC c 0).length := by
    have : c.bars = [barC c 0] := by
      apply List.ext_getElem?
      intro i
      cases i with
      | zero => rw [gb]; rfl
      | succ i => rw [List.getElem?_eq_none (by omega)]; simp
    unfold perC
    rw [this]
    simp [Nat.lcm_one_left]
  have wd := w.deep 0
  have dn : (deepC c 0).bars.length = 1 := by simp [deepC, hn]
  have bd : barC (deepC c 0) 0 = List.replicate (barC c 0).length 6 := by
    unfold barC deepC
    simp only
    rw [List.getElem?_set_self (by omega)]
    rfl
  have od : ∀ d t, d ≤ 6 → isOut (deepC c 0) d t = true := fun d t hd => by
    rw [one_out dn, bd]
    have : depB (List.replicate (barC c 0).length 6) t = 6 := List.eq_of_mem_replicate (depB_mem (b := List.replicate (barC c 0).length 6) (by simp; exact hb.1))
    rw [this]
    exact decide_eq_true hd
  have key : isNeed c 0 = !decide (m < 6) := by
    rw [Bool.eq_iff_iff]
    unfold isNeed
    rw [List.all_eq_true]
    constructor
    · intro h
      have h6 := h 6 (mem_rngI.mpr ⟨by omega, by omega⟩)
      rw [decide_eq_true_eq, found_eq_iff w wd (per_deep c 0).symm] at h6
      obtain ⟨k, hk, e⟩ := List.mem_iff_getElem.mp m2
      have := h6 (k : Int)
      rw [od 6 _ (by omega), one_out hn, depB_nat hk, e] at this
      simp at this
      simp
      omega
    · intro h x hx
      rw [mem_rngI] at hx
      simp at h
      rw [decide_eq_true_eq, found_eq_iff w wd (per_deep c 0).symm]
      intro t
      rw [od x t (by omega), one_out hn]
      have := m3 _ (depB_mem (h := t) hb.1)
      exact decide_eq_true (by omega)
  unfold needL
  rw [hn]
  show (List.filter _ [0 + ((0 : Nat) : Int)]) = _
  simp only [List.filter_cons, List.filter_nil]
  show (if isNeed c 0 = true then [0 + ((0 : Nat) : Int)] else []) = _
  rw [key]
  by_cases q : m < 6 <;> simp [q]
/-! ### the beginning -/
def begC (c : Chan) : Chan := ⟨c.bars.dropLast, c.legs.dropLast, c.waits.dropLast⟩
theorem beg_wf {c : Chan} (w : WF c) (h2 : 2 ≤ c.bars.length) : WF (begC c) := by
  have := w.nl
  have := w.nw
  have := w.n3
  exact ⟨by simp [begC]; omega, by simp [begC]; omega, fun b hb => w.bar b (List.dropLast_subset _ hb), by simp [begC]; omega, fun x hx => w.leg x (List.dropLast_subset _ hx), by simp [begC]; omega, fun x hx => w.wait x (List.dropLast_subset _ hx)⟩
theorem dropLast_get {α : Type} {xs : List α} {k : Nat} (h : k + 1 < xs.length) : xs.dropLast[k]? = xs[k]? := by
  rw [List.getElem?_eq_getElem (by simp; omega), List.getElem?_eq_getElem (by omega)]
  simp
theorem beg_rows {c : Chan} (w : WF c) (d h : Int) : ∀ k, k + 1 < c.bars.length → rowsTo (begC c) d h k = rowsTo c d h k
  | 0, hk => by
    unfold rowsTo
    have : barC (begC c) 0 = barC c 0 := by unfold barC begC; simp only; rw [dropLast_get hk]
    rw [this]
  | k + 1, hk => by
    have ih := beg_rows w d h k (by omega)
    have e1 : barC (begC c) (k + 1) = barC c (k + 1) := by unfold barC begC; simp only; rw [dropLast_get hk]
    have e2 : legC (begC c) k = legC c k := by unfold legC begC; simp only; rw [dropLast_get (by have := w.nl; omega)]
    have e3 : waitC (begC c) k = waitC c k := by unfold waitC begC; simp only; rw [dropLast_get (by have := w.nw; omega)]
    unfold rowsTo ext1
    rw [ih, e1, e2, e3]
theorem beg_all {c : Chan} (w : WF c) (h2 : 2 ≤ c.bars.length) (d h : Int) : allFrom c d h = ext1 c d (c.bars.length - 2) (allFrom (begC c) d h) := by
  unfold allFrom
  have e : (begC c).bars.length - 1 = c.bars.length - 2 := by simp [begC]; omega
  rw [e, beg_rows w d h _ (by omega)]
  obtain ⟨n, hn⟩ : ∃ n, c.bars.length = n + 2 := ⟨c.bars.length - 2, by omega⟩
  rw [hn]
  rfl
theorem beg_out {c : Chan} (w : WF c) (h2 : 2 ≤ c.bars.length) {d h : Int} (ho : isOut c d h = true) : isOut (begC c) d h = true := by
  obtain ⟨r, hr⟩ := out_iff.mp ho
  rw [beg_all w h2] at hr
  unfold ext1 at hr
  rw [List.mem_filter, List.mem_flatMap] at hr
  obtain ⟨⟨p, hp, _⟩, _⟩ := hr
  exact out_iff.mpr ⟨p, hp⟩
theorem great_le {c c' : Chan} (w : WF c) (w' : WF c') (h : ∀ d t, isOut c d t = true → isOut c' d t = true) : greatC c ≤ greatC c' := by
  obtain ⟨_, g2, _⟩ := great_max w
  obtain ⟨_, _, g3⟩ := great_max w'
  refine g3 _ ?_
  unfold greatL at g2 ⊢
  rw [List.mem_filter] at g2 ⊢
  refine ⟨g2.1, ?_⟩
  have : found c (greatC c) ≠ [] := fun z => by have := g2.2; rw [z] at this; simp at this
  obtain ⟨t, ht⟩ := List.exists_mem_of_ne_nil _ this
  have := (mod_found w' (greatC c) t).mpr (h _ t (mem_found.mp ht).2.2)
  cases hf : found c' (greatC c) with
  | nil => rw [hf] at this; cases this
  | cons => rfl
theorem sure_le {c c' : Chan} (w : WF c) (w' : WF c') (h : ∀ d t, isOut c d t = true → isOut c' d t = true) : sureC c ≤ sureC c' := by
  obtain ⟨_, g2, _⟩ := sure_max w
  obtain ⟨_, _, g3⟩ := sure_max w'
  refine g3 _ ?_
  unfold sureL at g2 ⊢
  rw [List.mem_filter] at g2 ⊢
  refine ⟨g2.1, ?_⟩
  have hall := g2.2
  rw [← found_all, List.all_eq_true] at hall
  rw [← found_all, List.all_eq_true]
  intro t _
  have hp := (perC_facts w).1
  refine h _ t ?_
  rw [← out_mod w]
  exact hall _ (mem_rngI.mpr ⟨Int.emod_nonneg _ (by omega), by have := Int.emod_lt_of_pos t (show (0 : Int) < perC c by omega); omega⟩)
theorem cut_m1 {α : Type} (xs : List α) (h : 1 ≤ xs.length) : cut xs none (some (-1)) = xs.dropLast := by
  unfold cut clip
  simp
  rw [List.dropLast_eq_take]
  congr 1
  omega
theorem slcT_m1 {xs : List D} (h : 1 ≤ xs.length) : slcop (.tup xs) none (some (-1)) = some (.tup xs.dropLast) := by
  show some (D.tup (cut xs none (some (-1)))) = _
  rw [cut_m1 xs h]
theorem slc_m1 {xs : List Int} (h : 1 ≤ xs.length) : slcop (intsD xs) none (some (-1)) = some (intsD xs.dropLast) := by
  show some (D.tup (cut (xs.map D.int) none (some (-1)))) = _
  rw [cut_m1 _ (by simpa using h)]
  unfold intsD
  rw [List.map_dropLast]
theorem Tn.grow {ns : List Int} {b : Int} {tl st : Store} (h : Tn ns b tl st) (x : Store) : Tn ns b (tl ++ x) (st ++ x) := by
  obtain ⟨n, rest, e, h1, h2, h3⟩ := h
  exact ⟨n, rest, by rw [e]; rfl, h1, h2, h3⟩
theorem law_k15 (hTown : S_town (callT T "_law_town")) (hDraw : S_draw (callT T "_law_draw")) (hChan : S_chan (callT T "_law_channel")) (hHours : S_hours (callT T "hours_out")) (hDelay : S_delay (callT T "longest_delay")) (hGreat : S_int greatC (callT T "greatest_draught")) (hSure : S_int sureC (callT T "sure_draught")) (hNeed : S_need (callT T "needless_bars")) (hPass : S_passes (callT T "passages")) (hCan : S_can (callT T "can_pass")) (hPer : S_per (callT T "period")) (ns : List Int) (hns : ns.length ≤ 63) :
    runDef T d_k15 [.scr ns] [] = .ok (.bl true) [] := by
  have t0 : Tn ns 0 [] [.lst (.int 0 :: ns.map .int)] := ⟨0, ns, rfl, by omega, by omega, rfl⟩
  obtain ⟨_, st1, e1, c, rfl, w, hk, hm, t1⟩ := hChan ns 0 [] _ 3 5 hns t0 (by unfold big; omega) (by omega) (by omega) (by omega) (by omega)
  obtain ⟨_, st2, e2, d, rfl, d0, d6, t2⟩ := hDraw ns _ [] st1 6 hns t1 (by unfold big; omega) (by omega) (by omega)
  have n1 := w.n1
  have n3 := w.n3
  have gb := barC_some (c := c) (k := 0) (by omega)
  have hb := w.at gb
  have ws := sng_wf (b := barC c 0) ⟨hb.1, hb.2.1, hb.2.2.1⟩
  have u1 : ∀ env : Env, kUnp2 env [3, 4, 5] (chD c) = fun st => .ok (.next (((env.set 3 (some (.tup (c.bars.map intsD)))).set 4 (some (intsD c.legs))).set 5 (some (intsD c.waits)))) st := fun env => rfl
  have es : D.tup [.tup [intsD (barC c 0)], .tup [], .tup []] = chD (sngC (barC c 0)) := rfl
  have q1 : ∀ st, callT T "hours_out" [chD (sngC (barC c 0)), .int d] st = .ok (intsD (found (sngC (barC c 0)) d)) st := fun st => hHours _ d st ws (by omega) (by omega)
  have ef : found (sngC (barC c 0)) d = (rngI 0 (barC c 0).length).filter fun k => decide (d ≤ depB (barC c 0) k) := by
    unfold found
    rw [sng_per]
    refine List.filter_congr fun k _ => ?_
    rw [one_out rfl]
    rfl
  obtain ⟨og, os⟩ := one_great ws rfl (sng_per _)
  have hb0 : barC (sngC (barC c 0)) 0 = barC c 0 := rfl
  rw [hb0] at og os
  have q2 : ∀ st, callT T "greatest_draught" [chD (sngC (barC c 0))] st = .ok (.int (greatC (sngC (barC c 0)))) st := fun st => hGreat _ st ws
  have q3 : ∀ st, callT T "sure_draught" [chD (sngC (barC c 0))] st = .ok (.int (sureC (sngC (barC c 0)))) st := fun st => hSure _ st ws
  have mx : bltin "max" [intsD (barC c 0)] = some (.int (greatC (sngC (barC c 0)))) := by rw [b_maxT, ← og]; rfl
  have mn : bltin "min" [intsD (barC c 0)] = some (.int (sureC (sngC (barC c 0)))) := by rw [b_minT, ← os]; rfl
  have hr0 : -1000000 ≤ ((barC c 0).length : Int) ∧ ((barC c 0).length : Int) ≤ 1000000 := by omega
  simp [runDef, d_k15, hTown ns hns, e1, e2, u1, ix_bars, gb, es, q1, it1 hr0]
  rw [lc_fm (F := D.int) (fun k => decide (d ≤ depB (barC c 0) k)) D.int ?g1]
  case g1 =>
    intro x hx
    rw [mem_rngI] at hx
    obtain ⟨k, rfl⟩ : ∃ k : Nat, x = (k : Int) := ⟨x.toNat, by omega⟩
    have gk : (barC c 0)[k]? = some (depB (barC c 0) (k : Int)) := by
      rw [depB_nat (by omega), List.getElem?_eq_getElem]
    by_cases hq : d ≤ depB (barC c 0) (k : Int) <;> simp [ix_bars, gb, ix_ints, gk, hq]
  have eL : D.tup (((rngI 0 (barC c 0).length).filter fun k => decide (d ≤ depB (barC c 0) k)).map D.int) = intsD (found (sngC (barC c 0)) d) := by rw [ef]; rfl
  simp [eL, ne_ints, q2, q3, ix_bars, gb, mx, mn]
  have r6 : (-1000000 : Int) ≤ 6 ∧ (6 : Int) ≤ 1000000 := by omega
  by_cases hone : c.bars.length = 1
  · have hone' : ((c.bars.length : Int) == 1) = true := by simp; omega
    have hnd : ∀ st, callT T "needless_bars" [chD c] st = .ok (intsD (needL c)) st := fun st => hNeed c st w
    have nl := one_need w hone os.symm
    have e0 : D.tup [] = intsD [] := rfl
    have e00 : D.tup [.int 0] = intsD [0] := rfl
    by_cases h6 : sureC (sngC (barC c 0)) < 6
    · rw [if_pos h6] at nl
      simp [hone', hnd, ix_bars, gb, mn, h6, nl, e0, eq_ints]
      exact leave_law _ _
    · rw [if_neg h6] at nl
      simp [hone', hnd, ix_bars, gb, mn, h6, nl, e00, eq_ints]
      exact leave_law _ _
  · have h2 : 2 ≤ c.bars.length := by omega
    have hone' : ((c.bars.length : Int) == 1) = false := by simp; omega
    have hl := w.nl
    have hw := w.nw
    have wb := beg_wf w h2
    have eb : D.tup [.tup (c.bars.map intsD).dropLast, intsD c.legs.dropLast, intsD c.waits.dropLast] = chD (begC c) := by
      rw [← List.map_dropLast]; rfl
    have pfb := perC_facts wb
    have hpb : (0 : Int) < (perC (begC c) : Int) := by omega
    have a1 : ∀ st, callT T "hours_out" [chD (begC c), .int d] st = .ok (intsD (found (begC c) d)) st := fun st => hHours _ d st wb (by omega) (by omega)
    have a2 : ∀ st, callT T "hours_out" [chD c, .int d] st = .ok (intsD (found c d)) st := fun st => hHours _ d st w (by omega) (by omega)
    have a3 : ∀ st, callT T "period" [chD (begC c)] st = .ok (.int (perC (begC c))) st := fun st => hPer _ st wb
    have a4 : ∀ st, callT T "longest_delay" [chD (begC c), .int d] st = .ok (optI (delayC (begC c) d)) st := fun st => hDelay _ d st wb (by omega) (by omega)
    have a5 : ∀ st, callT T "longest_delay" [chD c, .int d] st = .ok (optI (delayC c d)) st := fun st => hDelay _ d st w (by omega) (by omega)
    have a6 : ∀ st, callT T "greatest_draught" [chD (begC c)] st = .ok (.int (greatC (begC c))) st := fun st => hGreat _ st wb
    have a7 : ∀ st, callT T "greatest_draught" [chD c] st = .ok (.int (greatC c)) st := fun st => hGreat _ st w
    have a8 : ∀ st, callT T "sure_draught" [chD (begC c)] st = .ok (.int (sureC (begC c))) st := fun st => hSure _ st wb
    have a9 : ∀ st, callT T "sure_draught" [chD c] st = .ok (.int (sureC c)) st := fun st => hSure _ st w
    have gle := great_le w wb fun d t => beg_out w h2
    have sle := sure_le w wb fun d t => beg_out w h2
    generalize hn2 : c.bars.length - 2 = n2
    have gl := legC_some (c := c) (k := n2) (by omega)
    have gw := waitC_some (c := c) (k := n2) (by omega)
    have gbl := barC_some (c := c) (k := n2 + 1) (by omega)
    have hwt := w.wait _ (List.mem_of_getElem? gw)
    have hlg := w.leg _ (List.mem_of_getElem? gl)
    have pw : pick c.waits ((c.waits.length : Int) - 1) = some (waitC c n2) := by
      rw [show ((c.waits.length : Int) - 1) = (n2 : Int) by omega, pick_nat]; exact gw
    have pl : pick c.legs ((c.legs.length : Int) - 1) = some (legC c n2) := by
      rw [show ((c.legs.length : Int) - 1) = (n2 : Int) by omega, pick_nat]; exact gl
    have hwr : -1000000 ≤ waitC c n2 + 1 ∧ waitC c n2 + 1 ≤ 1000000 := by omega
    simp [hone', slcT_m1 (xs := c.bars.map intsD) (by simp; omega), slc_m1 (xs := c.legs) (by omega), slc_m1 (xs := c.waits) (by omega), eb, it_r1 r6, -List.map_dropLast]
    refine lv_ok fun Z hZ => ?_
    unfold rngD
    refine for_seq (fun k : Nat => D.int (0 + (k : Int))) (fun l env st => ∃ o8 o10 o11 o12 o13 o14 tl, env = [some (.scr ns), some (.ref 0), some (chD c), some (.tup (c.bars.map intsD)), some (intsD c.legs), some (intsD c.waits), some (chD (sngC (barC c 0))), some (.int d), o8, some (chD (begC c)), o10, o11, o12, o13, o14, none, none] ∧ Tn ns (2000 + (l.length : Int)) tl st) (fun _ _ _ _ => noref_der rfl _ _) ⟨none, none, none, none, none, none, [], rfl, t2.mono (by simp)⟩ ?step ?rest
    case step =>
      rintro l k r env st el ⟨o8, o10, o11, o12, o13, o14, tl, rfl, t⟩ Q hQ
      have hlen : l.length < 6 := by
        have := congrArg List.length el
        simp at this
        omega
      obtain ⟨_, st3, e3, h, rfl, h0, h3, t3⟩ := hDraw ns _ tl st 300 hns t (by unfold big; omega) (by omega) (by omega)
      have b1 : ∀ st, callT T "passages" [chD (begC c), .int d, .int h] st = .ok (rowsT (allFrom (begC c) d h)) st := fun st => hPass _ d h st wb (by omega) (by omega) (by omega) (by omega)
      have b2 : ∀ st, callT T "passages" [chD c, .int d, .int h] st = .ok (rowsT (allFrom c d h)) st := fun st => hPass _ d h st w (by omega) (by omega) (by omega) (by omega)
      have hcnt : (allFrom (begC c) d h).length ≤ 16 := by
        have nb3 := wb.n3
        have := rows_cnt wb d h ((begC c).bars.length - 1) (by have := wb.n1; omega)
        have h4 : 4 ^ ((begC c).bars.length - 1) ≤ 16 := Nat.le_trans (Nat.pow_le_pow_right (by omega) (show (begC c).bars.length - 1 ≤ 2 by omega)) (by decide)
        unfold allFrom
        omega
      simp [e3, b1]
      refine for_seq intsD (fun rs env st' => ∃ (o12 o13 o14 : Option D), st' = st3 ++ [.lst ((keepR c d n2 rs).map intsD)] ∧ env = [some (.scr ns), some (.ref 0), some (chD c), some (.tup (c.bars.map intsD)), some (intsD c.legs), some (intsD c.waits), some (chD (sngC (barC c 0))), some (.int d), some (.int (k : Int)), some (chD (begC c)), some (.int h), some (.ref st3.length), o12, o13, o14, none, none]) (fun _ _ _ _ => noref_der rfl _ _) ⟨o12, o13, o14, rfl, rfl⟩ ?st2 ?rest2
      case st2 =>
        rintro rs row rr env _ ers ⟨o12, o13, o14, rfl, rfl⟩ Q2 hQ2
        have hrow : row ∈ allFrom (begC c) d h := by rw [ers]; simp
        have hrl := rows_len (begC c) d h _ row hrow
        have hne : row ≠ [] := all_ne hrow
        have hbd := all_bounds wb hrow _ (lastI_mem hne)
        have hrl2 : row.length ≤ 100 := by have := wb.n3; have := ((mem_all wb).mp hrow).1; omega
        have hrsl : rs.length < 16 := by
          have := congrArg List.length ers
          simp at this
          omega
        have hkl := keepR_len (c := c) (k := n2) (by omega) d rs
        simp [ix_ints, pw, it_r1 hwr]
        unfold rngD
        refine for_seq (fun m : Nat => D.int (0 + (m : Int))) (fun ms env st' => ∃ (o13 o14 : Option D), st' = st3 ++ [.lst ((keepR c d n2 rs ++ keep1 c d n2 row ms).map intsD)] ∧ env = [some (.scr ns), some (.ref 0), some (chD c), some (.tup (c.bars.map intsD)), some (intsD c.legs), some (intsD c.waits), some (chD (sngC (barC c 0))), some (.int d), some (.int (k : Int)), some (chD (begC c)), some (.int h), some (.ref st3.length), some (intsD row), o13, o14, none, none]) (fun _ _ _ _ => noref_der rfl _ _) ⟨o13, o14, by simp [keep1], rfl⟩ ?st3 ?rest3
        case st3 =>
          rintro ms m mr env _ ems ⟨o13, o14, rfl, rfl⟩ Q3 hQ3
          obtain ⟨hm1, hm2⟩ := range_split ems
          have hml : ms.length < 4 := by omega
          have hk1 := keep1_len c d n2 row ms
          have hl2 : ((keepR c d n2 rs ++ keep1 c d n2 row ms).map intsD).length < lim := by
            rw [List.length_map, List.length_append]
            unfold lim
            omega
          have b3 : ∀ st, callT T "can_pass" [chD c, .int ((c.bars.length : Int) - 1), .int d, .int (lastI row + legC c n2 + (m : Int))] st = .ok (.bl (decide (d ≤ depB (barC c (n2 + 1)) (lastI row + legC c n2 + (m : Int))))) st := fun st => by
            rw [show ((c.bars.length : Int) - 1) = ((n2 + 1 : Nat) : Int) by omega]
            exact hCan c (n2 + 1) _ d _ st w gbl (by omega) (by omega) (by omega) (by omega)
          by_cases hd : d ≤ depB (barC c (n2 + 1)) (lastI row + legC c n2 + (m : Int))
          · have ek1 : keep1 c d n2 row (ms ++ [m]) = keep1 c d n2 row ms ++ [row ++ [lastI row + legC c n2 + (m : Int)]] := by
              unfold keep1
              rw [List.map_append, List.filter_append]
              simp [lastI_append, hd]
            have hl2' := hl2
            simp only [List.map_append] at hl2'
            simp [ix_ints, pl, pick_last hne, b3, hd, add_ints hrl2, app_top hl2']
            refine Ok.ok (hQ3 _ _ ⟨some (.int (m : Int)), some (.int (lastI row + legC c n2 + (m : Int))), ?_, rfl⟩)
            rw [ek1]
            simp
          · have ek1 : keep1 c d n2 row (ms ++ [m]) = keep1 c d n2 row ms := by
              unfold keep1
              rw [List.map_append, List.filter_append]
              simp [lastI_append, hd]
            simp [ix_ints, pl, pick_last hne, b3, hd]
            refine Ok.ok (hQ3 _ _ ⟨some (.int (m : Int)), some (.int (lastI row + legC c n2 + (m : Int))), ?_, rfl⟩)
            rw [ek1]
            simp
        case rest3 =>
          rintro env' st' ⟨o13, o14, rfl, rfl⟩
          simp
          exact Ok.ok (hQ2 _ _ ⟨_, _, _, by rw [keepR_snoc, List.map_append], rfl⟩)
      case rest2 =>
        rintro env' st' ⟨o12, o13, o14, rfl, rfl⟩
        have er : keepR c d n2 (allFrom (begC c) d h) = allFrom c d h := by rw [keepR_ext, beg_all w h2, hn2]
        rw [er]
        have er2 : D.lst ((allFrom c d h).map intsD) = rowsD (allFrom c d h) := rfl
        have hs := sorted_rows (rows := allFrom c d h) (rows_lt c d h _) fun r hr => all_ne hr
        simp [b2, er2, hs]
        refine Ok.ok (hQ _ _ ⟨some (.int (k : Int)), some (.int h), some (.ref st3.length), o12, o13, o14, tl ++ [.lst ((allFrom c d h).map intsD)], rfl, ?_⟩)
        exact (t3.grow _).mono (by simp; omega)
    case rest =>
      rintro env st ⟨o8, o10, o11, o12, o13, o14, tl, rfl, t⟩
      simp [a1, a2]
      rw [lcL_none ?g2]
      case g2 =>
        intro x hx
        have hx' := mem_found.mp hx
        have : x % (perC (begC c) : Int) ∈ found (begC c) d := (mod_found wb d x).mpr (beg_out w h2 hx'.2.2)
        simp [a3, o_mod hpb, notin_ints, this]
      have gle' : greatC c ≤ greatC (begC c) := gle
      by_cases hf : found c d = []
      · have hdc := delay_none hf
        rw [hdc] at a5
        cases hd : delayC (begC c) d with
        | none =>
          rw [hd] at a4
          simp [a4, a5, a6, a7, a8, a9, gle, sle]
          exact Ok.ok (hZ _ _ (leave_law _ _))
        | some m =>
          rw [hd] at a4
          simp [a4, a5, a6, a7, a8, a9, gle, sle]
          exact Ok.ok (hZ _ _ (leave_law _ _))
      · obtain ⟨m, m1, m2⟩ := delay_spec w hf
        have hfb : found (begC c) d ≠ [] := by
          obtain ⟨x, hx⟩ := List.exists_mem_of_ne_nil _ hf
          exact List.ne_nil_of_mem ((mod_found wb d x).mpr (beg_out w h2 (mem_found.mp hx).2.2))
        obtain ⟨m', m1', m2'⟩ := delay_spec wb hfb
        have hle := m2.le m2' fun t => beg_out w h2
        have hle' : ¬ m < m' := by omega
        rw [m1] at a5
        rw [m1'] at a4
        simp [a4, a5, a6, a7, a8, a9, gle, sle, hle']
        exact Ok.ok (hZ _ _ (leave_law _ _))
end TW
/-! L12: needless bars, plainly. -/
namespace TW
open PySem (Str Operator CmpOp)
variable {T : Tab}
def S_ischF (f : Fn) : Prop := ∀ (c : Chan) (st : Store), 3 < c.bars.length → f [chD c] st = .ok (.bl false) st
theorem r_ischF : S_ischF (runDef T d_is_channel) := by
  intro c st h
  have h1 : (1 : Int) ≤ (c.bars.length : Int) := by omega
  have h2 : ¬ (c.bars.length : Int) ≤ 3 := by omega
  simp [runDef, d_is_channel, isTy, chD, h1, h2]
theorem mem_need {c : Chan} {k : Nat} (hk : k < c.bars.length) : ((k : Int) ∈ needL c) ↔ isNeed c k = true := by
  unfold needL
  rw [List.mem_filter, mem_rngI]
  simp
  intro _
  omega
theorem need_lt (c : Chan) : (needL c).Pairwise (· < ·) := (rngI_lt 0 _).filter _
theorem deep_deep {c : Chan} {k : Nat} (hk : k < c.bars.length) : deepC (deepC c k) k = deepC c k := by
  unfold deepC barC
  simp only [List.set_set]
  rw [List.getElem?_set_self hk]
  simp
theorem need_self {c : Chan} {k : Nat} (h : deepC c k = c) : isNeed c k = true := by
  unfold isNeed
  rw [h]
  simp
theorem deep_same {c : Chan} {k : Nat} (hk : k < c.bars.length) (h : barC c k = List.replicate (barC c k).length 6) : deepC c k = c := by
  unfold deepC
  have : c.bars.set k (List.replicate (barC c k).length 6) = c.bars := by
    rw [← h]
    apply List.ext_getElem?
    intro i
    rw [List.getElem?_set]
    split
    · rename_i e
      subst e
      first | exact (barC_some hk).symm | (rw [if_pos hk]; exact (barC_some hk).symm)
    · rfl
  rw [this]
theorem deep_out {c : Chan} (w : WF c) {k : Nat} (hk : k < c.bars.length) {d t : Int} (ho : isOut c d t = true) : isOut (deepC c k) d t = true := by
  refine out_deeper w (w.deep k) rfl rfl (by simp [deepC]) (fun j u hj => ?_) ho
  have h6 := w.dep hj u
  by_cases e : k = j
  · subst e
    have : barC (deepC c k) k = List.replicate (barC c k).length 6 := by
      unfold barC deepC
      simp only
      rw [List.getElem?_set_self hk]
      rfl
    rw [this]
    have hb := (w.at (barC_some hk)).1
    have e6 : depB (List.replicate (barC c k).length 6) u = 6 := List.eq_of_mem_replicate (depB_mem (b := List.replicate (barC c k).length 6) (by simp; exact hb))
    omega
  · have : barC (deepC c k) j = barC c j := by
      unfold barC deepC
      simp only
      rw [List.getElem?_set_ne e]
    rw [this]
    omega
def wideC (c : Chan) : Chan := ⟨c.bars ++ [[6, 6, 6]], c.legs ++ [2], c.waits ++ [1]⟩
theorem wide_wf {c : Chan} (w : WF c) (h : c.bars.length < 3) : WF (wideC c) := by
  refine ⟨by simp [wideC], by simp [wideC]; omega, fun b hb => ?_, by simp [wideC, w.nl], fun x hx => ?_, by simp [wideC, w.nw], fun x hx => ?_⟩
  · simp only [wideC, List.mem_append, List.mem_singleton] at hb
    rcases hb with q | q
    · exact w.bar b q
    · subst q
      refine ⟨by simp, by simp, fun x hx => ?_⟩
      simp at hx
      omega
  · simp only [wideC, List.mem_append, List.mem_singleton] at hx
    rcases hx with q | q
    · exact w.leg x q
    · omega
  · simp only [wideC, List.mem_append, List.mem_singleton] at hx
    rcases hx with q | q
    · exact w.wait x q
    · omega
theorem wide_beg (c : Chan) : begC (wideC c) = c := by
  unfold begC wideC
  simp
theorem wide_bar (c : Chan) : barC (wideC c) c.bars.length = [6, 6, 6] := by
  unfold barC wideC
  simp
theorem wide_out {c : Chan} (w : WF c) (h : c.bars.length < 3) {d t : Int} (hd : d ≤ 6) : isOut (wideC c) d t = isOut c d t := by
  have n1 := w.n1
  have ww := wide_wf w h
  have h2 : 2 ≤ (wideC c).bars.length := by simp [wideC]; omega
  rw [Bool.eq_iff_iff]
  constructor
  · intro ho
    have := beg_out ww h2 ho
    rwa [wide_beg] at this
  · intro ho
    obtain ⟨r, hr⟩ := out_iff.mp ho
    refine out_iff.mpr ⟨r ++ [lastI r + legC (wideC c) (c.bars.length - 1) + ((0 : Nat) : Int)], ?_⟩
    have e : (wideC c).bars.length - 2 = c.bars.length - 1 := by simp [wideC]
    rw [beg_all ww h2, wide_beg, e]
    unfold ext1
    rw [List.mem_filter, List.mem_flatMap]
    have gw := ww.wait _ (List.mem_of_getElem? (waitC_some (c := wideC c) (k := c.bars.length - 1) (by have h1 := w.nw; simp [wideC]; omega)))
    refine ⟨⟨r, hr, ?_⟩, ?_⟩
    · unfold more1
      exact List.mem_map.mpr ⟨0, List.mem_range.mpr (by omega), rfl⟩
    · rw [show c.bars.length - 1 + 1 = c.bars.length by omega, wide_bar]
      have : depB [6, 6, 6] (lastI (r ++ [lastI r + legC (wideC c) (c.bars.length - 1) + ((0 : Nat) : Int)])) = 6 := by
        have := depB_mem (b := [6, 6, 6]) (h := lastI (r ++ [lastI r + legC (wideC c) (c.bars.length - 1) + ((0 : Nat) : Int)])) (by simp)
        simpa using this
      rw [this]
      exact decide_eq_true hd
def cEx : Chan := ⟨[[2, 3], [6]], [1], [0]⟩
theorem w_cEx : WF cEx := ⟨by decide, by decide, by decide, by decide, by decide, by decide, by decide⟩
theorem law_k12 (hTown : S_town (callT T "_law_town")) (hChan : S_chan (callT T "_law_channel")) (hLO : S_fhrs (callT T "_law_out")) (hNeed : S_need (callT T "needless_bars")) (hGreat : S_int greatC (callT T "greatest_draught")) (hSure : S_int sureC (callT T "sure_draught")) (hIs : S_isch (callT T "is_channel")) (hIsF : S_ischF (callT T "is_channel")) (hHours : S_hours (callT T "hours_out")) (hPer : S_per (callT T "period")) (ns : List Int) (hns : ns.length ≤ 63) :
    runDef T d_k12 [.scr ns] [] = .ok (.bl true) [] := by
  have t0 : Tn ns 0 [] [.lst (.int 0 :: ns.map .int)] := ⟨0, ns, rfl, by omega, by omega, rfl⟩
  obtain ⟨_, st1, e1, c, rfl, w, hk, hm, t1⟩ := hChan ns 0 [] _ 3 5 hns t0 (by unfold big; omega) (by omega) (by omega) (by omega) (by omega)
  have n1 := w.n1
  have n3 := w.n3
  have u1 : ∀ env : Env, kUnp2 env [3, 4, 5] (chD c) = fun st => .ok (.next (((env.set 3 (some (.tup (c.bars.map intsD)))).set 4 (some (intsD c.legs))).set 5 (some (intsD c.waits)))) st := fun env => rfl
  have q1 : ∀ st, callT T "needless_bars" [chD c] st = .ok (intsD (needL c)) st := fun st => hNeed c st w
  have q2 : ∀ d st, callT T "_law_out" [chD c, .int d] st = .ok (hrsD (found c d)) st := fun d st => hLO c d st w
  have q3 : ∀ st, callT T "greatest_draught" [chD c] st = .ok (.int (greatC c)) st := fun st => hGreat c st w
  have q4 : ∀ st, callT T "sure_draught" [chD c] st = .ok (.int (sureC c)) st := fun st => hSure c st w
  have hbr : -1000000 ≤ (c.bars.length : Int) ∧ (c.bars.length : Int) ≤ 1000000 := by omega
  simp [runDef, d_k12, hTown ns hns, e1, u1, q1, it_r1 hbr]
  refine lv_ok fun Z hZ => ?_
  unfold rngD
  refine for_seq (fun k : Nat => D.int (0 + (k : Int))) (fun l env st => ∃ o7 o8 o9 o10, env = [some (.scr ns), some (.ref 0), some (chD c), some (.tup (c.bars.map intsD)), some (intsD c.legs), some (intsD c.waits), some (intsD (needL c)), o7, o8, o9, o10, none, none, none, none, none, none] ∧ st = st1) (fun _ _ _ _ => noref_der rfl _ _) ⟨none, none, none, none, rfl, rfl⟩ ?step ?rest
  case step =>
    rintro l k r env st el ⟨o7, o8, o9, o10, rfl, rfl⟩ Q hQ
    obtain ⟨hk1, hk2⟩ := range_split el
    clear hk1
    have gb := barC_some hk2
    have hb := w.at gb
    have wd := w.deep k
    have sl2 : slcop (.tup (c.bars.map intsD)) (some ((k : Int) + 1)) none = some (.tup ((c.bars.map intsD).drop (k + 1))) := by
      rw [show ((k : Int) + 1) = ((k + 1 : Nat) : Int) by omega]
      exact slcT_from _ (k + 1)
    have a1 : binop .Add (.tup ((c.bars.map intsD).take k)) (.tup [D.tup (List.replicate (barC c k).length (.int 6))]) = some (.tup ((c.bars.map intsD).take k ++ [D.tup (List.replicate (barC c k).length (.int 6))])) := add_tup (by simp; omega)
    have a2 : binop .Add (.tup ((c.bars.map intsD).take k ++ [D.tup (List.replicate (barC c k).length (.int 6))])) (.tup ((c.bars.map intsD).drop (k + 1))) = some (.tup ((c.bars.map intsD).take k ++ [D.tup (List.replicate (barC c k).length (.int 6))] ++ (c.bars.map intsD).drop (k + 1))) := add_tup (by simp; omega)
    have b1 : ∀ d st, callT T "_law_out" [chD (deepC c k), .int d] st = .ok (hrsD (found (deepC c k) d)) st := fun d st => hLO _ d st wd
    have b2 : ∀ st, callT T "needless_bars" [chD (deepC c k)] st = .ok (intsD (needL (deepC c k))) st := fun st => hNeed _ st wd
    have b3 : ∀ st, callT T "greatest_draught" [chD (deepC c k)] st = .ok (.int (greatC (deepC c k))) st := fun st => hGreat _ st wd
    have b4 : ∀ st, callT T "sure_draught" [chD (deepC c k)] st = .ok (.int (sureC (deepC c k))) st := fun st => hSure _ st wd
    have hin : decide ((k : Int) ∈ needL c) = isNeed c k := by rw [Bool.eq_iff_iff, decide_eq_true_eq, mem_need hk2]
    have hin2 : (k : Int) ∈ needL (deepC c k) := (mem_need (c := deepC c k) (by simp [deepC]; exact hk2)).mpr (need_self (deep_deep hk2))
    have hgl : ¬ greatC (deepC c k) < greatC c := by
      have := great_le w wd fun d t => deep_out w hk2
      omega
    have hsl : ¬ sureC (deepC c k) < sureC c := by
      have := sure_le w wd fun d t => deep_out w hk2
      omega
    have hss : isNeed c k = true → sureC (deepC c k) = sureC c := fun h => by
      unfold isNeed at h
      rw [List.all_eq_true] at h
      unfold sureC sureL
      congr 2
      refine List.filter_congr fun d hd => ?_
      have := h d hd
      rw [decide_eq_true_eq] at this
      rw [← this, per_deep]
    have hfl : ((rngI 0 7).filter fun d => !decide (found c d = found (deepC c k) d)).isEmpty = isNeed c k := by
      unfold isNeed
      rw [Bool.eq_iff_iff, List.isEmpty_iff, List.filter_eq_nil_iff, List.all_eq_true]
      constructor
      · intro h x hx
        have := h x hx
        simpa using this
      · intro h x hx
        have := h x hx
        simpa using this
    have cI : cmpop .In (.int (k : Int)) (intsD (needL c)) = some (isNeed c k) := by rw [in_ints, hin]
    have cN : cmpop .NotIn (.int (k : Int)) (intsD (needL c)) = some (!isNeed c k) := by rw [notin_ints, hin]
    have cN2 : cmpop .NotIn (.int (k : Int)) (intsD (needL (deepC c k))) = some false := by rw [notin_ints]; simp [hin2]
    have eqD : cmpop .Eq (intsD (barC c k)) (.tup (List.replicate (barC c k).length (.int 6))) = some (decide (barC c k = List.replicate (barC c k).length 6)) := by
      rw [show D.tup (List.replicate (barC c k).length (.int 6)) = intsD (List.replicate (barC c k).length 6) by simp [intsD], eq_ints]
    simp only [forT_eq, asgT_nm, forG_ok, List.set_cons_succ, List.set_cons_zero, Int.zero_add]
    simp [ix_bars, gb, mul_tup1 (show (barC c k).length ≤ 1000 by omega), slcT_to, sl2, a1, a2, it1 r7, -List.map_take, -List.map_drop, -List.append_assoc, -List.singleton_append]
    rw [chD_deep hk2]
    rw [lc_fm (F := D.int) (fun d => !decide (found c d = found (deepC c k) d)) D.int ?g1]
    case g1 =>
      intro d _
      by_cases hq : found c d = found (deepC c k) d <;> simp [q2, b1, ne_hrs, hq]
    have eH : D.lst (((rngI 0 7).filter fun d => !decide (found c d = found (deepC c k) d)).map D.int) = hrsD ((rngI 0 7).filter fun d => !decide (found c d = found (deepC c k) d)) := rfl
    simp only [kLst_ok, eH]
    have fin : Ok (R.ok (Out.next [some (.scr ns), some (.ref 0), some (chD c), some (.tup (c.bars.map intsD)), some (intsD c.legs), some (intsD c.waits), some (intsD (needL c)), some (.int (k : Int)), some (.tup (List.replicate (barC c k).length (.int 6))), some (chD (deepC c k)), some (.bl (isNeed c k)), none, none, none, none, none, none]) st) Q := Ok.ok (hQ _ _ ⟨_, _, _, _, rfl, rfl⟩)
    by_cases hsame : barC c k = List.replicate (barC c k).length 6
    · have hnd : isNeed c k = true := need_self (deep_same hk2 hsame)
      have hse := hss hnd
      rw [hnd] at cI cN fin hfl
      have eqD' : cmpop .Eq (intsD (barC c k)) (.tup (List.replicate (barC c k).length (.int 6))) = some true := by rw [eqD]; simp [← hsame]
      simp [hfl, cI, cN2, b2, ix_bars, gb, eqD', cN, b3, b4, q3, q4, hgl, hsl, hse]
      rw [hse] at hsl
      simpa [hsl] using fin
    · have eqD' : cmpop .Eq (intsD (barC c k)) (.tup (List.replicate (barC c k).length (.int 6))) = some false := by rw [eqD]; simp [hsame]
      cases hnd : isNeed c k with
      | true =>
        have hse := hss hnd
        rw [hnd] at cI cN fin hfl
        simp [hfl, cI, cN2, b2, ix_bars, gb, eqD', cN, b3, b4, q3, q4, hgl, hsl, hse]
        rw [hse] at hsl
        simpa [hsl] using fin
      | false =>
        rw [hnd] at cI cN fin hfl
        simp [hfl, cI, cN2, b2, ix_bars, gb, eqD', cN, b3, b4, q3, q4, hgl, hsl]
        simpa using fin
  case rest =>
    rintro env st ⟨o7, o8, o9, o10, rfl, rfl⟩
    have gb := barC_some (c := c) (k := 0) (by omega)
    have hb := w.at gb
    have hne : barC c 0 ≠ [] := fun z => by have := hb.1; rw [z] at this; simp at this
    obtain ⟨m, m1, m2, m3⟩ := minI_sp hne
    have mn : bltin "min" [intsD (barC c 0)] = some (.int m) := by rw [b_minT, m1]; rfl
    have hm6 := hb.2.2.1 m m2
    have es : ssetI (needL c) = needL c := asc_uniq (sset_lt _) (need_lt c) fun k => sset_mem k _
    have hnl : (needL c).length ≤ 60 := by
      have : (needL c).length ≤ c.bars.length := by
        unfold needL
        refine Nat.le_trans (List.length_filter_le _ _) ?_
        rw [rngI_len]
        exact Nat.le_refl _
      omega
    have sst : ∀ st, sstR (intsD (needL c)) st = .ok (hrsD (needL c)) st := fun st => by
      show sstI (toInts ((needL c).map .int)) st = _
      rw [toInts_map]
      unfold sstI
      simp only
      rw [if_pos hnl, es]
      rfl
    have bl : bltin "list" [intsD (needL c)] = some (hrsD (needL c)) := rfl
    have e00 : D.tup [.int 0] = intsD [0] := rfl
    have q5 : ∀ st, callT T "needless_bars" [chD cEx] st = .ok (intsD [1]) st := fun st => by rw [hNeed cEx st w_cEx, show needL cEx = [1] by decide +kernel]
    have eEx : D.tup [.tup [.tup [.int 2, .int 3], .tup [.int 6]], .tup [.int 1], .tup [.int 0]] = chD cEx := rfl
    have e01 : D.tup [.int 1] = intsD [1] := rfl
    have eEx2 : D.tup [.tup [.tup [.int 2, .int 3], .tup [.int 6]], intsD [1], .tup [.int 0]] = chD cEx := rfl
    have last : ∀ env : Env, Ok (evSs T [.ret (.cmp .Eq (.call "needless_bars" [.tup [.tup [.tup [.cst (.int 2), .cst (.int 3)], .tup [.cst (.int 6)]], .tup [.cst (.int 1)], .tup [.cst (.int 0)]]]) (.tup [.cst (.int 1)]))] env st) Z := fun env => by
      simp [eEx, eEx2, q5, e01, eq_ints]
      exact Ok.ok (hZ _ _ (leave_law _ _))
    have ad1 : binop .Add (.tup (c.bars.map intsD)) (.tup [.tup [.int 6, .int 6, .int 6]]) = some (.tup ((wideC c).bars.map intsD)) := by
      rw [add_tup (by simp; omega)]
      simp [wideC, intsD]
    have ad2 : binop .Add (intsD c.legs) (.tup [.int 2]) = some (intsD (wideC c).legs) := add_ints (by have := w.nl; omega)
    have ad3 : binop .Add (intsD c.waits) (.tup [.int 1]) = some (intsD (wideC c).waits) := add_ints (by have := w.nw; omega)
    have eW : D.tup [.tup ((wideC c).bars.map intsD), intsD (wideC c).legs, intsD (wideC c).waits] = chD (wideC c) := rfl
    have back : ∀ (rest : List S) (env : Env), env = [some (.scr ns), some (.ref 0), some (chD c), some (.tup (c.bars.map intsD)), some (intsD c.legs), some (intsD c.waits), some (intsD (needL c)), o7, o8, o9, o10, none, none, none, none, none, none] → rest = (match d_k12.body with | [_, _, _, _, _, _, a, b, r] => [a, b, r] | _ => []) → Ok (evSs T rest env st) Z := by
      intro rest env he hr
      subst he hr
      by_cases h3 : c.bars.length < 3
      · have ww := wide_wf w h3
        have r1 : ∀ st, callT T "is_channel" [chD (wideC c)] st = .ok (.bl true) st := fun st => hIs _ st ww
        have r2 : ∀ st, callT T "needless_bars" [chD (wideC c)] st = .ok (intsD (needL (wideC c))) st := fun st => hNeed _ st ww
        have r3 : ∀ d st, 0 ≤ d → d ≤ 6 → callT T "hours_out" [chD (wideC c), .int d] st = .ok (intsD (found (wideC c) d)) st := fun d st a b => hHours _ d st ww a b
        have r4 : ∀ st, callT T "period" [chD (wideC c)] st = .ok (.int (perC (wideC c))) st := fun st => hPer _ st ww
        have r5 : ∀ st, callT T "period" [chD c] st = .ok (.int (perC c)) st := fun st => hPer _ st w
        have hp1 : (0 : Int) < (perC c : Int) := by have := perC_facts w; omega
        have hin : ((c.bars.length : Nat) : Int) ∈ needL (wideC c) := (mem_need (c := wideC c) (k := c.bars.length) (by simp [wideC])).mpr (need_self (deep_same (by simp [wideC]) (by rw [wide_bar]; rfl)))
        simp [d_k12, ad1, ad2, ad3, eW, r1, r2, notin_ints, hin, it1 r7]
        rw [seq_seq]
        refine for_seq D.int (fun l env st' => ∃ o13 o14 o15 o16, env = [some (.scr ns), some (.ref 0), some (chD c), some (.tup (c.bars.map intsD)), some (intsD c.legs), some (intsD c.waits), some (intsD (needL c)), o7, o8, o9, o10, none, some (chD (wideC c)), o13, o14, o15, o16] ∧ st' = st) (fun _ _ _ _ => noref_der rfl _ _) ⟨none, none, none, none, rfl, rfl⟩ ?stepA ?restA
        case restA =>
          rintro env st' ⟨o13, o14, o15, o16, rfl, rfl⟩
          exact last _
        case stepA =>
          rintro l d r env st' el ⟨o13, o14, o15, o16, rfl, rfl⟩ Q hQ
          have hd : d ∈ rngI 0 7 := by rw [el]; simp
          rw [mem_rngI] at hd
          simp [r3 d _ (by omega) (by omega), q2, r4, it1 (per_rng ww)]
          refine for_seq D.int (fun l2 env st'' => ∃ o16, env = [some (.scr ns), some (.ref 0), some (chD c), some (.tup (c.bars.map intsD)), some (intsD c.legs), some (intsD c.waits), some (intsD (needL c)), o7, o8, o9, o10, none, some (chD (wideC c)), some (.int d), some (intsD (found (wideC c) d)), some (hrsD (found c d)), o16] ∧ st'' = st') (fun _ _ _ _ => noref_der rfl _ _) ⟨o16, rfl, rfl⟩ ?stepB ?restB
          case restB =>
            rintro env st'' ⟨o16, rfl, rfl⟩
            simp
            exact Ok.ok (hQ _ _ ⟨_, _, _, _, rfl, rfl⟩)
          case stepB =>
            rintro l2 t r2 env st'' el2 ⟨o16, rfl, rfl⟩ Q2 hQ2
            have ht : t ∈ rngI 0 (perC (wideC c)) := by rw [el2]; simp
            rw [mem_rngI] at ht
            have i1 : decide (t % (perC c : Int) ∈ found c d) = isOut c d t := by rw [Bool.eq_iff_iff, decide_eq_true_eq, mod_found w]
            have i2 : decide (t ∈ found (wideC c) d) = isOut c d t := by
              rw [Bool.eq_iff_iff, decide_eq_true_eq, mem_found, wide_out w h3 (by omega)]
              exact ⟨fun q => q.2.2, fun q => ⟨by omega, by omega, q⟩⟩
            simp [r5, o_mod hp1, in_hrs, in_ints, i1, i2, -decide_eq_true_eq]
            exact Ok.ok (hQ2 _ _ ⟨_, rfl, rfl⟩)
      · have r1 : ∀ st, callT T "is_channel" [chD (wideC c)] st = .ok (.bl false) st := fun st => hIsF _ st (by simp [wideC]; omega)
        have l2 := last ([some (.scr ns), some (.ref 0), some (chD c), some (.tup (c.bars.map intsD)), some (intsD c.legs), some (intsD c.waits), some (intsD (needL c)), o7, o8, o9, o10, none, some (chD (wideC c)), none, none, none, none])
        simp [d_k12, ad1, ad2, ad3, eW, r1] at l2 ⊢
        exact l2
    have back' := back _ _ rfl rfl
    by_cases hone : c.bars.length = 1
    · have hone' : ((c.bars.length : Int) == 1) = true := by simp; omega
      have nl := one_need w hone m1
      have heq : (decide (needL c = [0]) == (m == 6)) = true := by
        rw [nl]
        by_cases h6 : m < 6
        · have : (m == 6) = false := by simp; omega
          simp [h6, this]
        · have : m = 6 := by omega
          simp [this]
      have hx : ∀ b : Bool, True := fun _ => trivial
      simp [bl, sst, ne_hrs, hone', e00, eq_ints, ix_bars, gb, mn, heq, d_k12] at back' ⊢
      exact back'
    · have hone' : ((c.bars.length : Int) == 1) = false := by simp; omega
      simp [bl, sst, ne_hrs, hone', d_k12] at back' ⊢
      exact back'
end TW
namespace TW
open PySem PySem.Spec PyProof.Rows L2
def topS (i : Nat) : Stmt := PySem.Challenge.pw_tidewindows_k12_needless_bars.main.body.getD i (.Pass ⟨0, 0, 0, 0⟩)
def lX : List String := ["TideError", "InvalidChannel", "InvalidDraught"]
def L_0 : List (String × Def) := []
def L_1 : List (String × Def) := ("is_between", d_is_between) :: L_0
def L_2 : List (String × Def) := ("are_between", d_are_between) :: L_1
def L_3 : List (String × Def) := ("is_channel", d_is_channel) :: L_2
def L_4 : List (String × Def) := ("check_channel", d_check_channel) :: L_3
def L_5 : List (String × Def) := ("check_draught", d_check_draught) :: L_4
def L_6 : List (String × Def) := ("divisor", d_divisor) :: L_5
def L_7 : List (String × Def) := ("period_of", d_period_of) :: L_6
def L_8 : List (String × Def) := ("period", d_period) :: L_7
def L_9 : List (String × Def) := ("depth_of", d_depth_of) :: L_8
def L_10 : List (String × Def) := ("all_from", d_all_from) :: L_9
def L_11 : List (String × Def) := ("is_out", d_is_out) :: L_10
def L_12 : List (String × Def) := ("found_hours", d_found_hours) :: L_11
def L_13 : List (String × Def) := ("check_two", d_check_two) :: L_12
def L_14 : List (String × Def) := ("hours_out", d_hours_out) :: L_13
def L_15 : List (String × Def) := ("greatest_draught", d_greatest_draught) :: L_14
def L_16 : List (String × Def) := ("sure_draught", d_sure_draught) :: L_15
def L_17 : List (String × Def) := ("is_needless", d_is_needless) :: L_16
def L_18 : List (String × Def) := ("needless_bars", d_needless_bars) :: L_17
def L_19 : List (String × Def) := ("_law_town", d_law_town) :: L_18
def L_20 : List (String × Def) := ("_law_draw", d_law_draw) :: L_19
def L_21 : List (String × Def) := ("_law_pick", d_law_pick) :: L_20
def L_22 : List (String × Def) := ("_law_bar", d_law_bar) :: L_21
def L_23 : List (String × Def) := ("_law_channel", d_law_channel) :: L_22
def L_24 : List (String × Def) := ("_law_period", d_law_period) :: L_23
def L_25 : List (String × Def) := ("_law_all", d_law_all) :: L_24
def L_26 : List (String × Def) := ("_law_out", d_law_out) :: L_25
def N_0 : List Str := [nameOf "value", nameOf "low", nameOf "high"]
def P_0 : List Str := [nameOf "value", nameOf "low", nameOf "high"]
def G_0 : List String := []
theorem k_0 : cSs (cS (ccOf (topS 5) N_0 G_0 lX [] false) 60 60) (defBody (topS 5)) = some d_is_between.body := by kernel_rfl
theorem f_0 : fsB N_0 P_0 (defScope (topS 5)) = true := by kernel_rfl
def N_1 : List Str := [nameOf "value", nameOf "size", nameOf "low", nameOf "high", nameOf "one"]
def P_1 : List Str := [nameOf "value", nameOf "size", nameOf "low", nameOf "high"]
def G_1 : List String := ["is_between"]
theorem k_1 : cSs (cS (ccOf (topS 6) N_1 G_1 lX [] false) 60 60) (defBody (topS 6)) = some d_are_between.body := by kernel_rfl
theorem f_1 : fsB N_1 P_1 (defScope (topS 6)) = true := by kernel_rfl
def N_2 : List Str := [nameOf "value", nameOf "bars", nameOf "legs", nameOf "waits", nameOf "bar"]
def P_2 : List Str := [nameOf "value"]
def G_2 : List String := ["is_between", "are_between"]
theorem k_2 : cSs (cS (ccOf (topS 7) N_2 G_2 lX [] false) 60 60) (defBody (topS 7)) = some d_is_channel.body := by kernel_rfl
theorem f_2 : fsB N_2 P_2 (defScope (topS 7)) = true := by kernel_rfl
def N_3 : List Str := [nameOf "value"]
def P_3 : List Str := [nameOf "value"]
def G_3 : List String := ["is_between", "are_between", "is_channel"]
theorem k_3 : cSs (cS (ccOf (topS 8) N_3 G_3 lX [] false) 60 60) (defBody (topS 8)) = some d_check_channel.body := by kernel_rfl
theorem f_3 : fsB N_3 P_3 (defScope (topS 8)) = true := by kernel_rfl
def N_4 : List Str := [nameOf "value"]
def P_4 : List Str := [nameOf "value"]
def G_4 : List String := ["is_between", "are_between", "is_channel", "check_channel"]
theorem k_4 : cSs (cS (ccOf (topS 9) N_4 G_4 lX [] false) 60 60) (defBody (topS 9)) = some d_check_draught.body := by kernel_rfl
theorem f_4 : fsB N_4 P_4 (defScope (topS 9)) = true := by kernel_rfl
def N_5 : List Str := [nameOf "one", nameOf "other"]
def P_5 : List Str := [nameOf "one", nameOf "other"]
def G_5 : List String := ["is_between", "are_between", "is_channel", "check_channel", "check_draught"]
theorem k_5 : cSs (cS (ccOf (topS 10) N_5 G_5 lX [] false) 60 60) (defBody (topS 10)) = some d_divisor.body := by kernel_rfl
theorem f_5 : fsB N_5 P_5 (defScope (topS 10)) = true := by kernel_rfl
def N_6 : List Str := [nameOf "channel", nameOf "found", nameOf "bar"]
def P_6 : List Str := [nameOf "channel"]
def G_6 : List String := ["is_between", "are_between", "is_channel", "check_channel", "check_draught", "divisor"]
theorem k_6 : cSs (cS (ccOf (topS 11) N_6 G_6 lX [] false) 60 60) (defBody (topS 11)) = some d_period_of.body := by kernel_rfl
theorem f_6 : fsB N_6 P_6 (defScope (topS 11)) = true := by kernel_rfl
def N_7 : List Str := [nameOf "channel"]
def P_7 : List Str := [nameOf "channel"]
def G_7 : List String := ["is_between", "are_between", "is_channel", "check_channel", "check_draught", "divisor", "period_of"]
theorem k_7 : cSs (cS (ccOf (topS 12) N_7 G_7 lX [] false) 60 60) (defBody (topS 12)) = some d_period.body := by kernel_rfl
theorem f_7 : fsB N_7 P_7 (defScope (topS 12)) = true := by kernel_rfl
def N_8 : List Str := [nameOf "channel", nameOf "bar", nameOf "hour", nameOf "depths"]
def P_8 : List Str := [nameOf "channel", nameOf "bar", nameOf "hour"]
def G_8 : List String := ["is_between", "are_between", "is_channel", "check_channel", "check_draught", "divisor", "period_of", "period"]
theorem k_8 : cSs (cS (ccOf (topS 13) N_8 G_8 lX [] false) 60 60) (defBody (topS 13)) = some d_depth_of.body := by kernel_rfl
theorem f_8 : fsB N_8 P_8 (defScope (topS 13)) = true := by kernel_rfl
def N_9 : List Str := [nameOf "channel", nameOf "draught", nameOf "hour", nameOf "found", nameOf "bar", nameOf "leg", nameOf "wait", nameOf "row", nameOf "more"]
def P_9 : List Str := [nameOf "channel", nameOf "draught", nameOf "hour"]
def G_9 : List String := ["is_between", "are_between", "is_channel", "check_channel", "check_draught", "divisor", "period_of", "period", "depth_of"]
theorem k_9 : cSs (cS (ccOf (topS 15) N_9 G_9 lX [] false) 60 60) (defBody (topS 15)) = some d_all_from.body := by kernel_rfl
theorem f_9 : fsB N_9 P_9 (defScope (topS 15)) = true := by kernel_rfl
def N_10 : List Str := [nameOf "channel", nameOf "draught", nameOf "hour"]
def P_10 : List Str := [nameOf "channel", nameOf "draught", nameOf "hour"]
def G_10 : List String := ["is_between", "are_between", "is_channel", "check_channel", "check_draught", "divisor", "period_of", "period", "depth_of", "all_from"]
theorem k_10 : cSs (cS (ccOf (topS 17) N_10 G_10 lX [] false) 60 60) (defBody (topS 17)) = some d_is_out.body := by kernel_rfl
theorem f_10 : fsB N_10 P_10 (defScope (topS 17)) = true := by kernel_rfl
def N_11 : List Str := [nameOf "channel", nameOf "draught", nameOf "hour"]
def P_11 : List Str := [nameOf "channel", nameOf "draught"]
def G_11 : List String := ["is_between", "are_between", "is_channel", "check_channel", "check_draught", "divisor", "period_of", "period", "depth_of", "all_from", "is_out"]
theorem k_11 : cSs (cS (ccOf (topS 18) N_11 G_11 lX [] false) 60 60) (defBody (topS 18)) = some d_found_hours.body := by kernel_rfl
theorem f_11 : fsB N_11 P_11 (defScope (topS 18)) = true := by kernel_rfl
def N_12 : List Str := [nameOf "channel", nameOf "draught"]
def P_12 : List Str := [nameOf "channel", nameOf "draught"]
def G_12 : List String := ["is_between", "are_between", "is_channel", "check_channel", "check_draught", "divisor", "period_of", "period", "depth_of", "all_from", "is_out", "found_hours"]
theorem k_12 : cSs (cS (ccOf (topS 19) N_12 G_12 lX [] false) 60 60) (defBody (topS 19)) = some d_check_two.body := by kernel_rfl
theorem f_12 : fsB N_12 P_12 (defScope (topS 19)) = true := by kernel_rfl
def N_13 : List Str := [nameOf "channel", nameOf "draught"]
def P_13 : List Str := [nameOf "channel", nameOf "draught"]
def G_13 : List String := ["is_between", "are_between", "is_channel", "check_channel", "check_draught", "divisor", "period_of", "period", "depth_of", "all_from", "is_out", "found_hours", "check_two"]
theorem k_13 : cSs (cS (ccOf (topS 20) N_13 G_13 lX [] false) 60 60) (defBody (topS 20)) = some d_hours_out.body := by kernel_rfl
theorem f_13 : fsB N_13 P_13 (defScope (topS 20)) = true := by kernel_rfl
def N_14 : List Str := [nameOf "channel", nameOf "draught"]
def P_14 : List Str := [nameOf "channel"]
def G_14 : List String := ["is_between", "are_between", "is_channel", "check_channel", "check_draught", "divisor", "period_of", "period", "depth_of", "all_from", "is_out", "found_hours", "check_two", "hours_out"]
theorem k_14 : cSs (cS (ccOf (topS 21) N_14 G_14 lX [] false) 60 60) (defBody (topS 21)) = some d_greatest_draught.body := by kernel_rfl
theorem f_14 : fsB N_14 P_14 (defScope (topS 21)) = true := by kernel_rfl
def N_15 : List Str := [nameOf "channel", nameOf "draught"]
def P_15 : List Str := [nameOf "channel"]
def G_15 : List String := ["is_between", "are_between", "is_channel", "check_channel", "check_draught", "divisor", "period_of", "period", "depth_of", "all_from", "is_out", "found_hours", "check_two", "hours_out", "greatest_draught"]
theorem k_15 : cSs (cS (ccOf (topS 22) N_15 G_15 lX [] false) 60 60) (defBody (topS 22)) = some d_sure_draught.body := by kernel_rfl
theorem f_15 : fsB N_15 P_15 (defScope (topS 22)) = true := by kernel_rfl
def N_16 : List Str := [nameOf "channel", nameOf "bar", nameOf "deep", nameOf "other", nameOf "draught"]
def P_16 : List Str := [nameOf "channel", nameOf "bar"]
def G_16 : List String := ["is_between", "are_between", "is_channel", "check_channel", "check_draught", "divisor", "period_of", "period", "depth_of", "all_from", "is_out", "found_hours", "check_two", "hours_out", "greatest_draught", "sure_draught"]
theorem k_16 : cSs (cS (ccOf (topS 23) N_16 G_16 lX [] false) 60 60) (defBody (topS 23)) = some d_is_needless.body := by kernel_rfl
theorem f_16 : fsB N_16 P_16 (defScope (topS 23)) = true := by kernel_rfl
def N_17 : List Str := [nameOf "channel", nameOf "bar"]
def P_17 : List Str := [nameOf "channel"]
def G_17 : List String := ["is_between", "are_between", "is_channel", "check_channel", "check_draught", "divisor", "period_of", "period", "depth_of", "all_from", "is_out", "found_hours", "check_two", "hours_out", "greatest_draught", "sure_draught", "is_needless"]
theorem k_17 : cSs (cS (ccOf (topS 24) N_17 G_17 lX [] false) 60 60) (defBody (topS 24)) = some d_needless_bars.body := by kernel_rfl
theorem f_17 : fsB N_17 P_17 (defScope (topS 24)) = true := by kernel_rfl
def N_18 : List Str := [nameOf "script"]
def P_18 : List Str := [nameOf "script"]
def G_18 : List String := ["is_between", "are_between", "is_channel", "check_channel", "check_draught", "divisor", "period_of", "period", "depth_of", "all_from", "is_out", "found_hours", "check_two", "hours_out", "greatest_draught", "sure_draught", "is_needless", "needless_bars"]
theorem k_18 : cSs (cS (ccOf (topS 26) N_18 G_18 lX [] true) 60 60) (defBody (topS 26)) = some d_law_town.body := by kernel_rfl
theorem f_18 : fsB N_18 P_18 (defScope (topS 26)) = true := by kernel_rfl
def N_19 : List Str := [nameOf "script", nameOf "town", nameOf "limit", nameOf "at", nameOf "left", nameOf "number"]
def P_19 : List Str := [nameOf "script", nameOf "town", nameOf "limit"]
def G_19 : List String := ["is_between", "are_between", "is_channel", "check_channel", "check_draught", "divisor", "period_of", "period", "depth_of", "all_from", "is_out", "found_hours", "check_two", "hours_out", "greatest_draught", "sure_draught", "is_needless", "needless_bars", "_law_town"]
theorem k_19 : cSs (cS (ccOf (topS 27) N_19 G_19 lX [] false) 60 60) (defBody (topS 27)) = some d_law_draw.body := by kernel_rfl
theorem f_19 : fsB N_19 P_19 (defScope (topS 27)) = true := by kernel_rfl
def N_20 : List Str := [nameOf "script", nameOf "town", nameOf "choices"]
def P_20 : List Str := [nameOf "script", nameOf "town", nameOf "choices"]
def G_20 : List String := ["is_between", "are_between", "is_channel", "check_channel", "check_draught", "divisor", "period_of", "period", "depth_of", "all_from", "is_out", "found_hours", "check_two", "hours_out", "greatest_draught", "sure_draught", "is_needless", "needless_bars", "_law_town", "_law_draw"]
theorem k_20 : cSs (cS (ccOf (topS 28) N_20 G_20 lX [] false) 60 60) (defBody (topS 28)) = some d_law_pick.body := by kernel_rfl
theorem f_20 : fsB N_20 P_20 (defScope (topS 28)) = true := by kernel_rfl
def N_21 : List Str := [nameOf "script", nameOf "town", nameOf "most", nameOf "size", nameOf "k", nameOf "low", nameOf "high", nameOf "at"]
def P_21 : List Str := [nameOf "script", nameOf "town", nameOf "most"]
def G_21 : List String := ["is_between", "are_between", "is_channel", "check_channel", "check_draught", "divisor", "period_of", "period", "depth_of", "all_from", "is_out", "found_hours", "check_two", "hours_out", "greatest_draught", "sure_draught", "is_needless", "needless_bars", "_law_town", "_law_draw", "_law_pick"]
theorem k_21 : cSs (cS (ccOf (topS 29) N_21 G_21 lX [] false) 60 60) (defBody (topS 29)) = some d_law_bar.body := by kernel_rfl
theorem f_21 : fsB N_21 P_21 (defScope (topS 29)) = true := by kernel_rfl
def N_22 : List Str := [nameOf "script", nameOf "town", nameOf "bars", nameOf "most", nameOf "size", nameOf "some", nameOf "k", nameOf "legs"]
def P_22 : List Str := [nameOf "script", nameOf "town", nameOf "bars", nameOf "most"]
def G_22 : List String := ["is_between", "are_between", "is_channel", "check_channel", "check_draught", "divisor", "period_of", "period", "depth_of", "all_from", "is_out", "found_hours", "check_two", "hours_out", "greatest_draught", "sure_draught", "is_needless", "needless_bars", "_law_town", "_law_draw", "_law_pick", "_law_bar"]
theorem k_22 : cSs (cS (ccOf (topS 30) N_22 G_22 lX [] false) 60 60) (defBody (topS 30)) = some d_law_channel.body := by kernel_rfl
theorem f_22 : fsB N_22 P_22 (defScope (topS 30)) = true := by kernel_rfl
def N_23 : List Str := [nameOf "channel", nameOf "found", nameOf "bar"]
def P_23 : List Str := [nameOf "channel"]
def G_23 : List String := ["is_between", "are_between", "is_channel", "check_channel", "check_draught", "divisor", "period_of", "period", "depth_of", "all_from", "is_out", "found_hours", "check_two", "hours_out", "greatest_draught", "sure_draught", "is_needless", "needless_bars", "_law_town", "_law_draw", "_law_pick", "_law_bar", "_law_channel"]
theorem k_23 : cSs (cS (ccOf (topS 31) N_23 G_23 lX [] false) 60 60) (defBody (topS 31)) = some d_law_period.body := by kernel_rfl
theorem f_23 : fsB N_23 P_23 (defScope (topS 31)) = true := by kernel_rfl
def N_24 : List Str := [nameOf "channel", nameOf "draught", nameOf "hour", nameOf "bars", nameOf "legs", nameOf "waits", nameOf "rows", nameOf "k", nameOf "longer", nameOf "row", nameOf "more", nameOf "at"]
def P_24 : List Str := [nameOf "channel", nameOf "draught", nameOf "hour"]
def G_24 : List String := ["is_between", "are_between", "is_channel", "check_channel", "check_draught", "divisor", "period_of", "period", "depth_of", "all_from", "is_out", "found_hours", "check_two", "hours_out", "greatest_draught", "sure_draught", "is_needless", "needless_bars", "_law_town", "_law_draw", "_law_pick", "_law_bar", "_law_channel", "_law_period"]
theorem k_24 : cSs (cS (ccOf (topS 32) N_24 G_24 lX [nameOf "longer"] false) 60 60) (defBody (topS 32)) = some d_law_all.body := by kernel_rfl
theorem f_24 : fsB N_24 P_24 (defScope (topS 32)) = true := by kernel_rfl
def N_25 : List Str := [nameOf "channel", nameOf "draught", nameOf "hour"]
def P_25 : List Str := [nameOf "channel", nameOf "draught"]
def G_25 : List String := ["is_between", "are_between", "is_channel", "check_channel", "check_draught", "divisor", "period_of", "period", "depth_of", "all_from", "is_out", "found_hours", "check_two", "hours_out", "greatest_draught", "sure_draught", "is_needless", "needless_bars", "_law_town", "_law_draw", "_law_pick", "_law_bar", "_law_channel", "_law_period", "_law_all"]
theorem k_25 : cSs (cS (ccOf (topS 33) N_25 G_25 lX [] false) 60 60) (defBody (topS 33)) = some d_law_out.body := by kernel_rfl
theorem f_25 : fsB N_25 P_25 (defScope (topS 33)) = true := by kernel_rfl
def N_26 : List Str := [nameOf "script", nameOf "town", nameOf "channel", nameOf "bars", nameOf "legs", nameOf "waits", nameOf "told", nameOf "bar", nameOf "deep", nameOf "other", nameOf "same", nameOf "k", nameOf "wide", nameOf "draught", nameOf "some", nameOf "old", nameOf "hour"]
def P_26 : List Str := [nameOf "script"]
def G_26 : List String := ["is_between", "are_between", "is_channel", "check_channel", "check_draught", "divisor", "period_of", "period", "depth_of", "all_from", "is_out", "found_hours", "check_two", "hours_out", "greatest_draught", "sure_draught", "is_needless", "needless_bars", "_law_town", "_law_draw", "_law_pick", "_law_bar", "_law_channel", "_law_period", "_law_all", "_law_out"]
theorem k_26 : cSs (cS (ccOf (topS 34) N_26 G_26 lX [] false) 60 60) (defBody (topS 34)) = some d_k12.body := by kernel_rfl
theorem f_26 : fsB N_26 ["script"] (defScope (topS 34)) = true := by kernel_rfl
theorem t_1 : S_between (callT (tab L_1) "is_between") := by
  unfold L_1
  rw [hit]
  exact r_between 
theorem t_2 : S_are (callT (tab L_2) "are_between") := by
  unfold L_2
  rw [hit]
  exact r_are t_1
theorem t_3 : S_isch (callT (tab L_3) "is_channel") := by
  unfold L_3
  rw [hit]
  exact r_isch t_2
theorem t_3_F : S_ischF (callT (tab L_3) "is_channel") := by
  unfold L_3
  rw [hit]
  exact r_ischF 
theorem t_4 : S_chk (callT (tab L_4) "check_channel") := by
  unfold L_4
  rw [hit]
  exact r_chk t_3
theorem t_5 : S_chkR 0 6 (callT (tab L_5) "check_draught") := by
  unfold L_5
  rw [hit]
  exact r_chkD (by rw [up (L := L_4) (L' := L_1) 3 rfl (by decide)]; exact t_1)
theorem t_6 : S_div (callT (tab L_6) "divisor") := by
  unfold L_6
  rw [hit]
  exact r_div 
theorem t_7 : S_per (callT (tab L_7) "period_of") := by
  unfold L_7
  rw [hit]
  exact r_perOf t_6
theorem t_8 : S_per (callT (tab L_8) "period") := by
  unfold L_8
  rw [hit]
  exact r_per (by rw [up (L := L_7) (L' := L_4) 3 rfl (by decide)]; exact t_4) t_7
theorem t_9 : S_depO (callT (tab L_9) "depth_of") := by
  unfold L_9
  rw [hit]
  exact r_depO 
theorem t_10 : S_all (callT (tab L_10) "all_from") := by
  unfold L_10
  rw [hit]
  exact r_all t_9
theorem t_11 : S_out (callT (tab L_11) "is_out") := by
  unfold L_11
  rw [hit]
  exact r_out t_10
theorem t_12 : S_fhrs (callT (tab L_12) "found_hours") := by
  unfold L_12
  rw [hit]
  exact r_fhrs (by rw [up (L := L_11) (L' := L_7) 4 rfl (by decide)]; exact t_7) t_11
theorem t_13 : S_chk2 (callT (tab L_13) "check_two") := by
  unfold L_13
  rw [hit]
  exact r_chk2 (by rw [up (L := L_12) (L' := L_4) 8 rfl (by decide)]; exact t_4) (by rw [up (L := L_12) (L' := L_5) 7 rfl (by decide)]; exact t_5)
theorem t_14 : S_hours (callT (tab L_14) "hours_out") := by
  unfold L_14
  rw [hit]
  exact r_hours t_13 (by rw [up (L := L_13) (L' := L_12) 1 rfl (by decide)]; exact t_12)
theorem t_15 : S_int greatC (callT (tab L_15) "greatest_draught") := by
  unfold L_15
  rw [hit]
  exact r_great (by rw [up (L := L_14) (L' := L_4) 10 rfl (by decide)]; exact t_4) (by rw [up (L := L_14) (L' := L_12) 2 rfl (by decide)]; exact t_12)
theorem t_16 : S_int sureC (callT (tab L_16) "sure_draught") := by
  unfold L_16
  rw [hit]
  exact r_sure (by rw [up (L := L_15) (L' := L_4) 11 rfl (by decide)]; exact t_4) (by rw [up (L := L_15) (L' := L_12) 3 rfl (by decide)]; exact t_12) (by rw [up (L := L_15) (L' := L_7) 8 rfl (by decide)]; exact t_7)
theorem t_17 : S_need1 (callT (tab L_17) "is_needless") := by
  unfold L_17
  rw [hit]
  exact r_need1 (by rw [up (L := L_16) (L' := L_12) 4 rfl (by decide)]; exact t_12)
theorem t_18 : S_need (callT (tab L_18) "needless_bars") := by
  unfold L_18
  rw [hit]
  exact r_need (by rw [up (L := L_17) (L' := L_4) 13 rfl (by decide)]; exact t_4) t_17
theorem t_19 : S_town (callT (tab L_19) "_law_town") := by
  unfold L_19
  rw [hit]
  exact r_town 
theorem t_20 : S_draw (callT (tab L_20) "_law_draw") := by
  unfold L_20
  rw [hit]
  exact r_draw 
theorem t_21 : S_pick (callT (tab L_21) "_law_pick") := by
  unfold L_21
  rw [hit]
  exact r_pick t_20
theorem t_22 : S_bar (callT (tab L_22) "_law_bar") := by
  unfold L_22
  rw [hit]
  exact r_bar (by rw [up (L := L_21) (L' := L_20) 1 rfl (by decide)]; exact t_20)
theorem t_23 : S_chan (callT (tab L_23) "_law_channel") := by
  unfold L_23
  rw [hit]
  exact r_chan (by rw [up (L := L_22) (L' := L_20) 2 rfl (by decide)]; exact t_20) (by rw [up (L := L_22) (L' := L_21) 1 rfl (by decide)]; exact t_21) t_22
theorem t_24 : S_per (callT (tab L_24) "_law_period") := by
  unfold L_24
  rw [hit]
  exact r_lawPer 
theorem t_25 : S_all (callT (tab L_25) "_law_all") := by
  unfold L_25
  rw [hit]
  exact r_lawAll 
theorem t_26 : S_fhrs (callT (tab L_26) "_law_out") := by
  unfold L_26
  rw [hit]
  exact r_lawOut (by rw [up (L := L_25) (L' := L_24) 1 rfl (by decide)]; exact t_24) t_25
theorem law_true (ns : List Int) (hns : ns.length ≤ 63) : runDef (tab L_26) d_k12 [.scr ns] [] = .ok (.bl true) [] := law_k12 (by rw [up (L := L_26) (L' := L_19) 7 rfl (by decide)]; exact t_19) (by rw [up (L := L_26) (L' := L_23) 3 rfl (by decide)]; exact t_23) t_26 (by rw [up (L := L_26) (L' := L_18) 8 rfl (by decide)]; exact t_18) (by rw [up (L := L_26) (L' := L_15) 11 rfl (by decide)]; exact t_15) (by rw [up (L := L_26) (L' := L_16) 10 rfl (by decide)]; exact t_16) (by rw [up (L := L_26) (L' := L_3) 23 rfl (by decide)]; exact t_3) (by rw [up (L := L_26) (L' := L_3) 23 rfl (by decide)]; exact t_3_F) (by rw [up (L := L_26) (L' := L_14) 12 rfl (by decide)]; exact t_14) (by rw [up (L := L_26) (L' := L_8) 18 rfl (by decide)]; exact t_8) ns hns
theorem all_mk {P : Program} {w : World} {K : PySem.W.Frag} {h : Heap} {mg : Str → Option Value} {fa f0 f1 f2 f3 f4 f5 f6 f7 f8 f9 f10 f11 f12 f13 f14 f15 f16 f17 f18 f19 f20 f21 f22 f23 f24 f25 f26 C0 C1 C2 : Addr} (X : K.In h) (G : h.Ns mainGlobals mg) (hfa : mg "law" = some (.ref fa))
    {od0 an0 od1 an1 od2 an2 od3 an3 od4 an4 od5 an5 od6 an6 od7 an7 od8 an8 od9 an9 od10 an10 od11 an11 od12 an12 od13 an13 od14 an14 od15 an15 od16 an16 od17 an17 od18 an18 od19 an19 od20 an20 od21 an21 od22 an22 od23 an23 od24 an24 od25 an25 od26 an26 : Option Addr} {sl0 sl1 sl2 sl3 sl4 sl5 sl6 sl7 sl8 sl9 sl10 sl11 sl12 sl13 sl14 sl15 sl16 sl17 sl18 sl19 sl20 sl21 sl22 sl23 sl24 sl25 sl26 : Array (Option Value)} {oc0 kV0 dc0 pm0 cd0 ct0 oc1 kV1 dc1 pm1 cd1 ct1 oc2 kV2 dc2 pm2 cd2 ct2 oc3 kV3 dc3 pm3 cd3 ct3 oc4 kV4 dc4 pm4 cd4 ct4 oc5 kV5 dc5 pm5 cd5 ct5 oc6 kV6 dc6 pm6 cd6 ct6 oc7 kV7 dc7 pm7 cd7 ct7 oc8 kV8 dc8 pm8 cd8 ct8 oc9 kV9 dc9 pm9 cd9 ct9 oc10 kV10 dc10 pm10 cd10 ct10 oc11 kV11 dc11 pm11 cd11 ct11 oc12 kV12 dc12 pm12 cd12 ct12 oc13 kV13 dc13 pm13 cd13 ct13 oc14 kV14 dc14 pm14 cd14 ct14 oc15 kV15 dc15 pm15 cd15 ct15 oc16 kV16 dc16 pm16 cd16 ct16 oc17 kV17 dc17 pm17 cd17 ct17 oc18 kV18 dc18 pm18 cd18 ct18 oc19 kV19 dc19 pm19 cd19 ct19 oc20 kV20 dc20 pm20 cd20 ct20 oc21 kV21 dc21 pm21 cd21 ct21 oc22 kV22 dc22 pm22 cd22 ct22 oc23 kV23 dc23 pm23 cd23 ct23 oc24 kV24 dc24 pm24 cd24 ct24 oc25 kV25 dc25 pm25 cd25 ct25 oc26 kV26 dc26 pm26 cd26 ct26 : Value}
    (a0 : PySem.W.nsIn K mainGlobals (nameOf "is_between") = some (some (.ref f0))) (l0 : K.lookup f0 = some ⟨oc0, od0, .func (PySem.W.fnOf (nameOf "is_between") (nameOf "is_between") (defArgs (topS 5)) (defBody (topS 5)) (defScope (topS 5)) .none kV0 dc0 pm0 an0 cd0 ct0), sl0⟩) (c0 : PySem.W.codeIn K cd0 (nameOf "is_between") = true) (k0 : PySem.W.keepIn K (.ref f0) = true)
    (a1 : PySem.W.nsIn K mainGlobals (nameOf "are_between") = some (some (.ref f1))) (l1 : K.lookup f1 = some ⟨oc1, od1, .func (PySem.W.fnOf (nameOf "are_between") (nameOf "are_between") (defArgs (topS 6)) (defBody (topS 6)) (defScope (topS 6)) .none kV1 dc1 pm1 an1 cd1 ct1), sl1⟩) (c1 : PySem.W.codeIn K cd1 (nameOf "are_between") = true) (k1 : PySem.W.keepIn K (.ref f1) = true)
    (a2 : PySem.W.nsIn K mainGlobals (nameOf "is_channel") = some (some (.ref f2))) (l2 : K.lookup f2 = some ⟨oc2, od2, .func (PySem.W.fnOf (nameOf "is_channel") (nameOf "is_channel") (defArgs (topS 7)) (defBody (topS 7)) (defScope (topS 7)) .none kV2 dc2 pm2 an2 cd2 ct2), sl2⟩) (c2 : PySem.W.codeIn K cd2 (nameOf "is_channel") = true) (k2 : PySem.W.keepIn K (.ref f2) = true)
    (a3 : PySem.W.nsIn K mainGlobals (nameOf "check_channel") = some (some (.ref f3))) (l3 : K.lookup f3 = some ⟨oc3, od3, .func (PySem.W.fnOf (nameOf "check_channel") (nameOf "check_channel") (defArgs (topS 8)) (defBody (topS 8)) (defScope (topS 8)) .none kV3 dc3 pm3 an3 cd3 ct3), sl3⟩) (c3 : PySem.W.codeIn K cd3 (nameOf "check_channel") = true) (k3 : PySem.W.keepIn K (.ref f3) = true)
    (a4 : PySem.W.nsIn K mainGlobals (nameOf "check_draught") = some (some (.ref f4))) (l4 : K.lookup f4 = some ⟨oc4, od4, .func (PySem.W.fnOf (nameOf "check_draught") (nameOf "check_draught") (defArgs (topS 9)) (defBody (topS 9)) (defScope (topS 9)) .none kV4 dc4 pm4 an4 cd4 ct4), sl4⟩) (c4 : PySem.W.codeIn K cd4 (nameOf "check_draught") = true) (k4 : PySem.W.keepIn K (.ref f4) = true)
    (a5 : PySem.W.nsIn K mainGlobals (nameOf "divisor") = some (some (.ref f5))) (l5 : K.lookup f5 = some ⟨oc5, od5, .func (PySem.W.fnOf (nameOf "divisor") (nameOf "divisor") (defArgs (topS 10)) (defBody (topS 10)) (defScope (topS 10)) .none kV5 dc5 pm5 an5 cd5 ct5), sl5⟩) (c5 : PySem.W.codeIn K cd5 (nameOf "divisor") = true) (k5 : PySem.W.keepIn K (.ref f5) = true)
    (a6 : PySem.W.nsIn K mainGlobals (nameOf "period_of") = some (some (.ref f6))) (l6 : K.lookup f6 = some ⟨oc6, od6, .func (PySem.W.fnOf (nameOf "period_of") (nameOf "period_of") (defArgs (topS 11)) (defBody (topS 11)) (defScope (topS 11)) .none kV6 dc6 pm6 an6 cd6 ct6), sl6⟩) (c6 : PySem.W.codeIn K cd6 (nameOf "period_of") = true) (k6 : PySem.W.keepIn K (.ref f6) = true)
    (a7 : PySem.W.nsIn K mainGlobals (nameOf "period") = some (some (.ref f7))) (l7 : K.lookup f7 = some ⟨oc7, od7, .func (PySem.W.fnOf (nameOf "period") (nameOf "period") (defArgs (topS 12)) (defBody (topS 12)) (defScope (topS 12)) .none kV7 dc7 pm7 an7 cd7 ct7), sl7⟩) (c7 : PySem.W.codeIn K cd7 (nameOf "period") = true) (k7 : PySem.W.keepIn K (.ref f7) = true)
    (a8 : PySem.W.nsIn K mainGlobals (nameOf "depth_of") = some (some (.ref f8))) (l8 : K.lookup f8 = some ⟨oc8, od8, .func (PySem.W.fnOf (nameOf "depth_of") (nameOf "depth_of") (defArgs (topS 13)) (defBody (topS 13)) (defScope (topS 13)) .none kV8 dc8 pm8 an8 cd8 ct8), sl8⟩) (c8 : PySem.W.codeIn K cd8 (nameOf "depth_of") = true) (k8 : PySem.W.keepIn K (.ref f8) = true)
    (a9 : PySem.W.nsIn K mainGlobals (nameOf "all_from") = some (some (.ref f9))) (l9 : K.lookup f9 = some ⟨oc9, od9, .func (PySem.W.fnOf (nameOf "all_from") (nameOf "all_from") (defArgs (topS 15)) (defBody (topS 15)) (defScope (topS 15)) .none kV9 dc9 pm9 an9 cd9 ct9), sl9⟩) (c9 : PySem.W.codeIn K cd9 (nameOf "all_from") = true) (k9 : PySem.W.keepIn K (.ref f9) = true)
    (a10 : PySem.W.nsIn K mainGlobals (nameOf "is_out") = some (some (.ref f10))) (l10 : K.lookup f10 = some ⟨oc10, od10, .func (PySem.W.fnOf (nameOf "is_out") (nameOf "is_out") (defArgs (topS 17)) (defBody (topS 17)) (defScope (topS 17)) .none kV10 dc10 pm10 an10 cd10 ct10), sl10⟩) (c10 : PySem.W.codeIn K cd10 (nameOf "is_out") = true) (k10 : PySem.W.keepIn K (.ref f10) = true)
    (a11 : PySem.W.nsIn K mainGlobals (nameOf "found_hours") = some (some (.ref f11))) (l11 : K.lookup f11 = some ⟨oc11, od11, .func (PySem.W.fnOf (nameOf "found_hours") (nameOf "found_hours") (defArgs (topS 18)) (defBody (topS 18)) (defScope (topS 18)) .none kV11 dc11 pm11 an11 cd11 ct11), sl11⟩) (c11 : PySem.W.codeIn K cd11 (nameOf "found_hours") = true) (k11 : PySem.W.keepIn K (.ref f11) = true)
    (a12 : PySem.W.nsIn K mainGlobals (nameOf "check_two") = some (some (.ref f12))) (l12 : K.lookup f12 = some ⟨oc12, od12, .func (PySem.W.fnOf (nameOf "check_two") (nameOf "check_two") (defArgs (topS 19)) (defBody (topS 19)) (defScope (topS 19)) .none kV12 dc12 pm12 an12 cd12 ct12), sl12⟩) (c12 : PySem.W.codeIn K cd12 (nameOf "check_two") = true) (k12 : PySem.W.keepIn K (.ref f12) = true)
    (a13 : PySem.W.nsIn K mainGlobals (nameOf "hours_out") = some (some (.ref f13))) (l13 : K.lookup f13 = some ⟨oc13, od13, .func (PySem.W.fnOf (nameOf "hours_out") (nameOf "hours_out") (defArgs (topS 20)) (defBody (topS 20)) (defScope (topS 20)) .none kV13 dc13 pm13 an13 cd13 ct13), sl13⟩) (c13 : PySem.W.codeIn K cd13 (nameOf "hours_out") = true) (k13 : PySem.W.keepIn K (.ref f13) = true)
    (a14 : PySem.W.nsIn K mainGlobals (nameOf "greatest_draught") = some (some (.ref f14))) (l14 : K.lookup f14 = some ⟨oc14, od14, .func (PySem.W.fnOf (nameOf "greatest_draught") (nameOf "greatest_draught") (defArgs (topS 21)) (defBody (topS 21)) (defScope (topS 21)) .none kV14 dc14 pm14 an14 cd14 ct14), sl14⟩) (c14 : PySem.W.codeIn K cd14 (nameOf "greatest_draught") = true) (k14 : PySem.W.keepIn K (.ref f14) = true)
    (a15 : PySem.W.nsIn K mainGlobals (nameOf "sure_draught") = some (some (.ref f15))) (l15 : K.lookup f15 = some ⟨oc15, od15, .func (PySem.W.fnOf (nameOf "sure_draught") (nameOf "sure_draught") (defArgs (topS 22)) (defBody (topS 22)) (defScope (topS 22)) .none kV15 dc15 pm15 an15 cd15 ct15), sl15⟩) (c15 : PySem.W.codeIn K cd15 (nameOf "sure_draught") = true) (k15 : PySem.W.keepIn K (.ref f15) = true)
    (a16 : PySem.W.nsIn K mainGlobals (nameOf "is_needless") = some (some (.ref f16))) (l16 : K.lookup f16 = some ⟨oc16, od16, .func (PySem.W.fnOf (nameOf "is_needless") (nameOf "is_needless") (defArgs (topS 23)) (defBody (topS 23)) (defScope (topS 23)) .none kV16 dc16 pm16 an16 cd16 ct16), sl16⟩) (c16 : PySem.W.codeIn K cd16 (nameOf "is_needless") = true) (k16 : PySem.W.keepIn K (.ref f16) = true)
    (a17 : PySem.W.nsIn K mainGlobals (nameOf "needless_bars") = some (some (.ref f17))) (l17 : K.lookup f17 = some ⟨oc17, od17, .func (PySem.W.fnOf (nameOf "needless_bars") (nameOf "needless_bars") (defArgs (topS 24)) (defBody (topS 24)) (defScope (topS 24)) .none kV17 dc17 pm17 an17 cd17 ct17), sl17⟩) (c17 : PySem.W.codeIn K cd17 (nameOf "needless_bars") = true) (k17 : PySem.W.keepIn K (.ref f17) = true)
    (a18 : PySem.W.nsIn K mainGlobals (nameOf "_law_town") = some (some (.ref f18))) (l18 : K.lookup f18 = some ⟨oc18, od18, .func (PySem.W.fnOf (nameOf "_law_town") (nameOf "_law_town") (defArgs (topS 26)) (defBody (topS 26)) (defScope (topS 26)) .none kV18 dc18 pm18 an18 cd18 ct18), sl18⟩) (c18 : PySem.W.codeIn K cd18 (nameOf "_law_town") = true) (k18 : PySem.W.keepIn K (.ref f18) = true)
    (a19 : PySem.W.nsIn K mainGlobals (nameOf "_law_draw") = some (some (.ref f19))) (l19 : K.lookup f19 = some ⟨oc19, od19, .func (PySem.W.fnOf (nameOf "_law_draw") (nameOf "_law_draw") (defArgs (topS 27)) (defBody (topS 27)) (defScope (topS 27)) .none kV19 dc19 pm19 an19 cd19 ct19), sl19⟩) (c19 : PySem.W.codeIn K cd19 (nameOf "_law_draw") = true) (k19 : PySem.W.keepIn K (.ref f19) = true)
    (a20 : PySem.W.nsIn K mainGlobals (nameOf "_law_pick") = some (some (.ref f20))) (l20 : K.lookup f20 = some ⟨oc20, od20, .func (PySem.W.fnOf (nameOf "_law_pick") (nameOf "_law_pick") (defArgs (topS 28)) (defBody (topS 28)) (defScope (topS 28)) .none kV20 dc20 pm20 an20 cd20 ct20), sl20⟩) (c20 : PySem.W.codeIn K cd20 (nameOf "_law_pick") = true) (k20 : PySem.W.keepIn K (.ref f20) = true)
    (a21 : PySem.W.nsIn K mainGlobals (nameOf "_law_bar") = some (some (.ref f21))) (l21 : K.lookup f21 = some ⟨oc21, od21, .func (PySem.W.fnOf (nameOf "_law_bar") (nameOf "_law_bar") (defArgs (topS 29)) (defBody (topS 29)) (defScope (topS 29)) .none kV21 dc21 pm21 an21 cd21 ct21), sl21⟩) (c21 : PySem.W.codeIn K cd21 (nameOf "_law_bar") = true) (k21 : PySem.W.keepIn K (.ref f21) = true)
    (a22 : PySem.W.nsIn K mainGlobals (nameOf "_law_channel") = some (some (.ref f22))) (l22 : K.lookup f22 = some ⟨oc22, od22, .func (PySem.W.fnOf (nameOf "_law_channel") (nameOf "_law_channel") (defArgs (topS 30)) (defBody (topS 30)) (defScope (topS 30)) .none kV22 dc22 pm22 an22 cd22 ct22), sl22⟩) (c22 : PySem.W.codeIn K cd22 (nameOf "_law_channel") = true) (k22 : PySem.W.keepIn K (.ref f22) = true)
    (a23 : PySem.W.nsIn K mainGlobals (nameOf "_law_period") = some (some (.ref f23))) (l23 : K.lookup f23 = some ⟨oc23, od23, .func (PySem.W.fnOf (nameOf "_law_period") (nameOf "_law_period") (defArgs (topS 31)) (defBody (topS 31)) (defScope (topS 31)) .none kV23 dc23 pm23 an23 cd23 ct23), sl23⟩) (c23 : PySem.W.codeIn K cd23 (nameOf "_law_period") = true) (k23 : PySem.W.keepIn K (.ref f23) = true)
    (a24 : PySem.W.nsIn K mainGlobals (nameOf "_law_all") = some (some (.ref f24))) (l24 : K.lookup f24 = some ⟨oc24, od24, .func (PySem.W.fnOf (nameOf "_law_all") (nameOf "_law_all") (defArgs (topS 32)) (defBody (topS 32)) (defScope (topS 32)) .none kV24 dc24 pm24 an24 cd24 ct24), sl24⟩) (c24 : PySem.W.codeIn K cd24 (nameOf "_law_all") = true) (k24 : PySem.W.keepIn K (.ref f24) = true)
    (a25 : PySem.W.nsIn K mainGlobals (nameOf "_law_out") = some (some (.ref f25))) (l25 : K.lookup f25 = some ⟨oc25, od25, .func (PySem.W.fnOf (nameOf "_law_out") (nameOf "_law_out") (defArgs (topS 33)) (defBody (topS 33)) (defScope (topS 33)) .none kV25 dc25 pm25 an25 cd25 ct25), sl25⟩) (c25 : PySem.W.codeIn K cd25 (nameOf "_law_out") = true) (k25 : PySem.W.keepIn K (.ref f25) = true)
    (a26 : PySem.W.nsIn K mainGlobals (nameOf "law") = some (some (.ref f26))) (l26 : K.lookup f26 = some ⟨oc26, od26, .func (PySem.W.fnOf (nameOf "law") (nameOf "law") (defArgs (topS 34)) (defBody (topS 34)) (defScope (topS 34)) .none kV26 dc26 pm26 an26 cd26 ct26), sl26⟩) (c26 : PySem.W.codeIn K cd26 (nameOf "law") = true) (k26 : PySem.W.keepIn K (.ref f26) = true)
    (ea0 : PySem.W.nsIn K mainGlobals (nameOf "TideError") = some (some (.ref C0))) (eb0 : PySem.W.keepIn K (.ref C0) = true) (ec0 : PySem.W.excIn K C0 [.type "ValueError", .type "Exception", .type "BaseException", .type "object"] "ValueError.__new__" = true) (ed0 : PySem.W.subIn K (.ref C0) (.type "BaseException") = some true) (ee0 : PySem.W.typeIn K (.ref C0) = some (.type "type"))
    (ea1 : PySem.W.nsIn K mainGlobals (nameOf "InvalidChannel") = some (some (.ref C1))) (eb1 : PySem.W.keepIn K (.ref C1) = true) (ec1 : PySem.W.excIn K C1 [.type "ValueError", .type "Exception", .type "BaseException", .type "object"] "ValueError.__new__" = true) (ed1 : PySem.W.subIn K (.ref C1) (.type "BaseException") = some true) (ee1 : PySem.W.typeIn K (.ref C1) = some (.type "type"))
    (ea2 : PySem.W.nsIn K mainGlobals (nameOf "InvalidDraught") = some (some (.ref C2))) (eb2 : PySem.W.keepIn K (.ref C2) = true) (ec2 : PySem.W.excIn K C2 [.type "ValueError", .type "Exception", .type "BaseException", .type "object"] "ValueError.__new__" = true) (ed2 : PySem.W.subIn K (.ref C2) (.type "BaseException") = some true) (ee2 : PySem.W.typeIn K (.ref C2) = some (.type "type"))
    (z_len : PySem.W.nsIn K mainGlobals (nameOf "len") = some none) (z_tuple : PySem.W.nsIn K mainGlobals (nameOf "tuple") = some none) (z_list : PySem.W.nsIn K mainGlobals (nameOf "list") = some none) (z_abs : PySem.W.nsIn K mainGlobals (nameOf "abs") = some none) (z_min : PySem.W.nsIn K mainGlobals (nameOf "min") = some none) (z_max : PySem.W.nsIn K mainGlobals (nameOf "max") = some none) (z_sum : PySem.W.nsIn K mainGlobals (nameOf "sum") = some none) (z_all : PySem.W.nsIn K mainGlobals (nameOf "all") = some none) (z_any : PySem.W.nsIn K mainGlobals (nameOf "any") = some none) (z_sorted : PySem.W.nsIn K mainGlobals (nameOf "sorted") = some none) (z_int : PySem.W.nsIn K mainGlobals (nameOf "int") = some none) (z_range : PySem.W.nsIn K mainGlobals (nameOf "range") = some none) (z_zip : PySem.W.nsIn K mainGlobals (nameOf "zip") = some none) (z_enumerate : PySem.W.nsIn K mainGlobals (nameOf "enumerate") = some none) (z_isinstance : PySem.W.nsIn K mainGlobals (nameOf "isinstance") = some none) (z_bool : PySem.W.nsIn K mainGlobals (nameOf "bool") = some none) (z_str : PySem.W.nsIn K mainGlobals (nameOf "str") = some none) (z_dict : PySem.W.nsIn K mainGlobals (nameOf "dict") = some none) (z_set : PySem.W.nsIn K mainGlobals (nameOf "set") = some none) :
    ∃ fd : FuncData, (∀ (s : Shared) (v : Value), BindsTo s fd ⟨[v], []⟩ [("script", v)]) ∧ ∀ base : Heap, K.In base → base.Ns mainGlobals mg → FnOk P w K mg base (L2.CX P w) 27 fa fd ["script"] (spLaw K) := by
  have e := hfa.symm.trans (PySem.W.mg_of X G a26)
  cases e
  have excs : ∀ x ∈ lX, ExcOk K mg x := by
    intro x hx
    simp only [lX, List.mem_cons, List.not_mem_nil, or_false] at hx
    rcases hx with rfl | rfl | rfl
    · exact exc_mk X G ea0 eb0 ec0 ed0 ee0
    · exact exc_mk X G ea1 eb1 ec1 ed1 ee1
    · exact exc_mk X G ea2 eb2 ec2 ed2 ee2
  have z0 : Srcz K mg lX L_0 := .nil
  have z1 : Srcz K mg lX L_1 := .cons (src_mk X G (st := topS 5) (N := N_0) (ps := P_0) (G := G_0) a0 l0 c0 k0 (fun _ _ _ _ _ _ us hl => match us, hl with | [_, _, _], _ => rfl) f_0 rfl rfl k_0) (by decide) z0
  have z2 : Srcz K mg lX L_2 := .cons (src_mk X G (st := topS 6) (N := N_1) (ps := P_1) (G := G_1) a1 l1 c1 k1 (fun _ _ _ _ _ _ us hl => match us, hl with | [_, _, _, _], _ => rfl) f_1 rfl rfl k_1) (by decide) z1
  have z3 : Srcz K mg lX L_3 := .cons (src_mk X G (st := topS 7) (N := N_2) (ps := P_2) (G := G_2) a2 l2 c2 k2 (fun _ _ _ _ _ _ us hl => match us, hl with | [_], _ => rfl) f_2 rfl rfl k_2) (by decide) z2
  have z4 : Srcz K mg lX L_4 := .cons (src_mk X G (st := topS 8) (N := N_3) (ps := P_3) (G := G_3) a3 l3 c3 k3 (fun _ _ _ _ _ _ us hl => match us, hl with | [_], _ => rfl) f_3 rfl rfl k_3) (by decide) z3
  have z5 : Srcz K mg lX L_5 := .cons (src_mk X G (st := topS 9) (N := N_4) (ps := P_4) (G := G_4) a4 l4 c4 k4 (fun _ _ _ _ _ _ us hl => match us, hl with | [_], _ => rfl) f_4 rfl rfl k_4) (by decide) z4
  have z6 : Srcz K mg lX L_6 := .cons (src_mk X G (st := topS 10) (N := N_5) (ps := P_5) (G := G_5) a5 l5 c5 k5 (fun _ _ _ _ _ _ us hl => match us, hl with | [_, _], _ => rfl) f_5 rfl rfl k_5) (by decide) z5
  have z7 : Srcz K mg lX L_7 := .cons (src_mk X G (st := topS 11) (N := N_6) (ps := P_6) (G := G_6) a6 l6 c6 k6 (fun _ _ _ _ _ _ us hl => match us, hl with | [_], _ => rfl) f_6 rfl rfl k_6) (by decide) z6
  have z8 : Srcz K mg lX L_8 := .cons (src_mk X G (st := topS 12) (N := N_7) (ps := P_7) (G := G_7) a7 l7 c7 k7 (fun _ _ _ _ _ _ us hl => match us, hl with | [_], _ => rfl) f_7 rfl rfl k_7) (by decide) z7
  have z9 : Srcz K mg lX L_9 := .cons (src_mk X G (st := topS 13) (N := N_8) (ps := P_8) (G := G_8) a8 l8 c8 k8 (fun _ _ _ _ _ _ us hl => match us, hl with | [_, _, _], _ => rfl) f_8 rfl rfl k_8) (by decide) z8
  have z10 : Srcz K mg lX L_10 := .cons (src_mk X G (st := topS 15) (N := N_9) (ps := P_9) (G := G_9) a9 l9 c9 k9 (fun _ _ _ _ _ _ us hl => match us, hl with | [_, _, _], _ => rfl) f_9 rfl rfl k_9) (by decide) z9
  have z11 : Srcz K mg lX L_11 := .cons (src_mk X G (st := topS 17) (N := N_10) (ps := P_10) (G := G_10) a10 l10 c10 k10 (fun _ _ _ _ _ _ us hl => match us, hl with | [_, _, _], _ => rfl) f_10 rfl rfl k_10) (by decide) z10
  have z12 : Srcz K mg lX L_12 := .cons (src_mk X G (st := topS 18) (N := N_11) (ps := P_11) (G := G_11) a11 l11 c11 k11 (fun _ _ _ _ _ _ us hl => match us, hl with | [_, _], _ => rfl) f_11 rfl rfl k_11) (by decide) z11
  have z13 : Srcz K mg lX L_13 := .cons (src_mk X G (st := topS 19) (N := N_12) (ps := P_12) (G := G_12) a12 l12 c12 k12 (fun _ _ _ _ _ _ us hl => match us, hl with | [_, _], _ => rfl) f_12 rfl rfl k_12) (by decide) z12
  have z14 : Srcz K mg lX L_14 := .cons (src_mk X G (st := topS 20) (N := N_13) (ps := P_13) (G := G_13) a13 l13 c13 k13 (fun _ _ _ _ _ _ us hl => match us, hl with | [_, _], _ => rfl) f_13 rfl rfl k_13) (by decide) z13
  have z15 : Srcz K mg lX L_15 := .cons (src_mk X G (st := topS 21) (N := N_14) (ps := P_14) (G := G_14) a14 l14 c14 k14 (fun _ _ _ _ _ _ us hl => match us, hl with | [_], _ => rfl) f_14 rfl rfl k_14) (by decide) z14
  have z16 : Srcz K mg lX L_16 := .cons (src_mk X G (st := topS 22) (N := N_15) (ps := P_15) (G := G_15) a15 l15 c15 k15 (fun _ _ _ _ _ _ us hl => match us, hl with | [_], _ => rfl) f_15 rfl rfl k_15) (by decide) z15
  have z17 : Srcz K mg lX L_17 := .cons (src_mk X G (st := topS 23) (N := N_16) (ps := P_16) (G := G_16) a16 l16 c16 k16 (fun _ _ _ _ _ _ us hl => match us, hl with | [_, _], _ => rfl) f_16 rfl rfl k_16) (by decide) z16
  have z18 : Srcz K mg lX L_18 := .cons (src_mk X G (st := topS 24) (N := N_17) (ps := P_17) (G := G_17) a17 l17 c17 k17 (fun _ _ _ _ _ _ us hl => match us, hl with | [_], _ => rfl) f_17 rfl rfl k_17) (by decide) z17
  have z19 : Srcz K mg lX L_19 := .cons (src_mk X G (st := topS 26) (N := N_18) (ps := P_18) (G := G_18) a18 l18 c18 k18 (fun _ _ _ _ _ _ us hl => match us, hl with | [_], _ => rfl) f_18 rfl rfl k_18) (by decide) z18
  have z20 : Srcz K mg lX L_20 := .cons (src_mk X G (st := topS 27) (N := N_19) (ps := P_19) (G := G_19) a19 l19 c19 k19 (fun _ _ _ _ _ _ us hl => match us, hl with | [_, _, _], _ => rfl) f_19 rfl rfl k_19) (by decide) z19
  have z21 : Srcz K mg lX L_21 := .cons (src_mk X G (st := topS 28) (N := N_20) (ps := P_20) (G := G_20) a20 l20 c20 k20 (fun _ _ _ _ _ _ us hl => match us, hl with | [_, _, _], _ => rfl) f_20 rfl rfl k_20) (by decide) z20
  have z22 : Srcz K mg lX L_22 := .cons (src_mk X G (st := topS 29) (N := N_21) (ps := P_21) (G := G_21) a21 l21 c21 k21 (fun _ _ _ _ _ _ us hl => match us, hl with | [_, _, _], _ => rfl) f_21 rfl rfl k_21) (by decide) z21
  have z23 : Srcz K mg lX L_23 := .cons (src_mk X G (st := topS 30) (N := N_22) (ps := P_22) (G := G_22) a22 l22 c22 k22 (fun _ _ _ _ _ _ us hl => match us, hl with | [_, _, _, _], _ => rfl) f_22 rfl rfl k_22) (by decide) z22
  have z24 : Srcz K mg lX L_24 := .cons (src_mk X G (st := topS 31) (N := N_23) (ps := P_23) (G := G_23) a23 l23 c23 k23 (fun _ _ _ _ _ _ us hl => match us, hl with | [_], _ => rfl) f_23 rfl rfl k_23) (by decide) z23
  have z25 : Srcz K mg lX L_25 := .cons (src_mk X G (st := topS 32) (N := N_24) (ps := P_24) (G := G_24) a24 l24 c24 k24 (fun _ _ _ _ _ _ us hl => match us, hl with | [_, _, _], _ => rfl) f_24 rfl rfl k_24) (by decide) z24
  have z26 : Srcz K mg lX L_26 := .cons (src_mk X G (st := topS 33) (N := N_25) (ps := P_25) (G := G_25) a25 l25 c25 k25 (fun _ _ _ _ _ _ us hl => match us, hl with | [_, _], _ => rfl) f_25 rfl rfl k_25) (by decide) z25
  exact ⟨_, fun s v => .of_eq rfl, fun base _ _ => law_fn X G (st := topS 34) (N := N_26) (G := G_26) (L := L_26) l26 c26 k26 f_26 rfl rfl (by decide) k_26 z26 excs (blts_of X G z_len z_tuple z_list z_abs z_min z_max z_sum z_all z_any z_sorted z_int z_range z_zip z_enumerate z_isinstance z_bool z_str z_dict z_set) law_true⟩
end TW
open PySem PySem.W PyProof.Rows
set_option maxHeartbeats 0 in
theorem PySem.Challenge.cw_tidewindows_k12_needless_bars_holds : PySem.Challenge.rw_tidewindows_k12_needless_bars.Holds := by
  w_on; o_law; k_head; (case hw => w_witness2)
  k_fill
  refine L2.walk_of (l := PySem.Challenge.rw_tidewindows_k12_needless_bars) (n := 63) (k := 27) (x := "script") (CX := fun w => L2.CX (PySem.Challenge.rw_tidewindows_k12_needless_bars).prog w) (sp := fun w => TW.spLaw _) rfl (by decide) rfl ⟨rfl, by decide, by decide⟩ (fun w h Y => PySem.W.kIn_of Y) ?F (fun _ _ a ns hl _ hS => ⟨a, ns, rfl, hS, hl, fun _ => rfl⟩) TW.no_cx
  case F =>
    intro w mg fa h KX G hmg
    refine' TW.all_mk KX G hmg ?a0 ?l0 ?c0 ?k0 ?a1 ?l1 ?c1 ?k1 ?a2 ?l2 ?c2 ?k2 ?a3 ?l3 ?c3 ?k3 ?a4 ?l4 ?c4 ?k4 ?a5 ?l5 ?c5 ?k5 ?a6 ?l6 ?c6 ?k6 ?a7 ?l7 ?c7 ?k7 ?a8 ?l8 ?c8 ?k8 ?a9 ?l9 ?c9 ?k9 ?a10 ?l10 ?c10 ?k10 ?a11 ?l11 ?c11 ?k11 ?a12 ?l12 ?c12 ?k12 ?a13 ?l13 ?c13 ?k13 ?a14 ?l14 ?c14 ?k14 ?a15 ?l15 ?c15 ?k15 ?a16 ?l16 ?c16 ?k16 ?a17 ?l17 ?c17 ?k17 ?a18 ?l18 ?c18 ?k18 ?a19 ?l19 ?c19 ?k19 ?a20 ?l20 ?c20 ?k20 ?a21 ?l21 ?c21 ?k21 ?a22 ?l22 ?c22 ?k22 ?a23 ?l23 ?c23 ?k23 ?a24 ?l24 ?c24 ?k24 ?a25 ?l25 ?c25 ?k25 ?a26 ?l26 ?c26 ?k26 ?ea0 ?eb0 ?ec0 ?ed0 ?ee0 ?ea1 ?eb1 ?ec1 ?ed1 ?ee1 ?ea2 ?eb2 ?ec2 ?ed2 ?ee2 ?z_len ?z_tuple ?z_list ?z_abs ?z_min ?z_max ?z_sum ?z_all ?z_any ?z_sorted ?z_int ?z_range ?z_zip ?z_enumerate ?z_isinstance ?z_bool ?z_str ?z_dict ?z_set
    (case a0 => k_is)
    (case l0 => k_is)
    (case c0 => k_is)
    (case k0 => k_is)
    (case a1 => k_is)
    (case l1 => k_is)
    (case c1 => k_is)
    (case k1 => k_is)
    (case a2 => k_is)
    (case l2 => k_is)
    (case c2 => k_is)
    (case k2 => k_is)
    (case a3 => k_is)
    (case l3 => k_is)
    (case c3 => k_is)
    (case k3 => k_is)
    (case a4 => k_is)
    (case l4 => k_is)
    (case c4 => k_is)
    (case k4 => k_is)
    (case a5 => k_is)
    (case l5 => k_is)
    (case c5 => k_is)
    (case k5 => k_is)
    (case a6 => k_is)
    (case l6 => k_is)
    (case c6 => k_is)
    (case k6 => k_is)
    (case a7 => k_is)
    (case l7 => k_is)
    (case c7 => k_is)
    (case k7 => k_is)
    (case a8 => k_is)
    (case l8 => k_is)
    (case c8 => k_is)
    (case k8 => k_is)
    (case a9 => k_is)
    (case l9 => k_is)
    (case c9 => k_is)
    (case k9 => k_is)
    (case a10 => k_is)
    (case l10 => k_is)
    (case c10 => k_is)
    (case k10 => k_is)
    (case a11 => k_is)
    (case l11 => k_is)
    (case c11 => k_is)
    (case k11 => k_is)
    (case a12 => k_is)
    (case l12 => k_is)
    (case c12 => k_is)
    (case k12 => k_is)
    (case a13 => k_is)
    (case l13 => k_is)
    (case c13 => k_is)
    (case k13 => k_is)
    (case a14 => k_is)
    (case l14 => k_is)
    (case c14 => k_is)
    (case k14 => k_is)
    (case a15 => k_is)
    (case l15 => k_is)
    (case c15 => k_is)
    (case k15 => k_is)
    (case a16 => k_is)
    (case l16 => k_is)
    (case c16 => k_is)
    (case k16 => k_is)
    (case a17 => k_is)
    (case l17 => k_is)
    (case c17 => k_is)
    (case k17 => k_is)
    (case a18 => k_is)
    (case l18 => k_is)
    (case c18 => k_is)
    (case k18 => k_is)
    (case a19 => k_is)
    (case l19 => k_is)
    (case c19 => k_is)
    (case k19 => k_is)
    (case a20 => k_is)
    (case l20 => k_is)
    (case c20 => k_is)
    (case k20 => k_is)
    (case a21 => k_is)
    (case l21 => k_is)
    (case c21 => k_is)
    (case k21 => k_is)
    (case a22 => k_is)
    (case l22 => k_is)
    (case c22 => k_is)
    (case k22 => k_is)
    (case a23 => k_is)
    (case l23 => k_is)
    (case c23 => k_is)
    (case k23 => k_is)
    (case a24 => k_is)
    (case l24 => k_is)
    (case c24 => k_is)
    (case k24 => k_is)
    (case a25 => k_is)
    (case l25 => k_is)
    (case c25 => k_is)
    (case k25 => k_is)
    (case a26 => k_is)
    (case l26 => k_is)
    (case c26 => k_is)
    (case k26 => k_is)
    (case ea0 => k_is)
    (case eb0 => k_is)
    (case ec0 => k_exc)
    (case ed0 => k_is)
    (case ee0 => k_is)
    (case ea1 => k_is)
    (case eb1 => k_is)
    (case ec1 => k_exc)
    (case ed1 => k_is)
    (case ee1 => k_is)
    (case ea2 => k_is)
    (case eb2 => k_is)
    (case ec2 => k_exc)
    (case ed2 => k_is)
    (case ee2 => k_is)
    (case z_len => k_is)
    (case z_tuple => k_is)
    (case z_list => k_is)
    (case z_abs => k_is)
    (case z_min => k_is)
    (case z_max => k_is)
    (case z_sum => k_is)
    (case z_all => k_is)
    (case z_any => k_is)
    (case z_sorted => k_is)
    (case z_int => k_is)
    (case z_range => k_is)
    (case z_zip => k_is)
    (case z_enumerate => k_is)
    (case z_isinstance => k_is)
    (case z_bool => k_is)
    (case z_str => k_is)
    (case z_dict => k_is)
    (case z_set => k_is)
